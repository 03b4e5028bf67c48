import PyProof.Rows.All
import Wide.All
import OpenK.AllK
import Wide.FinOn
import KE.KStateDown
import Lean
import HandS.Head0
import HandS.Head1
import HandS.Head2
import HandS.HeadEnd
import HandS.HeadHook1
import HandS.HeadHook2
import HandS.ForMost
import HandS.Wide
import HandS.Walk
import HandS.Style
import HandS.IsInst
import HandS.TupAny
import HandS.TupMul
import HandS.Defaults
import HandS.Exc
import HandS.Zip
import PyProof.EnumMake
import PyProof.Draws
import HandS.Conv
import HandS.Iter
import HandS.Steps
import HandS.Dict
import HandS.RaiseMore
import HandS.SortInts
import HandS.SetFor
import HandS.TryOnly
import PyProof.ReprBulk
import KE.GoesMore
import KE.GoesEnum
import KE.SortData
import HandS.Codes
import PyProof.Rows.ReprOcc
import HandS.TupSets
import HandS.ExcOwn
import HandS.ExcIs
import HandS.WordsExc
import KE.DataCmp
import KE.SortCalls
import KE.LtData
import KE.LtSeq
import KE.KSortAsk
import HandS.Set
import HandS.ExcValue
import PyProof.TupleOfSeq
import KE.KDictZip
import KE.KDictItemsList
import HandS.Deep
import KE.KTupSum
import HandS.SortKw
import KE.DataMinMax
import KE.DataAny
import PyProof.StrLawsRepr
import HandS.Text
import HandS.SuiteRaise
import HandS.RaiseFrom
import PySem.Challenge.RW_roundwords_k05_rounds_and_roots
set_option Elab.async false
set_option linter.all false
set_option maxRecDepth 100000
namespace DL
open PySem PySem.Spec PyProof.Rows L2

def ExK (cls : Value) (a : Addr) : HO := .ext fun h => ∃ oe : Obj, h.get? a = some oe ∧ (oe.cls = cls ∧ oe.dict = none) ∧ ∃ vs, oe.data = .fields vs
inductive D where
  | non | bl (b : Bool) | int (i : Int) | str (x : Str)
  | tup (xs : List D) | lst (xs : List D) | dic (es : List (Key × D)) | obj (c : Str) (fs : List (Str × D)) | purse | scr (xs : List D) | dlk (es : List (Key × D)) | dlt (ks : List (List Key)) (es : List D) | exc (c : Str)
  deriving Inhabited

structure Wd where
  F : Hp
  U : Option (Addr × Addr)

structure Gm where
  mg : Str → Option Value
  K : PySem.W.Frag
abbrev gm (X : Cx) : Gm := ⟨X.mg, X.K⟩

section
variable (mg : Gm) (W : Wd)
mutual
inductive Rel : V → D → Prop
  | non : Rel .non .non
  | bl (b : Bool) : Rel (.bl b) (.bl b)
  | int (i : Int) : Rel (.int i) (.int i)
  | str (x : Str) : Rel (.str x) (.str x)
  | tup {a : Addr} {vs : List V} {ds : List D} : W.F a = some (.tup vs) → RelL vs ds → Rel (.ref a) (.tup ds)
  | lst {a : Addr} {vs : List V} {ds : List D} : W.F a = some (.lst vs) → RelL vs ds → Rel (.ref a) (.lst ds)
  | dic {a : Addr} {kvs : List (Key × V)} {es : List (Key × D)} : W.F a = some (.dK kvs) → RelK kvs es → Rel (.ref a) (.dic es)
  | obj {a C dx : Addr} {kvs : List (Str × V)} {c : Str} {fs : List (Str × D)} : W.F a = some (.ins C dx kvs) → mg.mg c = some (.ref C) → RelA kvs fs → Rel (.ref a) (.obj c fs)
  | purse {a g : Addr} : W.U = some (a, g) → Rel (.ref a) .purse
  | scr {a : Addr} {vs : List V} {ds : List D} : SqL mg.K W.F a vs → RelL vs ds → Rel (.ref a) (.scr ds)
  | dlk {a : Addr} {kvs : List (Key × V)} {es : List (Key × D)} : Rd W.F a (.dK kvs) → RelK kvs es → Rel (.ref a) (.dlk es)
  | dlt {a : Addr} {kvs : List (List Key × V)} {ks : List (List Key)} {es : List D} : W.F a = some (.dT kvs) → kvs.map Prod.fst = ks → RelL (kvs.map Prod.snd) es → Rel (.ref a) (.dlt ks es)
  | exc {a C : Addr} {c : Str} : mg.mg c = some (.ref C) → W.F a = some (ExK (.ref C) a) → Rel (.ref a) (.exc c)
inductive RelL : List V → List D → Prop
  | nil : RelL [] []
  | cons {v : V} {vs : List V} {d : D} {ds : List D} : Rel v d → RelL vs ds → RelL (v :: vs) (d :: ds)
inductive RelK : List (Key × V) → List (Key × D) → Prop
  | nil : RelK [] []
  | cons {k : Key} {v : V} {vs : List (Key × V)} {d : D} {ds : List (Key × D)} : Rel v d → RelK vs ds → RelK ((k, v) :: vs) ((k, d) :: ds)
inductive RelA : List (Str × V) → List (Str × D) → Prop
  | nil : RelA [] []
  | cons {k : Str} {v : V} {vs : List (Str × V)} {d : D} {ds : List (Str × D)} : Rel v d → RelA vs ds → RelA ((k, v) :: vs) ((k, d) :: ds)
end
end

structure Wle (W W' : Wd) : Prop where
  mono : ∀ a o, W.F a = some o → W'.F a = some o
  u : ∀ x, W.U = some x → W'.U = some x
theorem Wle.refl (W : Wd) : Wle W W := ⟨fun _ _ h => h, fun _ h => h⟩
theorem Wle.trans {W W' W'' : Wd} (a : Wle W W') (b : Wle W' W'') : Wle W W'' := ⟨fun c o h => b.mono c o (a.mono c o h), fun x h => b.u x (a.u x h)⟩

section
variable {mg : Gm} {W W' : Wd}
mutual
theorem Rel.mono (l : Wle W W') : ∀ {v : V} {d : D}, Rel mg W v d → Rel mg W' v d
  | _, _, .non => .non
  | _, _, .bl b => .bl b
  | _, _, .int i => .int i
  | _, _, .str x => .str x
  | _, _, .tup h r => .tup (l.mono _ _ h) (RelL.mono l r)
  | _, _, .lst h r => .lst (l.mono _ _ h) (RelL.mono l r)
  | _, _, .dic h r => .dic (l.mono _ _ h) (RelK.mono l r)
  | _, _, .obj h c r => .obj (l.mono _ _ h) c (RelA.mono l r)
  | _, _, .purse h => .purse (l.u _ h)
  | _, _, .scr h r => .scr (Same.seq l.mono h) (RelL.mono l r)
  | _, _, .dlk h r => .dlk (h.imp (l.mono _ _) fun ⟨o, q⟩ => ⟨o, l.mono _ _ q⟩) (RelK.mono l r)
  | _, _, .dlt h e r => .dlt (l.mono _ _ h) e (RelL.mono l r)
  | _, _, .exc m h => .exc m (l.mono _ _ h)
theorem RelL.mono (l : Wle W W') : ∀ {vs : List V} {ds : List D}, RelL mg W vs ds → RelL mg W' vs ds
  | _, _, .nil => .nil
  | _, _, .cons h t => .cons (Rel.mono l h) (RelL.mono l t)
theorem RelK.mono (l : Wle W W') : ∀ {vs : List (Key × V)} {ds : List (Key × D)}, RelK mg W vs ds → RelK mg W' vs ds
  | _, _, .nil => .nil
  | _, _, .cons h t => .cons (Rel.mono l h) (RelK.mono l t)
theorem RelA.mono (l : Wle W W') : ∀ {vs : List (Str × V)} {ds : List (Str × D)}, RelA mg W vs ds → RelA mg W' vs ds
  | _, _, .nil => .nil
  | _, _, .cons h t => .cons (Rel.mono l h) (RelA.mono l t)
end
theorem RelL.length : ∀ {vs : List V} {ds : List D}, RelL mg W vs ds → vs.length = ds.length
  | _, _, .nil => rfl
  | _, _, .cons _ t => congrArg (· + 1) (RelL.length t)
theorem RelL.get : ∀ {vs : List V} {ds : List D} {i : Nat} {d : D}, RelL mg W vs ds → ds[i]? = some d → ∃ v, vs[i]? = some v ∧ Rel mg W v d
  | _, _, _, _, .nil, e => by simp at e
  | _, _, 0, _, .cons r _, e => by simp at e; subst e; exact ⟨_, rfl, r⟩
  | _, _, i + 1, d, .cons _ t, e => by
    obtain ⟨v, h1, h2⟩ := RelL.get (i := i) (d := d) t (by simpa using e)
    exact ⟨v, by simpa using h1, h2⟩
theorem RelL.set {v : V} {d : D} (r : Rel mg W v d) : ∀ {vs : List V} {ds : List D} (i : Nat), RelL mg W vs ds → RelL mg W (vs.set i v) (ds.set i d)
  | _, _, _, .nil => .nil
  | _, _, 0, .cons _ t => .cons r t
  | _, _, i + 1, .cons q t => .cons q (RelL.set r i t)
theorem RelL.append : ∀ {vs vs' : List V} {ds ds' : List D}, RelL mg W vs ds → RelL mg W vs' ds' → RelL mg W (vs ++ vs') (ds ++ ds')
  | _, _, _, _, .nil, s => s
  | _, _, _, _, .cons r t, s => .cons r (RelL.append t s)
theorem RelL.take : ∀ {vs : List V} {ds : List D} (n : Nat), RelL mg W vs ds → RelL mg W (vs.take n) (ds.take n)
  | _, _, 0, _ => .nil
  | _, _, _ + 1, .nil => .nil
  | _, _, n + 1, .cons r t => .cons r (RelL.take n t)
theorem RelL.drop : ∀ {vs : List V} {ds : List D} (n : Nat), RelL mg W vs ds → RelL mg W (vs.drop n) (ds.drop n)
  | _, _, 0, r => r
  | _, _, _ + 1, .nil => .nil
  | _, _, n + 1, .cons _ t => RelL.drop n t
theorem RelL.reverse : ∀ {vs : List V} {ds : List D}, RelL mg W vs ds → RelL mg W vs.reverse ds.reverse
  | _, _, .nil => .nil
  | _, _, .cons r t => by rw [List.reverse_cons, List.reverse_cons]; exact (RelL.reverse t).append (.cons r .nil)
theorem RelL.ints : ∀ {vs : List V} {is : List Int}, RelL mg W vs (is.map D.int) → vs = is.map V.int
  | [], [], _ => rfl
  | _, _ :: _, .cons (.int _) t => by rw [List.map_cons, RelL.ints t]
theorem RelL.bls : ∀ {vs : List V} {is : List Bool}, RelL mg W vs (is.map D.bl) → vs = is.map V.bl
  | [], [], _ => rfl
  | _, _ :: _, .cons (.bl _) t => by rw [List.map_cons, RelL.bls t]
theorem relL_ints : ∀ (is : List Int), RelL mg W (is.map V.int) (is.map D.int)
  | [] => .nil
  | i :: r => .cons (.int i) (relL_ints r)
end

structure PInv (s t : Int) (xs : List Int) : Prop where
  s0 : 0 ≤ s
  s1 : s < 2305843009213693951
  t0 : 0 ≤ t
  len : xs.length ≤ 63
  nn : ∀ x ∈ xs, 0 ≤ x
  sm : ∀ x ∈ xs, x < 10 ^ 120
structure PurseAt (F H : Hp) (a g : Addr) : Prop where
  fa : F a = none
  fg : F g = none
  ne : a ≠ g
  here : ∃ (s t : Int) (xs : List Int), H a = some (.lst [.ref g, .int s, .int t]) ∧ H g = some (.lst (xs.map V.int)) ∧ PInv s t xs
structure WOk (W : Wd) (H : Hp) : Prop where
  sub : ∀ a o, W.F a = some o → H a = some o
  pu : ∀ a g, W.U = some (a, g) → PurseAt W.F H a g
def NotP (W : Wd) (a : Addr) : Prop := ∀ x g, W.U = some (x, g) → a ≠ x ∧ a ≠ g
structure Up (W : Wd) (H : Hp) (W' : Wd) (H' : Hp) : Prop where
  mono : ∀ a o, W.F a = some o → W'.F a = some o
  keep : ∀ a o, H a = some o → NotP W a → H' a = some o
  dom : ∀ a, H' a = none → H a = none
  u : W'.U = W.U ∨ (W.U = none ∧ ∀ x g, W'.U = some (x, g) → H x = none ∧ H g = none)
structure Ext (W : Wd) (H : Hp) (W' : Wd) (H' : Hp) : Prop extends Up W H W' H' where
  new : ∀ a o, W'.F a = some o → W.F a = none → H a = none
section
variable {W W1 W2 : Wd} {H H1 H2 : Hp} {a : Addr} {o : HO}
theorem Up.refl (W : Wd) (H : Hp) : Up W H W H := ⟨fun _ _ h => h, fun _ _ h _ => h, fun _ h => h, .inl rfl⟩
theorem Up.le (e : Up W H W1 H1) : Wle W W1 := ⟨e.mono, fun x hx => by
  rcases e.u with h | ⟨h, _⟩
  · rw [h]; exact hx
  · rw [h] at hx; cases hx⟩
theorem Up.notP (e : Up W H W1 H1) (h : H a = some o) (n : NotP W a) : NotP W1 a := fun x g hu => by
  rcases e.u with q | ⟨_, q⟩
  · rw [q] at hu; exact n x g hu
  · obtain ⟨h1, h2⟩ := q x g hu
    exact ⟨ne_of_none h h1, ne_of_none h h2⟩
theorem Up.trans (e : Up W H W1 H1) (f : Up W1 H1 W2 H2) : Up W H W2 H2 := ⟨fun a o h => f.mono a o (e.mono a o h), fun a o h n => f.keep a o (e.keep a o h n) (e.notP h n), fun a h => e.dom a (f.dom a h), by
  rcases f.u with q | ⟨q, r⟩
  · rcases e.u with p | ⟨p, p2⟩
    · exact .inl (q.trans p)
    · exact .inr ⟨p, fun x g hu => p2 x g (by rw [← q]; exact hu)⟩
  · refine .inr ⟨?_, fun x g hu => ⟨e.dom x (r x g hu).1, e.dom g (r x g hu).2⟩⟩
    rcases e.u with p | ⟨p, _⟩
    · rw [← p]; exact q
    · exact p⟩
theorem Ext.refl (W : Wd) (H : Hp) : Ext W H W H := ⟨Up.refl W H, fun _ _ h n => by rw [h] at n; cases n⟩
theorem Ext.trans (e : Ext W H W1 H1) (f : Ext W1 H1 W2 H2) : Ext W H W2 H2 := ⟨e.toUp.trans f.toUp, fun a o h n => by
  cases q : W1.F a with
  | none => exact e.dom a (f.new a o h q)
  | some u => exact e.new a u q n⟩
theorem Ext.le (e : Ext W H W1 H1) : Wle W W1 := e.toUp.le
theorem WOk.free (w : WOk W H) (h : H a = none) : W.F a = none := by
  cases q : W.F a with
  | none => rfl
  | some u => rw [w.sub a u q] at h; cases h
theorem WOk.notP_new (w : WOk W H) (h : H a = none) : NotP W a := fun x g hu => by
  obtain ⟨_, _, _, s, t, xs, h1, h2, _⟩ := w.pu x g hu
  exact ⟨(ne_of_none h1 h).symm, (ne_of_none h2 h).symm⟩
theorem WOk.notP_F (w : WOk W H) (h : W.F a = some o) : NotP W a := fun x g hu => by
  have p := w.pu x g hu
  exact ⟨ne_of_none h p.fa, ne_of_none h p.fg⟩
def Wd.add (W : Wd) (a : Addr) (o : HO) : Wd := ⟨upd W.F a o, W.U⟩
theorem add_ext (w : WOk W H) (h : H a = none) (o : HO) : Ext W H (W.add a o) (upd H a o) := ⟨⟨fun b u q => by
    show upd W.F a o b = some u
    rw [upd_ne (ne_of_none (w.sub b u q) h)]; exact q, fun b u q _ => by rw [upd_ne (ne_of_none q h)]; exact q, fun b q => by
    by_cases e : b = a
    · subst e; exact h
    · rw [upd_ne e] at q; exact q, .inl rfl⟩, fun b u q n => by
    by_cases e : b = a
    · subst e; exact h
    · have q2 : upd W.F a o b = some u := q
      rw [upd_ne e, n] at q2; cases q2⟩
theorem add_ok (w : WOk W H) (h : H a = none) (o : HO) : WOk (W.add a o) (upd H a o) := ⟨fun b u q => by
    have q2 : upd W.F a o b = some u := q
    by_cases e : b = a
    · subst e; rw [upd_same] at q2 ⊢; exact q2
    · rw [upd_ne e] at q2 ⊢; exact w.sub b u q2, fun x g hu => by
    obtain ⟨f1, f2, ne, s, t, xs, h1, h2, h3⟩ := w.pu x g hu
    have n1 := ne_of_none h1 h
    have n2 := ne_of_none h2 h
    exact ⟨by show upd W.F a o x = none; rw [upd_ne n1]; exact f1, by show upd W.F a o g = none; rw [upd_ne n2]; exact f2, ne, s, t, xs, by rw [upd_ne n1]; exact h1, by rw [upd_ne n2]; exact h2, h3⟩⟩
theorem new_ext (w : WOk W H) (h : H a = none) (o : HO) : Ext W H W (upd H a o) := ⟨⟨fun b u q => q, fun b u q _ => by rw [upd_ne (ne_of_none q h)]; exact q, fun b q => by
    by_cases e : b = a
    · subst e; exact h
    · rw [upd_ne e] at q; exact q, .inl rfl⟩, fun b u q n => by rw [n] at q; cases q⟩
theorem WOk.store (w : WOk W H) (h : W.F a = none) (n : NotP W a) (o : HO) : WOk W (upd H a o) := ⟨fun b u q => by rw [upd_ne (ne_of_none q h)]; exact w.sub b u q, fun x g hu => by
    obtain ⟨f1, f2, ne, s, t, xs, h1, h2, h3⟩ := w.pu x g hu
    obtain ⟨n1, n2⟩ := n x g hu
    exact ⟨f1, f2, ne, s, t, xs, by rw [upd_ne (Ne.symm n1)]; exact h1, by rw [upd_ne (Ne.symm n2)]; exact h2, h3⟩⟩
theorem WOk.new (w : WOk W H) (h : H a = none) (o : HO) : WOk W (upd H a o) := w.store (w.free h) (w.notP_new h) o
theorem WOk.freeze (w : WOk W H) (h : H a = some o) (n : NotP W a) : WOk (W.add a o) H := ⟨fun b u q => by
    have q2 : upd W.F a o b = some u := q
    by_cases e : b = a
    · subst e; rw [upd_same] at q2; rw [← q2]; exact h
    · rw [upd_ne e] at q2; exact w.sub b u q2, fun x g hu => by
    obtain ⟨f1, f2, ne, r⟩ := w.pu x g hu
    obtain ⟨n1, n2⟩ := n x g hu
    exact ⟨by show upd W.F a o x = none; rw [upd_ne (Ne.symm n1)]; exact f1, by show upd W.F a o g = none; rw [upd_ne (Ne.symm n2)]; exact f2, ne, r⟩⟩
theorem freeze_up (h : W.F a = none) (o : HO) : Up W H (W.add a o) H := ⟨fun b u q => by
    show upd W.F a o b = some u
    rw [upd_ne (ne_of_none q h)]; exact q, fun _ _ q _ => q, fun _ q => q, .inl rfl⟩
end

inductive Sl where
  | im (d : D)
  | ow (xs : List D)
abbrev Rh := List (Option Sl)
inductive R where
  | im (d : D)
  | fr (xs : List D)
  | al (i : Nat) (xs : List D)
def R.d : R → D
  | .im d => d
  | .fr xs => .lst xs
  | .al _ xs => .lst xs

structure EnvOk (mg : Gm) (W0 : Wd) (H0 : Hp) (W : Wd) (H : Hp) (σ : L2.St) (ρ : Rh) : Prop where
  wok : WOk W H
  ext : Ext W0 H0 W H
  len : σ.length = ρ.length
  im : ∀ (i : Nat) (d : D), ρ[i]? = some (some (Sl.im d)) → ∃ v : V, σ[i]? = some (some v) ∧ Rel mg W v d
  ow : ∀ (i : Nat) (xs : List D), ρ[i]? = some (some (Sl.ow xs)) → ∃ (a : Addr) (vs : List V), σ[i]? = some (some (V.ref a)) ∧ H a = some (.lst vs) ∧ W.F a = none ∧ NotP W a ∧ H0 a = none ∧ RelL mg W vs xs
  sep : ∀ (i j : Nat) (xs ys : List D) (a : Addr), ρ[i]? = some (some (Sl.ow xs)) → ρ[j]? = some (some (Sl.ow ys)) → σ[i]? = some (some (V.ref a)) → σ[j]? = some (some (V.ref a)) → i = j

def RelH (mg : Gm) (W : Wd) (H : Hp) (v : V) (d : D) : Prop := Rel mg W v d ∨ ∃ (a : Addr) (vs : List V) (xs : List D), v = .ref a ∧ d = .lst xs ∧ H a = some (.lst vs) ∧ NotP W a ∧ RelL mg W vs xs

def RR (mg : Gm) (Hs : Hp) (W : Wd) (H : Hp) (σ : L2.St) (ρ : Rh) (v : V) : R → Prop
  | .im d => Rel mg W v d
  | .fr xs => ∃ (a : Addr) (vs : List V), v = .ref a ∧ H a = some (.lst vs) ∧ W.F a = none ∧ NotP W a ∧ Hs a = none ∧ RelL mg W vs xs ∧ ∀ (i : Nat) (ys : List D), ρ[i]? = some (some (Sl.ow ys)) → σ[i]? ≠ some (some (V.ref a))
  | .al i xs => ρ[i]? = some (some (Sl.ow xs)) ∧ σ[i]? = some (some v)
def RF (mg : Gm) (H : Hp) (W' : Wd) (H' : Hp) (v : V) : R → Prop
  | .im d => Rel mg W' v d
  | .fr xs => ∃ (a : Addr) (vs : List V), v = .ref a ∧ H a = none ∧ H' a = some (.lst vs) ∧ W'.F a = none ∧ NotP W' a ∧ RelL mg W' vs xs
  | .al _ _ => False
structure Stp (σ : L2.St) (ρ : Rh) (W : Wd) (H : Hp) (ρ' : Rh) (W' : Wd) (H' : Hp) : Prop extends Up W H W' H' where
  new : ∀ a o, W'.F a = some o → W.F a = none → H a = none ∨ ∃ (i : Nat) (xs : List D), ρ[i]? = some (some (Sl.ow xs)) ∧ σ[i]? = some (some (V.ref a))
  lat : ∀ (i : Nat) (xs : List D), ρ'[i]? = some (some (Sl.ow xs)) → ρ[i]? = some (some (Sl.ow xs))

section
variable {mg : Gm} {W0 W W1 W2 W' : Wd} {H0 Hs H H1 H2 H' : Hp} {σ : L2.St} {ρ ρ1 ρ2 : Rh} {v : V} {d : D} {r : R}
theorem Stp.refl : Stp σ ρ W H ρ W H := ⟨Up.refl W H, fun _ _ h n => (by rw [h] at n; cases n), fun _ _ h => h⟩
theorem Stp.trans (e : Stp σ ρ W H ρ1 W1 H1) (f : Stp σ ρ1 W1 H1 ρ2 W2 H2) : Stp σ ρ W H ρ2 W2 H2 := ⟨e.toUp.trans f.toUp, fun a o h n => by
  cases q : W1.F a with
  | some u => exact e.new a u q n
  | none =>
    rcases f.new a o h q with h | ⟨i, xs, h1, h2⟩
    · exact .inl (e.dom a h)
    · exact .inr ⟨i, xs, e.lat i xs h1, h2⟩, fun i xs h => e.lat i xs (f.lat i xs h)⟩
theorem Ext.stp (e : Ext W H W' H') : Stp σ ρ W H ρ W' H' := ⟨e.toUp, fun a o h n => .inl (e.new a o h n), fun _ _ h => h⟩
theorem EnvOk.step (I : EnvOk mg W0 H0 W H σ ρ) (e : Ext W H W' H') (w : WOk W' H') : EnvOk mg W0 H0 W' H' σ ρ where
  wok := w
  ext := I.ext.trans e
  len := I.len
  im := fun i d h => let ⟨v, h1, h2⟩ := I.im i d h; ⟨v, h1, h2.mono e.le⟩
  ow := fun i xs h => by
    obtain ⟨a, vs, h1, h2, h3, h4, h5, h6⟩ := I.ow i xs h
    refine ⟨a, vs, h1, e.keep a _ h2 h4, ?_, e.notP h2 h4, h5, h6.mono e.le⟩
    cases q : W'.F a with
    | none => rfl
    | some u => rw [e.new a u q h3] at h2; cases h2
  sep := I.sep
theorem RelH.up (h : RelH mg W H v d) (e : Up W H W' H') : RelH mg W' H' v d := by
  rcases h with h | ⟨a, vs, xs, e1, e2, h3, h4, h5⟩
  · exact .inl (h.mono e.le)
  · exact .inr ⟨a, vs, xs, e1, e2, e.keep a _ h3 h4, e.notP h3 h4, h5.mono e.le⟩
theorem RR.relH (h : RR mg Hs W H σ ρ v r) (I : EnvOk mg W0 H0 W H σ ρ) : RelH mg W H v r.d := by
  cases r with
  | im d => exact .inl h
  | fr xs =>
    obtain ⟨a, vs, h1, h2, h3, h4, h5, h6, _⟩ := h
    exact .inr ⟨a, vs, xs, h1, rfl, h2, h4, h6⟩
  | al i xs =>
    obtain ⟨h1, h2⟩ := h
    obtain ⟨a, vs, q1, q2, q3, q4, q5, q6⟩ := I.ow i xs h1
    rw [h2] at q1
    exact .inr ⟨a, vs, xs, Option.some.inj (Option.some.inj q1), rfl, q2, q4, q6⟩
theorem RR.back (h : RR mg H1 W' H' σ ρ v r) (e : ∀ a, H1 a = none → H a = none) : RR mg H W' H' σ ρ v r := by
  cases r with
  | im d => exact h
  | fr xs =>
    obtain ⟨a, vs, h1, h2, h3, h4, h5, h6⟩ := h
    exact ⟨a, vs, h1, h2, h3, h4, e a h5, h6⟩
  | al i xs => exact h
theorem RF.rr (h : RF mg H W' H' v r) (I : EnvOk mg W0 H0 W H σ ρ) : RR mg H W' H' σ ρ v r := by
  cases r with
  | im d => exact h
  | fr xs =>
    obtain ⟨a, vs, h1, h2, h3, h4, h5, h6⟩ := h
    refine ⟨a, vs, h1, h3, h4, h5, h2, h6, fun i ys q s => ?_⟩
    obtain ⟨b, us, q1, q2, _⟩ := I.ow i ys q
    rw [s] at q1
    cases q1
    rw [h2] at q2; cases q2
  | al i xs => exact h.elim
def R.out : R → R
  | .al _ xs => .fr xs
  | r => r
theorem RR.rf (h : RR mg Hs W H σ ρ v r) (I : EnvOk mg W0 H0 W H σ ρ) (hd : ∀ a, Hs a = none → H0 a = none) : RF mg H0 W H v r.out := by
  cases r with
  | im d => exact h
  | fr xs =>
    obtain ⟨a, vs, h1, h2, h3, h4, h5, h6, _⟩ := h
    exact ⟨a, vs, h1, hd a h5, h2, h3, h4, h6⟩
  | al i xs =>
    obtain ⟨h1, h2⟩ := h
    obtain ⟨a, vs, q1, q2, q3, q4, q5, q6⟩ := I.ow i xs h1
    rw [h2] at q1
    exact ⟨a, vs, Option.some.inj (Option.some.inj q1), q5, q2, q3, q4, q6⟩
def frz (r : R) (ρ : Rh) : Rh := match r with
  | .al i xs => ρ.set i (some (.im (.lst xs)))
  | _ => ρ
theorem get_set {α : Type} {l : List α} {i j : Nat} {x y : α} (h : (l.set i x)[j]? = some y) : (i = j ∧ x = y ∧ i < l.length) ∨ (i ≠ j ∧ l[j]? = some y) := by
  by_cases e : i = j
  · subst e
    have hl : i < l.length := by
      have := (List.getElem?_eq_some_iff.mp h).1
      simpa using this
    rw [List.getElem?_set_self hl] at h
    exact .inl ⟨rfl, Option.some.inj h, hl⟩
  · rw [List.getElem?_set_ne e] at h
    exact .inr ⟨e, h⟩
theorem RR.settle (h : RR mg Hs W H σ ρ v r) (I : EnvOk mg W0 H0 W H σ ρ) (hd : ∀ a, Hs a = none → H0 a = none) : ∃ W', EnvOk mg W0 H0 W' H σ (frz r ρ) ∧ Up W H W' H ∧ Rel mg W' v r.d ∧
    (∀ a o, W'.F a = some o → W.F a = none → Hs a = none ∨ ∃ (i : Nat) (xs : List D), ρ[i]? = some (some (Sl.ow xs)) ∧ σ[i]? = some (some (V.ref a))) ∧ (∀ (i : Nat) (xs : List D), (frz r ρ)[i]? = some (some (Sl.ow xs)) → ρ[i]? = some (some (Sl.ow xs))) := by
  cases r with
  | im d => exact ⟨W, I, Up.refl _ _, h, fun a o h n => (by rw [h] at n; cases n), fun _ _ h => h⟩
  | fr xs =>
    obtain ⟨a, vs, h1, h2, h3, h4, h5, h6, h7⟩ := h
    have up : Up W H (W.add a (.lst vs)) H := freeze_up h3 _
    subst h1
    refine ⟨W.add a (.lst vs), ⟨I.wok.freeze h2 h4, ?_, I.len, fun i d q => let ⟨v, e1, e2⟩ := I.im i d q; ⟨v, e1, e2.mono up.le⟩, fun i ys q => ?_, I.sep⟩, up, .lst upd_same (h6.mono up.le), fun b o q n => ?_, fun _ _ h => h⟩
    · refine ⟨I.ext.toUp.trans up, fun b o q n => ?_⟩
      by_cases e : b = a
      · subst e; exact hd _ h5
      · have q2 : upd W.F a (.lst vs) b = some o := q
        rw [upd_ne e] at q2
        exact I.ext.new b o q2 n
    · obtain ⟨b, us, q1, q2, q3, q4, q5, q6⟩ := I.ow i ys q
      refine ⟨b, us, q1, q2, ?_, q4, q5, q6.mono up.le⟩
      show upd W.F a (.lst vs) b = none
      rw [upd_ne (fun e => h7 i ys q (by rw [q1, e]))]
      exact q3
    · by_cases e : b = a
      · subst e; exact .inl h5
      · have q2 : upd W.F a (.lst vs) b = some o := q
        rw [upd_ne e, n] at q2; cases q2
  | al i xs =>
    obtain ⟨h1, h2⟩ := h
    obtain ⟨a, vs, q1, q2, q3, q4, q5, q6⟩ := I.ow i xs h1
    have ev : v = .ref a := by rw [h2] at q1; exact Option.some.inj (Option.some.inj q1)
    subst ev
    have up : Up W H (W.add a (.lst vs)) H := freeze_up q3 _
    refine ⟨W.add a (.lst vs), ⟨I.wok.freeze q2 q4, ?_, by show σ.length = (ρ.set i _).length; rw [List.length_set]; exact I.len, fun j d q => ?_, fun j ys q => ?_, fun j k ys zs b hj hk => ?_⟩, up, .lst upd_same (q6.mono up.le), fun b o q n => ?_, fun j ys q => ?_⟩
    · refine ⟨I.ext.toUp.trans up, fun b o q n => ?_⟩
      by_cases e : b = a
      · subst e; exact q5
      · have p2 : upd W.F a (.lst vs) b = some o := q
        rw [upd_ne e] at p2
        exact I.ext.new b o p2 n
    · rcases get_set q with ⟨e, e2, _⟩ | ⟨e, q⟩
      · subst e
        cases e2
        exact ⟨_, h2, .lst upd_same (q6.mono up.le)⟩
      · obtain ⟨v, e1, e2⟩ := I.im j d q
        exact ⟨v, e1, e2.mono up.le⟩
    · rcases get_set q with ⟨e, e2, _⟩ | ⟨e, q⟩
      · cases e2
      · obtain ⟨b, us, p1, p2, p3, p4, p5, p6⟩ := I.ow j ys q
        refine ⟨b, us, p1, p2, ?_, p4, p5, p6.mono up.le⟩
        show upd W.F a (.lst vs) b = none
        rw [upd_ne (fun e3 => e (I.sep i j xs ys a h1 q h2 (by rw [p1, e3])))]
        exact p3
    · rcases get_set hj with ⟨_, e2, _⟩ | ⟨_, hj⟩
      · cases e2
      · rcases get_set hk with ⟨_, e2, _⟩ | ⟨_, hk⟩
        · cases e2
        · exact I.sep j k ys zs b hj hk
    · by_cases e : b = a
      · subst e; exact .inr ⟨i, xs, h1, h2⟩
      · have p2 : upd W.F a (.lst vs) b = some o := q
        rw [upd_ne e, n] at p2; cases p2
    · rcases get_set q with ⟨e, e2, _⟩ | ⟨e, q⟩
      · cases e2
      · exact q
theorem Stp.settle (e : Stp σ ρ W H ρ1 W1 H1) (I0 : EnvOk mg W0 H0 W H σ ρ) (I : EnvOk mg W0 H0 W1 H1 σ ρ1) (h : RR mg H W1 H1 σ ρ1 v r) : ∃ W2, EnvOk mg W0 H0 W2 H1 σ (frz r ρ1) ∧ Stp σ ρ W H (frz r ρ1) W2 H1 ∧ Rel mg W2 v r.d := by
  obtain ⟨W2, I2, u, hr, hn, hl⟩ := h.settle I (fun a q => I0.ext.dom a q)
  refine ⟨W2, I2, ⟨e.toUp.trans u, fun a o q n => ?_, fun i xs q => e.lat i xs (hl i xs q)⟩, hr⟩
  cases q2 : W1.F a with
  | some u => exact e.new a u q2 n
  | none =>
    rcases hn a o q q2 with h | ⟨i, xs, h1, h2⟩
    · exact .inl h
    · exact .inr ⟨i, xs, e.lat i xs h1, h2⟩
def store (i : Nat) (r : R) (ρ : Rh) : Rh := match r with
  | .im d => ρ.set i (some (.im d))
  | .fr xs => ρ.set i (some (.ow xs))
  | .al j xs => (ρ.set j (some (.im (.lst xs)))).set i (some (.im (.lst xs)))
theorem EnvOk.put_im (I : EnvOk mg W0 H0 W H σ ρ) (i : Nat) (h : Rel mg W v d) : EnvOk mg W0 H0 W H (σ.set i (some v)) (ρ.set i (some (.im d))) where
  wok := I.wok
  ext := I.ext
  len := by rw [List.length_set, List.length_set]; exact I.len
  im := fun j d' q => by
    rcases get_set q with ⟨e, e2, hl⟩ | ⟨e, q⟩
    · subst e
      cases e2
      exact ⟨v, List.getElem?_set_self (by rw [I.len]; exact hl), h⟩
    · obtain ⟨v', e1, e2⟩ := I.im j d' q
      exact ⟨v', by rw [List.getElem?_set_ne e]; exact e1, e2⟩
  ow := fun j ys q => by
    rcases get_set q with ⟨e, e2, hl⟩ | ⟨e, q⟩
    · cases e2
    · obtain ⟨b, us, p1, p⟩ := I.ow j ys q
      exact ⟨b, us, by rw [List.getElem?_set_ne e]; exact p1, p⟩
  sep := fun j k ys zs b hj hk h1 h2 => by
    rcases get_set hj with ⟨_, e2, _⟩ | ⟨e1, hj⟩
    · cases e2
    · rcases get_set hk with ⟨_, e2, _⟩ | ⟨e2, hk⟩
      · cases e2
      · rw [List.getElem?_set_ne e1] at h1
        rw [List.getElem?_set_ne e2] at h2
        exact I.sep j k ys zs b hj hk h1 h2
theorem EnvOk.put_fr {xs : List D} (I : EnvOk mg W0 H0 W H σ ρ) (i : Nat) (h : RR mg Hs W H σ ρ v (.fr xs)) (hd : ∀ a, Hs a = none → H0 a = none) : EnvOk mg W0 H0 W H (σ.set i (some v)) (ρ.set i (some (.ow xs))) where
  wok := I.wok
  ext := I.ext
  len := by rw [List.length_set, List.length_set]; exact I.len
  im := fun j d' q => by
    rcases get_set q with ⟨e, e2, hl⟩ | ⟨e, q⟩
    · cases e2
    · obtain ⟨v', e1, e2⟩ := I.im j d' q
      exact ⟨v', by rw [List.getElem?_set_ne e]; exact e1, e2⟩
  ow := fun j ys q => by
    rcases get_set q with ⟨e, e2, hl⟩ | ⟨e, q⟩
    · subst e
      cases e2
      obtain ⟨a, vs, h1, h2, h3, h4, h5, h6, _⟩ := h
      exact ⟨a, vs, by rw [← h1]; exact List.getElem?_set_self (by rw [I.len]; exact hl), h2, h3, h4, hd a h5, h6⟩
    · obtain ⟨b, us, p1, p⟩ := I.ow j ys q
      exact ⟨b, us, by rw [List.getElem?_set_ne e]; exact p1, p⟩
  sep := fun j k ys zs b hj hk h1 h2 => by
    obtain ⟨a, vs, g1, g2, g3, g4, g5, g6, g7⟩ := h
    rcases get_set hj with ⟨e1, ej, lj⟩ | ⟨e1, hj⟩
    · rcases get_set hk with ⟨e2, ek, _⟩ | ⟨e2, hk⟩
      · exact e1.symm.trans e2
      · subst e1
        rw [List.getElem?_set_ne e2] at h2
        rw [List.getElem?_set_self (by rw [I.len]; exact lj), g1] at h1
        cases h1
        exact absurd h2 (g7 k zs hk)
    · rw [List.getElem?_set_ne e1] at h1
      rcases get_set hk with ⟨e2, ek, lk⟩ | ⟨e2, hk⟩
      · subst e2
        rw [List.getElem?_set_self (by rw [I.len]; exact lk), g1] at h2
        cases h2
        exact absurd h1 (g7 j ys hj)
      · rw [List.getElem?_set_ne e2] at h2
        exact I.sep j k ys zs b hj hk h1 h2
theorem EnvOk.put (I : EnvOk mg W0 H0 W H σ ρ) (i : Nat) (h : RR mg Hs W H σ ρ v r) (hd : ∀ a, Hs a = none → H0 a = none) : ∃ W', EnvOk mg W0 H0 W' H (σ.set i (some v)) (store i r ρ) ∧ Wle W W' := by
  cases r with
  | im d => exact ⟨W, I.put_im i h, Wle.refl _⟩
  | fr xs => exact ⟨W, I.put_fr i h hd, Wle.refl _⟩
  | al j xs =>
    obtain ⟨W', I', u, hr, _⟩ := h.settle I hd
    exact ⟨W', I'.put_im i hr, u.le⟩
theorem EnvOk.store_own {i : Nat} {xs ys : List D} {a : Addr} {us : List V} (I : EnvOk mg W0 H0 W H σ ρ) (h1 : ρ[i]? = some (some (.ow xs))) (h2 : σ[i]? = some (some (.ref a))) (hr : RelL mg W us ys) : EnvOk mg W0 H0 W (upd H a (.lst us)) σ (ρ.set i (some (.ow ys))) := by
  obtain ⟨b, vs, q1, q2, q3, q4, q5, q6⟩ := I.ow i xs h1
  have e : b = a := by rw [h2] at q1; cases q1; rfl
  subst e
  have hl : i < ρ.length := (List.getElem?_eq_some_iff.mp h1).1
  refine ⟨I.wok.store q3 q4 _, ⟨⟨I.ext.mono, fun c o q n => ?_, fun c q => ?_, I.ext.u⟩, I.ext.new⟩, by rw [List.length_set]; exact I.len, fun j d q => ?_, fun j zs q => ?_, fun j k zs ws c hj hk => ?_⟩
  · rw [upd_ne (ne_of_none q q5)]
    exact I.ext.keep c o q n
  · by_cases e : c = b
    · subst e; exact q5
    · rw [upd_ne e] at q; exact I.ext.dom c q
  · rcases get_set q with ⟨e, e2, _⟩ | ⟨e, q⟩
    · cases e2
    · exact I.im j d q
  · rcases get_set q with ⟨e, e2, _⟩ | ⟨e, q⟩
    · subst e
      cases e2
      exact ⟨b, us, h2, upd_same, q3, q4, q5, hr⟩
    · obtain ⟨c, ws, p1, p2, p3, p4, p5, p6⟩ := I.ow j zs q
      refine ⟨c, ws, p1, ?_, p3, p4, p5, p6⟩
      rw [upd_ne (fun e3 => e (I.sep i j xs zs b h1 q h2 (by rw [p1, e3])))]
      exact p2
  · rcases get_set hj with ⟨e1, _, _⟩ | ⟨e1, hj⟩
    · rcases get_set hk with ⟨e2, _, _⟩ | ⟨e2, hk⟩
      · exact fun _ _ => e1.symm.trans e2
      · exact fun p1 p2 => by subst e1; exact I.sep _ k xs ws c h1 hk p1 p2
    · rcases get_set hk with ⟨e2, _, _⟩ | ⟨e2, hk⟩
      · exact fun p1 p2 => by subst e2; exact I.sep j _ zs xs c hj h1 p1 p2
      · exact I.sep j k zs ws c hj hk
end

abbrev DTE := Rh → (R → Rh → Prop) → Prop
abbrev DTT := Rh → (Bool → Rh → Prop) → Prop
abbrev DTA := Rh → (List D → Rh → Prop) → Prop
abbrev DTG := R → Rh → (Rh → Prop) → Prop
abbrev DTI := Rh → (List D → Rh → Prop) → Prop
structure DEnds where
  nx : Rh → Prop
  rt : R → Prop
  bk : Rh → Prop
  ct : Rh → Prop
abbrev DTS := (Rh → Prop) → (R → Prop) → (Rh → Prop) → (Rh → Prop) → Rh → Prop
abbrev DTS.on (t : DTS) (P : DEnds) (ρ : Rh) : Prop := t P.nx P.rt P.bk P.ct ρ
inductive RelHL (mg : Gm) (W : Wd) (H : Hp) : List V → List D → Prop
  | nil : RelHL mg W H [] []
  | cons {v : V} {vs : List V} {d : D} {ds : List D} : RelH mg W H v d → RelHL mg W H vs ds → RelHL mg W H (v :: vs) (d :: ds)
theorem RelHL.up {mg : Gm} {W W' : Wd} {H H' : Hp} (e : Up W H W' H') : ∀ {vs : List V} {ds : List D}, RelHL mg W H vs ds → RelHL mg W' H' vs ds
  | _, _, .nil => .nil
  | _, _, .cons h t => .cons (h.up e) (RelHL.up e t)
section
variable (mg : Gm)
def SE (t' : TE) (t : DTE) : Prop := ∀ W0 H0 W H σ ρ P Q, EnvOk mg W0 H0 W H σ ρ → t ρ P → (∀ W' H' v r ρ', EnvOk mg W0 H0 W' H' σ ρ' → Stp σ ρ W H ρ' W' H' → RR mg H W' H' σ ρ' v r → P r ρ' → Q v H') → t' σ H Q
def STt (t' : TT) (t : DTT) : Prop := ∀ W0 H0 W H σ ρ P Q, EnvOk mg W0 H0 W H σ ρ → t ρ P → (∀ W' H' b ρ', EnvOk mg W0 H0 W' H' σ ρ' → Stp σ ρ W H ρ' W' H' → P b ρ' → Q b H') → t' σ H Q
def SA (t' : TA) (t : DTA) : Prop := ∀ W0 H0 W H σ ρ P Q, EnvOk mg W0 H0 W H σ ρ → t ρ P → (∀ W' H' vs ds ρ', EnvOk mg W0 H0 W' H' σ ρ' → Stp σ ρ W H ρ' W' H' → RelL mg W' vs ds → P ds ρ' → Q vs H') → t' σ H Q
def SAh (t' : TA) (t : DTA) : Prop := ∀ W0 H0 W H σ ρ P Q, EnvOk mg W0 H0 W H σ ρ → t ρ P → (∀ W' H' vs ds ρ', EnvOk mg W0 H0 W' H' σ ρ' → Stp σ ρ W H ρ' W' H' → RelHL mg W' H' vs ds → P ds ρ' → Q vs H') → t' σ H Q
structure EndsOk (W0 : Wd) (H0 : Hp) (W : Wd) (P : DEnds) (E : Ends) : Prop where
  nx : ∀ W' H σ ρ, Wle W W' → EnvOk mg W0 H0 W' H σ ρ → P.nx ρ → E.nx σ H
  bk : ∀ W' H σ ρ, Wle W W' → EnvOk mg W0 H0 W' H σ ρ → P.bk ρ → E.bk σ H
  ct : ∀ W' H σ ρ, Wle W W' → EnvOk mg W0 H0 W' H σ ρ → P.ct ρ → E.ct σ H
  rt : ∀ W' H v r, WOk W' H → Ext W0 H0 W' H → RF mg H0 W' H v r → P.rt r → E.rt v H
theorem EndsOk.le {mg : Gm} {W0 W W' : Wd} {H0 : Hp} {P : DEnds} {E : Ends} (e : EndsOk mg W0 H0 W P E) (l : Wle W W') : EndsOk mg W0 H0 W' P E :=
  ⟨fun W2 H σ ρ k => e.nx W2 H σ ρ (l.trans k), fun W2 H σ ρ k => e.bk W2 H σ ρ (l.trans k), fun W2 H σ ρ k => e.ct W2 H σ ρ (l.trans k), e.rt⟩
def SS (t' : TS) (t : DTS) : Prop := ∀ W0 H0 W H σ ρ P E, EnvOk mg W0 H0 W H σ ρ → t P.nx P.rt P.bk P.ct ρ → EndsOk mg W0 H0 W P E → t' E σ H
def SG (g' : TG) (g : DTG) : Prop := ∀ W0 H0 Hs W H σ ρ v r P Q, EnvOk mg W0 H0 W H σ ρ → RR mg Hs W H σ ρ v r → (∀ a, Hs a = none → H0 a = none) → g r ρ P → (∀ W' H' σ' ρ', Wle W W' → EnvOk mg W0 H0 W' H' σ' ρ' → P ρ' → Q σ' H') → g' v σ H Q
def DWalk (W : Wd) (J : It) (ds : List D) : Prop := ∀ W1 H1, WOk W1 H1 → Wle W W1 → (∀ (i : Nat) (d : D), ds[i]? = some d → J.go i H1 ∧ ∀ x H2, J.yld i H1 x H2 → ∃ W2, WOk W2 H2 ∧ Ext W1 H1 W2 H2 ∧ Rel mg W2 x d) ∧ J.stop ds.length H1
def SI (wi : TI) (ti : DTI) : Prop := ∀ W0 H0 W H σ ρ P (Q : It → Hp → Prop), EnvOk mg W0 H0 W H σ ρ → ti ρ P → (∀ W' H' J ds ρ', EnvOk mg W0 H0 W' H' σ ρ' → Stp σ ρ W H ρ' W' H' → DWalk mg W' J ds → P ds ρ' → Q J H') → wi σ H Q
def OpS (r : R2) (o : D → D → (R → Prop) → Prop) : Prop := ∀ W H x y dx dy P Q, WOk W H → RelH mg W H x dx → RelH mg W H y dy → o dx dy P → (∀ W' H' v q, WOk W' H' → Ext W H W' H' → RF mg H W' H' v q → P q → Q v H') → r x y H Q
def UnS (r : V → Hp → VK → Prop) (o : D → (R → Prop) → Prop) : Prop := ∀ W H x dx P Q, WOk W H → RelH mg W H x dx → o dx P → (∀ W' H' v q, WOk W' H' → Ext W H W' H' → RF mg H W' H' v q → P q → Q v H') → r x H Q
def CaS (r : List V → Hp → VK → Prop) (o : List D → (R → Prop) → Prop) : Prop := ∀ W H xs dx P Q, WOk W H → RelHL mg W H xs dx → o dx P → (∀ W' H' v q, WOk W' H' → Ext W H W' H' → RF mg H W' H' v q → P q → Q v H') → r xs H Q
end
structure DE (X : Cx) (e : Expr) (t' : TE) (t : DTE) : Prop where
  p : PE X e t'
  s : SE (gm X) t' t
structure DT (X : Cx) (e : Expr) (t' : TT) (t : DTT) : Prop where
  p : PT X e t'
  s : STt (gm X) t' t
structure DW (X : Cx) (e : Expr) (t' : TT) (t : DTT) : Prop where
  p : PW X e t'
  s : STt (gm X) t' t
structure DTs (X : Cx) (es : List Expr) (t' : TT) (t : DTT) : Prop where
  p : PTs X es t'
  s : STt (gm X) t' t
structure DA (X : Cx) (es : List Expr) (t' : TA) (t : DTA) : Prop where
  p : PA X es t'
  s : SA (gm X) t' t
structure DAh (X : Cx) (es : List Expr) (t' : TA) (t : DTA) : Prop where
  p : PA X es t'
  s : SAh (gm X) t' t
structure DS (X : Cx) (st : Stmt) (t' : TS) (t : DTS) : Prop where
  p : PS X st t'
  s : SS (gm X) t' t
structure DSs (X : Cx) (sts : List Stmt) (t' : TS) (t : DTS) : Prop where
  p : PSs X sts t'
  s : SS (gm X) t' t
structure DG (X : Cx) (e : Expr) (g' : TG) (g : DTG) : Prop where
  p : PG X e g'
  s : SG (gm X) g' g
structure DI (X : Cx) (tg e : Expr) (t' : TI) (t : DTI) : Prop where
  p : PI X tg e t'
  s : SI (gm X) t' t
structure DO (X : Cx) (op : Value → Value → Sem Value) (r : R2) (o : D → D → (R → Prop) → Prop) : Prop where
  p : OpR X op r
  s : OpS (gm X) r o
structure DC (X : Cx) (f : Value) (r : List V → Hp → VK → Prop) (o : List D → (R → Prop) → Prop) : Prop where
  p : CallR X f r
  s : CaS (gm X) r o
end DL
namespace DL
open PySem PySem.Spec PyProof.Rows L2
section
variable {X : Cx} {mg : Gm}

def dVar (i : Nat) : DTE := fun ρ P => match ρ[i]? with
  | some (some (.im d)) => P (.im d) ρ
  | some (some (.ow xs)) => P (.al i xs) ρ
  | _ => False
def dC (d : D) : DTE := fun ρ P => P (.im d) ρ
theorem se_var (i : Nat) : SE mg (tVar i) (dVar i) := fun W0 H0 W H σ ρ P Q I h k => by
  unfold dVar at h
  split at h
  · rename_i d e
    obtain ⟨v, h1, h2⟩ := I.im i d e
    exact ⟨v, h1, k W H v (.im d) ρ I Stp.refl h2 h⟩
  · rename_i xs e
    obtain ⟨a, vs, h1, _⟩ := I.ow i xs e
    exact ⟨_, h1, k W H _ (.al i xs) ρ I Stp.refl ⟨e, h1⟩ h⟩
  · exact h.elim
theorem se_c {v : V} {d : D} (r : ∀ W, Rel mg W v d) : SE mg (tC v) (dC d) := fun W0 H0 W H σ ρ P Q I h k => k W H v (.im d) ρ I Stp.refl (r W) h
theorem de_var (i : Nat) {x : Str} {pos : Pos} (hN : X.N[i]? = some x := by rfl) (hv : Vis X.env.scope x := by first | exact Or.inl rfl | exact Or.inr (Or.inl rfl) | exact Or.inr (Or.inr rfl)) (hd : (x == ("__debug__" : Str)) = false := by decide)
    (hcd : (x == ("__classdict__" : Str)) = false := by decide) : DE X (.Name x pos) (tVar i) (dVar i) := ⟨pe_var hN hv hd hcd, se_var i⟩
theorem de_int {i j pos} : DE X (.Constant (.int i) j pos) (tC (.int i)) (dC (.int i)) := ⟨pe_int, se_c fun _ => .int i⟩
theorem de_bl {b j pos} : DE X (.Constant (.bool b) j pos) (tC (.bl b)) (dC (.bl b)) := ⟨pe_bl, se_c fun _ => .bl b⟩
theorem de_non {j pos} : DE X (.Constant .none j pos) (tC .non) (dC .non) := ⟨pe_non, se_c fun _ => .non⟩
theorem de_str {x j pos} : DE X (.Constant (.str x) j pos) (tC (.str x)) (dC (.str x)) := ⟨pe_str, se_c fun _ => .str x⟩

variable {W W' : Wd} {H H' : Hp} {v x y : V}
theorem RelH.int {i : Int} (h : RelH mg W H v (.int i)) : v = .int i := by
  rcases h with h | ⟨_, _, _, _, e, _⟩
  · cases h; rfl
  · cases e
theorem RelH.bl {i : Bool} (h : RelH mg W H v (.bl i)) : v = .bl i := by
  rcases h with h | ⟨_, _, _, _, e, _⟩
  · cases h; rfl
  · cases e
theorem RelH.str {i : Str} (h : RelH mg W H v (.str i)) : v = .str i := by
  rcases h with h | ⟨_, _, _, _, e, _⟩
  · cases h; rfl
  · cases e
theorem RelH.non (h : RelH mg W H v .non) : v = .non := by
  rcases h with h | ⟨_, _, _, _, e, _⟩
  · cases h; rfl
  · cases e
theorem RelH.tup {ds : List D} (h : RelH mg W H v (.tup ds)) (w : WOk W H) : ∃ a vs, v = .ref a ∧ H a = some (.tup vs) ∧ W.F a = some (.tup vs) ∧ RelL mg W vs ds := by
  rcases h with h | ⟨_, _, _, _, e, _⟩
  · cases h with
    | tup h1 h2 => exact ⟨_, _, rfl, w.sub _ _ h1, h1, h2⟩
  · cases e
theorem RelH.lst {ds : List D} (h : RelH mg W H v (.lst ds)) (w : WOk W H) : ∃ a vs, v = .ref a ∧ H a = some (.lst vs) ∧ NotP W a ∧ RelL mg W vs ds := by
  rcases h with h | ⟨a, vs, xs, e1, e, h1, h2, h3⟩
  · cases h with
    | lst h1 h2 => exact ⟨_, _, rfl, w.sub _ _ h1, w.notP_F h1, h2⟩
  · cases e
    exact ⟨a, vs, e1, h1, h2, h3⟩
theorem rf_new {a : Addr} {vs : List V} {ds : List D} (w : WOk W H) (h : H a = none) (r : RelL mg W vs ds) : WOk W (upd H a (.lst vs)) ∧ Ext W H W (upd H a (.lst vs)) ∧ RF mg H W (upd H a (.lst vs)) (.ref a) (.fr ds) :=
  ⟨w.new h _, new_ext w h _, a, vs, rfl, h, upd_same, w.free h, w.notP_new h, r⟩
theorem rf_tup {a : Addr} {vs : List V} {ds : List D} (w : WOk W H) (h : H a = none) (r : RelL mg W vs ds) : WOk (W.add a (.tup vs)) (upd H a (.tup vs)) ∧ Ext W H (W.add a (.tup vs)) (upd H a (.tup vs)) ∧ RF mg H (W.add a (.tup vs)) (upd H a (.tup vs)) (.ref a) (.im (.tup ds)) :=
  ⟨add_ok w h _, add_ext w h _, .tup upd_same (r.mono (add_ext w h _).le)⟩

def dOp (o : D → D → (R → Prop) → Prop) (ta tb : DTE) : DTE := fun ρ P => ta ρ fun r1 ρ1 => tb ρ1 fun r2 ρ2 => o r1.d r2.d fun r => P r ρ2
theorem se_op {r : R2} {o : D → D → (R → Prop) → Prop} {ta' tb' : TE} {ta tb : DTE} (ho : OpS mg r o) (ha : SE mg ta' ta) (hb : SE mg tb' tb) : SE mg (tOp r ta' tb') (dOp o ta tb) := fun W0 H0 W H σ ρ P Q I h k =>
  ha W0 H0 W H σ ρ _ _ I h fun W1 H1 x r1 ρ1 I1 u1 R1 h1 => hb W0 H0 W1 H1 σ ρ1 _ _ I1 h1 fun W2 H2 y r2 ρ2 I2 u2 R2 h2 =>
    ho W2 H2 x y _ _ _ _ I2.wok ((R1.relH I1).up u2.toUp) (R2.relH I2) h2 fun W3 H3 v r3 w3 e3 f3 p3 => k W3 H3 v r3 ρ2 (I2.step e3 w3) ((u1.trans u2).trans e3.stp) ((f3.rr I2).back fun a q => u1.dom a (u2.dom a q)) p3
def dUn (o : D → (R → Prop) → Prop) (ta : DTE) : DTE := fun ρ P => ta ρ fun r1 ρ1 => o r1.d fun r => P r ρ1
theorem se_un {r : V → Hp → VK → Prop} {o : D → (R → Prop) → Prop} {ta' : TE} {ta : DTE} (ho : UnS mg r o) (ha : SE mg ta' ta) : SE mg (tUn r ta') (dUn o ta) := fun W0 H0 W H σ ρ P Q I h k =>
  ha W0 H0 W H σ ρ _ _ I h fun W1 H1 x r1 ρ1 I1 u1 R1 h1 =>
    ho W1 H1 x _ _ _ I1.wok (R1.relH I1) h1 fun W3 H3 v r3 w3 e3 f3 p3 => k W3 H3 v r3 ρ1 (I1.step e3 w3) (u1.trans e3.stp) ((f3.rr I1).back fun a q => u1.dom a q) p3
theorem de_op {a b : Expr} {pos : Pos} {op : Operator} {r : R2} {o : D → D → (R → Prop) → Prop} {ta' tb' : TE} {ta tb : DTE} (ho : DO X (binaryOp op) r o) (ha : DE X a ta' ta) (hb : DE X b tb' tb) : DE X (.BinOp a op b pos) (tOp r ta' tb') (dOp o ta tb) := ⟨pe_op ho.p ha.p hb.p, se_op ho.s ha.s hb.s⟩
theorem de_cmp {a b : Expr} {pos : Pos} {op : CmpOp} {r : R2} {o : D → D → (R → Prop) → Prop} {ta' tb' : TE} {ta tb : DTE} (ho : DO X (compareOp op) r o) (ha : DE X a ta' ta) (hb : DE X b tb' tb) (hm : behindInMarks op b = false) : DE X (.Compare a [op] [b] pos) (tOp r ta' tb') (dOp o ta tb) := ⟨pe_cmpR ho.p ha.p hb.p hm, se_op ho.s ha.s hb.s⟩
theorem DO.or {f : Value → Value → Sem Value} {r r' : R2} {o o' : D → D → (R → Prop) → Prop} (h : DO X f r o) (h' : DO X f r' o') : DO X f (fun x y H Q => r x y H Q ∨ r' x y H Q) (fun x y P => o x y P ∨ o' x y P) :=
  ⟨h.p.or h'.p, fun W H x y dx dy P Q w a b o k => o.elim (fun o => .inl (h.s W H x y dx dy P Q w a b o k)) fun o => .inr (h'.s W H x y dx dy P Q w a b o k)⟩
theorem DO.to {f : Value → Value → Sem Value} {r : R2} {o o' : D → D → (R → Prop) → Prop} (h : DO X f r o) (i : ∀ x y P, o' x y P → o x y P) : DO X f r o' := ⟨h.p, fun W H x y dx dy P Q w a b o k => h.s W H x y dx dy P Q w a b (i _ _ _ o) k⟩
def oI (C : Int → Int → Prop) (g : Int → Int → D) : D → D → (R → Prop) → Prop := fun x y P => match x, y with
  | .int i, .int j => C i j ∧ P (.im (g i j))
  | _, _ => False
theorem oI_inv {C : Int → Int → Prop} {g : Int → Int → D} {x y : D} {P : R → Prop} (h : oI C g x y P) : ∃ i j, x = .int i ∧ y = .int j ∧ C i j ∧ P (.im (g i j)) := by
  unfold oI at h
  split at h
  · exact ⟨_, _, rfl, rfl, h.1, h.2⟩
  · exact h.elim
theorem os_I {C : Int → Int → Prop} {g' : Int → Int → V} {g : Int → Int → D} (hg : ∀ W i j, Rel mg W (g' i j) (g i j)) : OpS mg (rI C g') (oI C g) := fun W H x y dx dy P Q w a b o k => by
  obtain ⟨i, j, rfl, rfl, c, p⟩ := oI_inv o
  exact ⟨i, j, a.int, b.int, c, k W H _ (.im _) w (Ext.refl _ _) (hg W i j) p⟩
def oI0 (g : Int → Int → D) : D → D → (R → Prop) → Prop := fun x y P => match x, y with
  | .int i, .int j => P (.im (g i j))
  | _, _ => False
theorem oI0_inv {g : Int → Int → D} {x y : D} {P : R → Prop} (h : oI0 g x y P) : ∃ i j, x = .int i ∧ y = .int j ∧ P (.im (g i j)) := by
  unfold oI0 at h
  split at h
  · exact ⟨_, _, rfl, rfl, h⟩
  · exact h.elim
theorem os_I0 {g' : Int → Int → V} {g : Int → Int → D} (hg : ∀ W i j, Rel mg W (g' i j) (g i j)) : OpS mg (rI0 g') (oI0 g) := fun W H x y dx dy P Q w a b o k => by
  obtain ⟨i, j, rfl, rfl, p⟩ := oI0_inv o
  exact ⟨i, j, a.int, b.int, k W H _ (.im _) w (Ext.refl _ _) (hg W i j) p⟩
theorem do_sub : DO X (binaryOp .Sub) (rI0 fun i j => .int (i - j)) (oI0 fun i j => .int (i - j)) := ⟨op_sub, os_I0 fun _ _ _ => .int _⟩
theorem do_mod : DO X (binaryOp .Mod) (rI (fun _ j => 0 < j) fun i j => .int (i % j)) (oI (fun _ j => 0 < j) fun i j => .int (i % j)) := ⟨op_mod, os_I fun _ _ _ => .int _⟩
theorem do_fdiv : DO X (binaryOp .FloorDiv) (rI CDivW fun i j => .int (i / j)) (oI CDivW fun i j => .int (i / j)) := ⟨op_fdivW, os_I fun _ _ _ => .int _⟩
theorem do_pow : DO X (binaryOp .Pow) (rI CPow fun i j => .int (i ^ j.toNat)) (oI CPow fun i j => .int (i ^ j.toNat)) := ⟨op_pow, os_I fun _ _ _ => .int _⟩
theorem do_xor : DO X (binaryOp .BitXor) (rI0 fun i j => .int (Builtin.bitXor i j)) (oI0 fun i j => .int (Builtin.bitXor i j)) := ⟨op_xor, os_I0 fun _ _ _ => .int _⟩
theorem do_lt : DO X (compareOp .Lt) (rI0 fun i j => .bl (decide (i < j))) (oI0 fun i j => .bl (decide (i < j))) := ⟨op_lt, os_I0 fun _ _ _ => .bl _⟩
theorem do_gt : DO X (compareOp .Gt) (rI0 fun i j => .bl (decide (j < i))) (oI0 fun i j => .bl (decide (j < i))) := ⟨op_gt, os_I0 fun _ _ _ => .bl _⟩
def rAddAll (K : PySem.W.Frag) : R2 := fun x y H Q => (rI0 fun i j => .int (i + j)) x y H Q ∨ ((fun x y H Q => ∃ i j, x = .str i ∧ y = .str j ∧ i.length + j.length ≤ sizeLine ∧ Q (.str (i ++ j)) H) : R2) x y H Q ∨ rCat x y H Q ∨ rCatA K x y H Q
def oAdd : D → D → (R → Prop) → Prop := fun x y P => match x, y with
  | .int i, .int j => P (.im (.int (i + j)))
  | .str i, .str j => i.length + j.length ≤ sizeLine ∧ P (.im (.str (i ++ j)))
  | .lst i, .lst j => i.length + j.length ≤ sizeLine ∧ P (.fr (i ++ j))
  | .tup i, .tup j => i.length + j.length ≤ sizeLine ∧ P (.im (.tup (i ++ j)))
  | _, _ => False
theorem do_add0 : DO X (binaryOp .Add) (rAddAll X.K) oAdd := ⟨op_add.or (op_add_str.or (op_cat.or op_catA)), fun W H x y dx dy P Q w a b o k => by
  unfold oAdd at o
  split at o
  · exact .inl ⟨_, _, a.int, b.int, k W H _ (.im _) w (Ext.refl _ _) (.int _) o⟩
  · exact .inr (.inl ⟨_, _, a.str, b.str, o.1, k W H _ (.im _) w (Ext.refl _ _) (.str _) o.2⟩)
  · obtain ⟨p, vs, e1, h1, n1, r1⟩ := a.lst w
    obtain ⟨q, us, e2, h2, n2, r2⟩ := b.lst w
    refine .inr (.inr (.inl ⟨p, q, vs, us, e1, e2, h1, h2, by rw [r1.length, r2.length]; exact o.1, fun c hc => ?_⟩))
    obtain ⟨k1, k2, k3⟩ := rf_new w hc (r1.append r2)
    exact k _ _ _ _ k1 k2 k3 o.2
  · obtain ⟨p, vs, e1, h1, f1, r1⟩ := a.tup w
    obtain ⟨q, us, e2, h2, f2, r2⟩ := b.tup w
    refine .inr (.inr (.inr ⟨p, q, vs, us, e1, e2, SqT.of h1, SqT.of h2, by rw [r1.length, r2.length]; exact o.1, fun e => ?_, fun _ e => ?_, fun _ _ c hc => ?_⟩))
    · subst e
      cases r1
      exact k _ _ _ (.im _) w (Ext.refl _ _) (Rel.tup f2 r2) o.2
    · subst e
      cases r2
      have o2 := o.2
      rw [List.append_nil] at o2
      exact k _ _ _ (.im _) w (Ext.refl _ _) (Rel.tup f1 r1) o2
    · obtain ⟨k1, k2, k3⟩ := rf_tup w hc (r1.append r2)
      exact k _ _ _ _ k1 k2 k3 o.2
  · exact o.elim⟩
theorem do_add {K : PySem.W.Frag} (hK : X.K = K := by rfl) : DO X (binaryOp .Add) (rAddAll K) oAdd := by subst hK; exact do_add0
theorem relL_repeat {vs : List V} {ds : List D} (r : RelL mg W vs ds) : ∀ n : Nat, RelL mg W (List.replicate n vs).flatten (List.replicate n ds).flatten
  | 0 => .nil
  | n + 1 => by rw [List.replicate_succ, List.replicate_succ, List.flatten_cons, List.flatten_cons]; exact r.append (relL_repeat r n)
end
end DL
namespace DL
open PySem PySem.Spec PyProof.Rows L2
open AutoSeq1 (wpAny_loadPart') in
theorem tupOnce (t : Addr) (its : Array Value) (n : Nat) (dct : Option Addr) (sl : Array (Option Value)) (u : Tok) :
    Meets (Builtin.«tuple.__mul__» ⟨[.ref t, .int 1 u], []⟩) (fun _ R s => s.heap.get? t = some ⟨.type "tuple", dct, .seq its n, sl⟩ ∧ R (.ok (.ret (.ref t))) s) :=
  .of_wp fun prog w A R s q => by
    obtain ⟨hp, gs, dr, tk, os⟩ := s
    obtain ⟨at0, q⟩ := q
    have f1 := AutoSeq1.idx_int
    have b0 : (decide ((1 : Int) < -(2 ^ 63)) || decide ((1 : Int) ≥ 2 ^ 63)) = false := by decide
    have b1 : (its.isEmpty || (1 : Int) == 1) = true := by rw [Bool.or_eq_true]; exact .inr rfl
    wp_walk using wpAny_loadPart' at0
    repeat (first
      | (refine wpAny_ite_false (decide_eq_false (by rw [b0]; exact Bool.false_ne_true)) ?_; wp_walk using wpAny_loadPart' at0)
      | (refine wpAny_ite_true (decide_eq_true b1) ?_; wp_walk using wpAny_loadPart' at0))
    exact ⟨_, rfl, q⟩
open AutoSeq1 (wpAny_loadPart') in
theorem tupNone (t : Addr) (its : Array Value) (n : Nat) (dct : Option Addr) (sl : Array (Option Value)) (k : Int) (u : Tok) (b0 : (decide (k < -(2 ^ 63)) || decide (k ≥ 2 ^ 63)) = false) (b1 : (its.isEmpty || k == 1) = false) (b2 : (decide (k ≤ 0) || its.isEmpty) = true) :
    Meets (Builtin.«tuple.__mul__» ⟨[.ref t, .int k u], []⟩) (fun _ R s => s.heap.get? t = some ⟨.type "tuple", dct, .seq its n, sl⟩ ∧ R (.ok (.ret (.ref s.heap.objs.size))) { s with heap := s.heap.push { cls := Value.type "tuple", data := Data.seq #[] } }) :=
  .of_wp fun prog w A R s q => by
    obtain ⟨hp, gs, dr, tk, os⟩ := s
    obtain ⟨at0, q⟩ := q
    have f1 := AutoSeq1.idx_int
    have sz : (#[] : Array Value).size ≤ sizeLine := Nat.zero_le _
    wp_walk using wpAny_loadPart' at0
    repeat (first
      | (refine wpAny_ite_false (decide_eq_false (by rw [b0]; exact Bool.false_ne_true)) ?_; wp_walk using wpAny_loadPart' at0)
      | (refine wpAny_ite_false (decide_eq_false (by rw [b1]; exact Bool.false_ne_true)) ?_; wp_walk using wpAny_loadPart' at0)
      | (refine wpAny_ite_true (decide_eq_true b2) ?_; wp_walk using wpAny_loadPart' at0)
      | (refine wpAny_ite_false (decide_eq_false (Nat.not_lt.mpr sz)) ?_; wp_walk using wpAny_loadPart' at0))
    exact ⟨_, rfl, q⟩
def rRepAny (K : PySem.W.Frag) : R2 := fun x y H Q => ∃ l k xs, x = .ref l ∧ y = .int k ∧ SqT K H l xs ∧ xs ≠ [] ∧ -1000 ≤ k ∧ k ≤ 1000 ∧ xs.length ≤ 1000 ∧ (k = 1 → Q (.ref l) H) ∧ (k ≠ 1 → ∀ p, H p = none → Q (.ref p) (upd H p (.tup (List.replicate k.toNat xs).flatten)))
theorem op_repAny {X : Cx} : OpR X (binaryOp .Mult) (rRepAny X.K) := by
  intro pins s σ H x y v u Q I rx ry h
  obtain ⟨l, k, xs, ex, ey, hT, hne, h1, h2, hz, q1, q2⟩ := h
  by_cases two : 2 ≤ k
  · exact op_repT pins s σ H x y v u Q I rx ry ⟨l, k, xs, ex, ey, hT, hne, two, h2, hz, q2 (by omega)⟩
  subst ex ey
  cases rx
  obtain ⟨t, rfl⟩ := ry
  obtain ⟨its, r, ⟨⟨cls, dd, data, sl⟩, ho, hc, n, hd⟩, hs⟩ := I.tuple hT
  simp only at hc hd
  subst hc hd
  have hle : its.length = xs.length := r.length.symm
  have hi : its.toArray.isEmpty = false := by
    cases its with
    | nil => exact absurd (List.eq_nil_of_length_eq_zero hle.symm) hne
    | cons a b => rfl
  refine wpAny_binaryOp_repeat_ref (T := "tuple") (U := "int") (by decide) ⟨_, ho, rfl⟩ (fun z => typeIs_int z k t) noFill_tuple_mul F.fills_int_mul F.slot_int_rmul repeat_tuple F.slot_int_index.lookup
    (call_meets F.slot_int_rmul (typeIs_int s k t) F.entry_int_rmul (F.args_int_rmul_2 _ _) (int_rmul_tuple k t l its.toArray n dd sl) ⟨ho, rfl, ⟨_, ho, rfl⟩, ?_⟩)
  by_cases one : k = 1
  · subst one
    exact call_meets F.slot_tuple_mul ⟨_, ho, rfl⟩ F.entry_tuple_mul (F.args_tuple_mul_2 _ _) (tupOnce l its.toArray n dd sl t) ⟨ho, .ref l, H, I, rfl, q1 rfl⟩
  · have b0 : (decide (k < -(2 ^ 63)) || decide (k ≥ 2 ^ 63)) = false := by
      rw [decide_eq_false (by omega), decide_eq_false (by omega)]; rfl
    have b1 : (its.toArray.isEmpty || k == 1) = false := by
      rw [hi, Bool.false_or]; exact beq_eq_false_iff_ne.mpr one
    have b2 : (decide (k ≤ 0) || its.toArray.isEmpty) = true := by
      rw [decide_eq_true (by omega)]; rfl
    have e : (List.replicate k.toNat xs).flatten = [] := by
      rw [show k.toNat = 0 by omega]; rfl
    have q3 := q2 one
    rw [e] at q3
    refine call_meets F.slot_tuple_mul ⟨_, ho, rfl⟩ F.entry_tuple_mul (F.args_tuple_mul_2 _ _) (tupNone l its.toArray n dd sl k t b0 b1 b2) ⟨ho, .ref s.heap.objs.size, _, I.laid (t' := s.toks) (o := .tup []) (fun b ob z => Heap.get?_push_of_some _ z) (Nat.le_refl _) ?_, rfl, q3 _ (I.hok.fresh (Nat.le_refl _))⟩
    exact ⟨Nat.zero_le _, [], .nil, IsTup.new _ _⟩
end DL
namespace DL
open PySem PySem.Spec PyProof.Rows L2

mutual
def D.py : D → PyData
  | .non => .none
  | .bl b => .bool b
  | .int i => .int i
  | .str x => .str x
  | .tup xs => .tuple (D.pyL xs)
  | .lst xs => .list (D.pyL xs)
  | .dic _ => .dict []
  | .obj _ _ => .dict []
  | .purse => .dict []
  | .scr _ => .dict []
  | .dlk _ => .dict []
  | .dlt _ _ => .dict []
  | .exc _ => .dict []
def D.pyL : List D → List PyData
  | [] => []
  | x :: xs => D.py x :: D.pyL xs
end

section
variable {X : Cx} {mg : Gm} {W W' : Wd} {H H' : Hp} {v x y : V}
mutual
theorem Rel.dp {K : PySem.W.Frag} (w : WOk W H) : ∀ {v : V} {d : D}, Rel mg W v d → d.py.canLay0 = true → Dp K H v d.py
  | _, _, .non, _ => .non
  | _, _, .bl b, _ => .bl b
  | _, _, .int i, _ => .int i
  | _, _, .str x, _ => .str x
  | _, _, .tup h r, c => .tup (SqT.of (w.sub _ _ h)) (RelL.dp w r c)
  | _, _, .lst h r, c => .lst (SqL.of (w.sub _ _ h)) (RelL.dp w r c)
  | _, _, .dic h r, c => absurd c (by show ¬ (false = true); exact Bool.false_ne_true)
  | _, _, .obj h e r, c => absurd c (by show ¬ (false = true); exact Bool.false_ne_true)
  | _, _, .purse h, c => absurd c (by show ¬ (false = true); exact Bool.false_ne_true)
  | _, _, .scr h r, c => absurd c (by show ¬ (false = true); exact Bool.false_ne_true)
  | _, _, .dlk h r, c => absurd c (by show ¬ (false = true); exact Bool.false_ne_true)
  | _, _, .dlt h e r, c => absurd c (by show ¬ (false = true); exact Bool.false_ne_true)
  | _, _, .exc m h, c => absurd c (by show ¬ (false = true); exact Bool.false_ne_true)
theorem RelL.dp {K : PySem.W.Frag} (w : WOk W H) : ∀ {vs : List V} {ds : List D}, RelL mg W vs ds → PyData.canLayAll0 (D.pyL ds) = true → DpAll K H vs (D.pyL ds)
  | _, _, .nil, _ => .nil
  | _, _, .cons (d := d) (ds := ds) h t, c => by
    have c2 : (d.py.canLay0 && PyData.canLayAll0 (D.pyL ds)) = true := c
    rw [Bool.and_eq_true] at c2
    exact .cons (Rel.dp w h c2.1) (RelL.dp w t c2.2)
end
theorem RelH.dp {K : PySem.W.Frag} {d : D} (h : RelH mg W H v d) (w : WOk W H) (c : SeqAt.shaped d.py = true) : Dp K H v d.py := by
  have c1 := SeqAt.canLay_of_shaped c
  rcases h with h | ⟨a, vs, xs, rfl, rfl, h1, h2, h3⟩
  · exact h.dp w c1
  · exact .lst (SqL.of h1) (RelL.dp w h3 c1)
def oEqB (g : Bool → Bool) : D → D → (R → Prop) → Prop := fun x y P => match x, y with
  | .int i, .int j => P (.im (.bl (g (decide (i = j)))))
  | .bl i, .bl j => P (.im (.bl (g (decide (i = j)))))
  | .str i, .str j => SeqAt.shaped (.str i) = true ∧ SeqAt.shaped (.str j) = true ∧ P (.im (.bl (g (decide (i = j)))))
  | x, y => SeqAt.shaped x.py = true ∧ SeqAt.shaped y.py = true ∧ P (.im (.bl (g (PyData.eqv x.py y.py))))
theorem eqv_int (i j : Int) : PyData.eqv (.int i) (.int j) = decide (i = j) := by unfold PyData.eqv; exact Bool.beq_eq_decide_eq i j
theorem eqv_bl (i j : Bool) : PyData.eqv (.bool i) (.bool j) = decide (i = j) := by unfold PyData.eqv; exact Bool.beq_eq_decide_eq i j
theorem eqv_str (i j : Str) : PyData.eqv (.str i) (.str j) = decide (i = j) := by unfold PyData.eqv; exact Bool.beq_eq_decide_eq i j
theorem oEqB_inv {g : Bool → Bool} {x y : D} {P : R → Prop} (h : oEqB g x y P) : SeqAt.shaped x.py = true ∧ SeqAt.shaped y.py = true ∧ P (.im (.bl (g (PyData.eqv x.py y.py)))) := by
  unfold oEqB at h
  split at h
  · refine ⟨rfl, rfl, ?_⟩; show P (.im (.bl (g (PyData.eqv (.int _) (.int _))))); rw [eqv_int]; exact h
  · refine ⟨rfl, rfl, ?_⟩; show P (.im (.bl (g (PyData.eqv (.bool _) (.bool _))))); rw [eqv_bl]; exact h
  · refine ⟨h.1, h.2.1, ?_⟩; show P (.im (.bl (g (PyData.eqv (.str _) (.str _))))); rw [eqv_str]; exact h.2.2
  · exact h
abbrev oEq := oEqB id
abbrev oNe := oEqB not
theorem do_eq0 (hu : X.A.units + 64 < cLine) : DO X (compareOp .Eq) (rEqD X.K) oEq := ⟨op_eqD hu, fun W H x y dx dy P Q w a b o k => by
  obtain ⟨s1, s2, p⟩ := oEqB_inv o
  exact ⟨_, _, a.dp w s1, b.dp w s2, s1, s2, k W H _ (.im _) w (Ext.refl _ _) (.bl _) p⟩⟩
theorem do_ne0 (hu : X.A.units + 64 < cLine) : DO X (compareOp .NotEq) (rNeD X.K) oNe := ⟨op_neD hu, fun W H x y dx dy P Q w a b o k => by
  obtain ⟨s1, s2, p⟩ := oEqB_inv o
  exact ⟨_, _, a.dp w s1, b.dp w s2, s1, s2, k W H _ (.im _) w (Ext.refl _ _) (.bl _) p⟩⟩
def CMulA (i j : Int) : Prop := CMul i j ∨ CMulW i j
def rMulAll (K : PySem.W.Frag) : R2 := fun x y H Q => rI CMul (fun i j => .int (i * j)) x y H Q ∨ rI CMulW (fun i j => .int (i * j)) x y H Q ∨ rRep x y H Q ∨ rRepAny K x y H Q
def oMul : D → D → (R → Prop) → Prop := fun x y P => match x, y with
  | .int i, .int j => CMulA i j ∧ P (.im (.int (i * j)))
  | .lst xs, .int k => -(2 ^ 63) ≤ k ∧ k < 2 ^ 63 ∧ xs.length * k.toNat ≤ sizeLine ∧ P (.fr (List.replicate k.toNat xs).flatten)
  | .tup xs, .int k => xs ≠ [] ∧ -1000 ≤ k ∧ k ≤ 1000 ∧ xs.length ≤ 1000 ∧ P (.im (.tup (List.replicate k.toNat xs).flatten))
  | _, _ => False
theorem do_mul0 : DO X (binaryOp .Mult) (rMulAll X.K) oMul := ⟨op_mul.or (op_mulW.or (op_rep.or op_repAny)), fun W H x y dx dy P Q w a b o k => by
  unfold oMul at o
  split at o
  · rcases o.1 with c | c
    · exact .inl ⟨_, _, a.int, b.int, c, k W H _ (.im _) w (Ext.refl _ _) (.int _) o.2⟩
    · exact .inr (.inl ⟨_, _, a.int, b.int, c, k W H _ (.im _) w (Ext.refl _ _) (.int _) o.2⟩)
  · obtain ⟨p, vs, e1, h1, n1, r1⟩ := a.lst w
    refine .inr (.inr (.inl ⟨p, _, vs, e1, b.int, h1, o.1, o.2.1, by rw [r1.length]; exact o.2.2.1, fun c hc => ?_⟩))
    obtain ⟨k1, k2, k3⟩ := rf_new w hc (relL_repeat r1 _)
    exact k _ _ _ _ k1 k2 k3 o.2.2.2
  · obtain ⟨p, vs, e1, h1, f1, r1⟩ := a.tup w
    rename_i xs z
    refine .inr (.inr (.inr ⟨p, z, vs, e1, b.int, SqT.of h1, fun e => o.1 ?_, o.2.1, o.2.2.1, by rw [r1.length]; exact o.2.2.2.1, fun e => ?_, fun _ c hc => ?_⟩))
    · have := r1.length
      rw [e] at this
      exact List.eq_nil_of_length_eq_zero this.symm
    · have o2 := o.2.2.2.2
      have e2 : (List.replicate z.toNat xs).flatten = xs := by rw [e]; exact List.append_nil _
      rw [e2] at o2
      exact k _ _ _ (.im _) w (Ext.refl _ _) (Rel.tup f1 r1) o2
    · obtain ⟨k1, k2, k3⟩ := rf_tup w hc (relL_repeat r1 _)
      exact k _ _ _ _ k1 k2 k3 o.2.2.2.2
  · exact o.elim⟩
theorem do_mul {K : PySem.W.Frag} (hK : X.K = K := by rfl) : DO X (binaryOp .Mult) (rMulAll K) oMul := by subst hK; exact do_mul0
def oNeg : D → (R → Prop) → Prop := fun x P => match x with
  | .int i => P (.im (.int (-i)))
  | _ => False
theorem de_neg {a : Expr} {pos : Pos} {ta' : TE} {ta : DTE} (ha : DE X a ta' ta) : DE X (.UnaryOp .USub a pos) (tUn (rU fun i => .int (-i)) ta') (dUn oNeg ta) := ⟨pe_un un_neg ha.p, se_un (fun W H x dx P Q w a o k => by
  unfold oNeg at o
  split at o
  · exact ⟨_, a.int, k W H _ (.im _) w (Ext.refl _ _) (.int _) o⟩
  · exact o.elim) ha.s⟩
def flatD : D → Bool
  | .non => true
  | .bl _ => true
  | .int _ => true
  | .str _ => true
  | _ => false
def eqF : D → D → Bool
  | .non, .non => true
  | .bl a, .bl b => a == b
  | .bl a, .int b => (if a then 1 else 0) == b
  | .int a, .bl b => a == (if b then 1 else 0)
  | .int a, .int b => a == b
  | .str a, .str b => a == b
  | _, _ => false
def inF (x : D) (xs : List D) : Bool := xs.any fun y => eqF y x
theorem Rel.flat {d : D} (r : Rel mg W v d) (h : flatD d = true) : flatV v = true := by cases r <;> first | rfl | exact h
theorem Rel.eqF {d e : D} {u : V} (r : Rel mg W v d) (q : Rel mg W u e) (h : flatD d = true) (h2 : flatD e = true) : eqV v u = eqF d e := by
  cases r <;> first | exact absurd h Bool.false_ne_true | (cases q <;> first | exact absurd h2 Bool.false_ne_true | rfl)
theorem RelL.flat : ∀ {vs : List V} {ds : List D}, RelL mg W vs ds → ds.all flatD = true → vs.all flatV = true
  | _, _, .nil, _ => rfl
  | _, _, .cons h t, c => by
    rw [List.all_cons, Bool.and_eq_true] at c ⊢
    exact ⟨h.flat c.1, RelL.flat t c.2⟩
theorem RelL.inF {d : D} {u : V} (q : Rel mg W u d) (hd : flatD d = true) : ∀ {vs : List V} {ds : List D}, RelL mg W vs ds → ds.all flatD = true → inV u vs = inF d ds
  | _, _, .nil, _ => rfl
  | _, _, .cons h t, c => by
    rw [List.all_cons, Bool.and_eq_true] at c
    have e1 := h.eqF q c.1 hd
    have e2 := RelL.inF q hd t c.2
    unfold L2.inV at e2 ⊢
    unfold DL.inF at e2 ⊢
    rw [List.any_cons, List.any_cons, e1, e2]
theorem RelH.flat {d : D} (h : RelH mg W H v d) (f : flatD d = true) : Rel mg W v d := by
  rcases h with h | ⟨a, vs, xs, rfl, rfl, _⟩
  · exact h
  · cases f
def oIn (g : Bool → Bool) : D → D → (R → Prop) → Prop := fun x y P => match y with
  | .lst ys => flatD x = true ∧ ys.all flatD = true ∧ P (.im (.bl (g (inF x ys))))
  | .tup ys => flatD x = true ∧ ys.all flatD = true ∧ P (.im (.bl (g (inF x ys))))
  | _ => False
theorem do_in0 : DO X (compareOp .In) (rIn X.K false) (oIn id) := ⟨op_in_seq, fun W H x y dx dy P Q w a b o k => by
  unfold oIn at o
  split at o
  · obtain ⟨p, vs, e1, h1, n1, r1⟩ := b.lst w
    have q := a.flat o.1
    refine ⟨p, vs, e1, .inl (SqL.of h1), q.flat o.1, r1.flat o.2.1, k W H _ (.im _) w (Ext.refl _ _) ?_ o.2.2⟩
    show Rel (gm X) W (.bl (inV x vs)) _
    rw [r1.inF q o.1 o.2.1]; exact .bl _
  · obtain ⟨p, vs, e1, h1, n1, r1⟩ := b.tup w
    have q := a.flat o.1
    refine ⟨p, vs, e1, .inr (SqT.of h1), q.flat o.1, r1.flat o.2.1, k W H _ (.im _) w (Ext.refl _ _) ?_ o.2.2⟩
    show Rel (gm X) W (.bl (inV x vs)) _
    rw [r1.inF q o.1 o.2.1]; exact .bl _
  · exact o.elim⟩
def sw (b : Bool) (A B : Prop) : Prop := (b = true → A) ∧ (b = false → B)
def dTest (t : DTE) : DTT := fun ρ P => t ρ fun r ρ1 => match r with
  | .im (.bl b) => P b ρ1
  | _ => False
theorem st_test {t' : TE} {t : DTE} (h : SE mg t' t) : STt mg (tTest t') (dTest t) := fun W0 H0 W H σ ρ P Q I q k =>
  h W0 H0 W H σ ρ _ _ I q fun W1 H1 v r ρ1 I1 u1 R1 h1 => by
    split at h1
    · rename_i b
      have R2 : Rel mg W1 v (.bl b) := R1
      cases R2
      exact ⟨_, rfl, k W1 H1 _ ρ1 I1 u1 h1⟩
    · exact h1.elim
theorem dt_cmp {a b : Expr} {pos : Pos} {op : CmpOp} {r : R2} {o : D → D → (R → Prop) → Prop} {ta' tb' : TE} {ta tb : DTE} (ho : DO X (compareOp op) r o) (ha : DE X a ta' ta) (hb : DE X b tb' tb) (hm : behindInMarks op b = false) : DT X (.Compare a [op] [b] pos) (tTest (tOp r ta' tb')) (dTest (dOp o ta tb)) :=
  ⟨pt_cmpR ho.p ha.p hb.p hm, st_test (se_op ho.s ha.s hb.s)⟩
def truD : D → Option Bool
  | .non => some false
  | .bl b => some b
  | .int i => some (decide (i ≠ 0))
  | .lst xs => some (!xs.isEmpty)
  | .tup xs => some (!xs.isEmpty)
  | _ => none
def tTru (K : PySem.W.Frag) (ta : TE) : TT := fun σ H Q => ta σ H fun x H' => ∃ k, TruV K x H' k ∧ Q k H'
def dTru (t : DTE) : DTT := fun ρ P => t ρ fun r ρ1 => match truD r.d with
  | some b => P b ρ1
  | none => False
theorem RelL.isEmpty {vs : List V} {ds : List D} (r : RelL mg W vs ds) : vs.isEmpty = ds.isEmpty := by cases r <;> rfl
theorem tru_of {K : PySem.W.Frag} {d : D} {b : Bool} (h : RelH mg W H v d) (w : WOk W H) (e : truD d = some b) : TruV K v H b := by
  cases d with
  | non => cases h.non; cases e; rfl
  | bl b => cases h.bl; cases e; rfl
  | int i =>
    cases h.int
    cases e
    show decide (i ≠ 0) = (i != 0)
    by_cases q : i = 0
    · subst q; rfl
    · rw [decide_eq_true q]; exact (bne_iff_ne.mpr q).symm
  | lst xs =>
    obtain ⟨p, vs, rfl, h1, n1, r1⟩ := h.lst w
    cases e
    exact .inl ⟨vs, SqL.of h1, by rw [r1.isEmpty]⟩
  | tup xs =>
    obtain ⟨p, vs, rfl, h1, n1, r1⟩ := h.tup w
    cases e
    exact .inr (.inl ⟨vs, SqT.of h1, by rw [r1.isEmpty]⟩)
  | _ => cases e
theorem st_tru {K : PySem.W.Frag} {t' : TE} {t : DTE} (h : SE mg t' t) : STt mg (tTru K t') (dTru t) := fun W0 H0 W H σ ρ P Q I q k =>
  h W0 H0 W H σ ρ _ _ I q fun W1 H1 v r ρ1 I1 u1 R1 h1 => by
    split at h1
    · rename_i b e
      exact ⟨b, tru_of (R1.relH I1) I1.wok e, k W1 H1 _ ρ1 I1 u1 h1⟩
    · exact h1.elim
theorem dt_tru {a : Expr} {ta' : TE} {ta : DTE} (ha : DE X a ta' ta) (he : ∀ whole, isTrue a X.env whole = (do let v ← whole; standAt a.pos; holding [v] (truthy v)) := by intro _; rfl) {K : PySem.W.Frag} (hK : X.K = K := by rfl) : DT X a (tTru K ta') (dTru ta) := by subst hK; exact ⟨pt_truth ha.p he, st_tru ha.s⟩
def dAnd (t u : DTT) : DTT := fun ρ P => t ρ fun c ρ1 => sw c (u ρ1 P) (P false ρ1)
def dOr (t u : DTT) : DTT := fun ρ P => t ρ fun c ρ1 => sw c (P true ρ1) (u ρ1 P)
def dNot (t : DTT) : DTT := fun ρ P => t ρ fun c ρ1 => P (!c) ρ1
theorem st_and {t' u' : TT} {t u : DTT} (h : STt mg t' t) (g : STt mg u' u) : STt mg (tAnd t' u') (dAnd t u) := fun W0 H0 W H σ ρ P Q I q k =>
  h W0 H0 W H σ ρ _ _ I q fun W1 H1 b ρ1 I1 u1 h1 => by
    cases b with
    | true =>
      replace h1 := h1.1 rfl; rw [if_pos rfl]
      exact g W0 H0 W1 H1 σ ρ1 _ _ I1 h1 fun W2 H2 c ρ2 I2 u2 h2 => k W2 H2 c ρ2 I2 (u1.trans u2) h2
    | false =>
      replace h1 := h1.2 rfl; rw [if_neg Bool.false_ne_true]
      exact k W1 H1 _ ρ1 I1 u1 h1
theorem st_or {t' u' : TT} {t u : DTT} (h : STt mg t' t) (g : STt mg u' u) : STt mg (tOr t' u') (dOr t u) := fun W0 H0 W H σ ρ P Q I q k =>
  h W0 H0 W H σ ρ _ _ I q fun W1 H1 b ρ1 I1 u1 h1 => by
    cases b with
    | true =>
      replace h1 := h1.1 rfl; rw [if_pos rfl]
      exact k W1 H1 _ ρ1 I1 u1 h1
    | false =>
      replace h1 := h1.2 rfl; rw [if_neg Bool.false_ne_true]
      exact g W0 H0 W1 H1 σ ρ1 _ _ I1 h1 fun W2 H2 c ρ2 I2 u2 h2 => k W2 H2 c ρ2 I2 (u1.trans u2) h2
theorem st_not {t' : TT} {t : DTT} (h : STt mg t' t) : STt mg (tNot t') (dNot t) := fun W0 H0 W H σ ρ P Q I q k =>
  h W0 H0 W H σ ρ _ _ I q fun W1 H1 b ρ1 I1 u1 h1 => k W1 H1 _ ρ1 I1 u1 h1
section
variable {a b c : Expr} {rest : List Expr} {pos : Pos} {t' u' : TT} {t u : DTT}
theorem dw_and1 (h : DT X a t' t) : DW X (.BoolOp .And [a] pos) t' t := ⟨pw_and1 h.p, h.s⟩
theorem dw_or1 (h : DT X a t' t) : DW X (.BoolOp .Or [a] pos) t' t := ⟨pw_or1 h.p, h.s⟩
theorem dw_and (h : DT X a t' t) (g : DW X (.BoolOp .And (b :: rest) pos) u' u) : DW X (.BoolOp .And (a :: b :: rest) pos) (tAnd t' u') (dAnd t u) := ⟨pw_and h.p g.p, st_and h.s g.s⟩
theorem dw_or (h : DT X a t' t) (g : DW X (.BoolOp .Or (b :: rest) pos) u' u) : DW X (.BoolOp .Or (a :: b :: rest) pos) (tOr t' u') (dOr t u) := ⟨pw_or h.p g.p, st_or h.s g.s⟩
theorem DW.dt (h : DW X a t' t) : DT X a t' t := ⟨h.p.pt, h.s⟩
theorem dt_not (h : DT X a t' t) : DT X (.UnaryOp .Not a pos) (tNot t') (dNot t) := ⟨pt_not h.p, st_not h.s⟩
end
def dAndV (ta tb : DTE) : DTE := fun ρ P => ta ρ fun r ρ1 => match r with
  | .im (.bl c) => sw c (tb ρ1 P) (P (.im (.bl false)) ρ1)
  | _ => False
def dNotV (ta : DTE) : DTE := fun ρ P => ta ρ fun r ρ1 => match r with
  | .im (.bl c) => P (.im (.bl (!c))) ρ1
  | _ => False
theorem se_then {σ : L2.St} {W0 W W1 : Wd} {H0 H H1 : Hp} {ρ ρ1 : Rh} {t' : TE} {t : DTE} {P : R → Rh → Prop} {Q : VK} (g : SE mg t' t) (I1 : EnvOk mg W0 H0 W1 H1 σ ρ1) (u1 : Stp σ ρ W H ρ1 W1 H1) (h1 : t ρ1 P) (k : ∀ W' H' v r ρ', EnvOk mg W0 H0 W' H' σ ρ' → Stp σ ρ W H ρ' W' H' → RR mg H W' H' σ ρ' v r → P r ρ' → Q v H') : t' σ H1 Q :=
  g W0 H0 W1 H1 σ ρ1 _ _ I1 h1 fun W2 H2 v r ρ2 I2 u2 R2 h2 => k W2 H2 v r ρ2 I2 (u1.trans u2) (R2.back u1.dom) h2
theorem se_andV {ta' tb' : TE} {ta tb : DTE} (h : SE mg ta' ta) (g : SE mg tb' tb) : SE mg (tAndV ta' tb') (dAndV ta tb) := fun W0 H0 W H σ ρ P Q I q k =>
  h W0 H0 W H σ ρ _ _ I q fun W1 H1 v r ρ1 I1 u1 R1 h1 => by
    split at h1
    · rename_i c
      have R2 : Rel mg W1 v (.bl c) := R1
      cases R2
      refine ⟨_, rfl, ?_⟩
      cases c with
      | true => replace h1 := h1.1 rfl; rw [if_pos rfl]; exact se_then g I1 u1 h1 k
      | false => replace h1 := h1.2 rfl; rw [if_neg Bool.false_ne_true]; exact k W1 H1 _ (.im _) ρ1 I1 u1 (Rel.bl _) h1
    · exact h1.elim
theorem se_notV {ta' : TE} {ta : DTE} (h : SE mg ta' ta) : SE mg (tNotV ta') (dNotV ta) := fun W0 H0 W H σ ρ P Q I q k =>
  h W0 H0 W H σ ρ _ _ I q fun W1 H1 v r ρ1 I1 u1 R1 h1 => by
    split at h1
    · rename_i c
      have R2 : Rel mg W1 v (.bl c) := R1
      cases R2
      exact ⟨_, rfl, k W1 H1 _ (.im _) ρ1 I1 u1 (Rel.bl _) h1⟩
    · exact h1.elim
section
variable {a b c : Expr} {op : BoolOp} {rest : List Expr} {pos : Pos} {ta' tb' : TE} {ta tb : DTE}
theorem de_one (h : DE X a ta' ta) : DE X (.BoolOp op [a] pos) ta' ta := ⟨pe_one h.p, h.s⟩
theorem de_and (h : DE X a ta' ta) (g : DE X (.BoolOp .And (b :: rest) pos) tb' tb) : DE X (.BoolOp .And (a :: b :: rest) pos) (tAndV ta' tb') (dAndV ta tb) := ⟨pe_and h.p g.p, se_andV h.s g.s⟩
theorem de_not (h : DE X a ta' ta) : DE X (.UnaryOp .Not a pos) (tNotV ta') (dNotV ta) := ⟨pe_not h.p, se_notV h.s⟩
def dIfE (t : DTT) (ta tb : DTE) : DTE := fun ρ P => t ρ fun c ρ1 => sw c (ta ρ1 P) (tb ρ1 P)
theorem de_if {t' : TT} {t : DTT} (h : DT X c t' t) (ha : DE X a ta' ta) (hb : DE X b tb' tb) : DE X (.IfExp c a b pos) (tIf t' ta' tb') (dIfE t ta tb) := ⟨pe_ifExp h.p ha.p hb.p, fun W0 H0 W H σ ρ P Q I q k =>
  h.s W0 H0 W H σ ρ _ _ I q fun W1 H1 c ρ1 I1 u1 h1 => by
    cases c with
    | true => replace h1 := h1.1 rfl; rw [if_pos rfl]; exact se_then ha.s I1 u1 h1 k
    | false => replace h1 := h1.2 rfl; rw [if_neg Bool.false_ne_true]; exact se_then hb.s I1 u1 h1 k⟩
end

def dNil : DTA := fun ρ P => P [] ρ
def dCons (ta : DTE) (tr : DTA) : DTA := fun ρ P => ta ρ fun r ρ1 => tr (frz r ρ1) fun ds ρ2 => P (r.d :: ds) ρ2
def dConsH (ta : DTE) (tr : DTA) : DTA := fun ρ P => ta ρ fun r ρ1 => tr ρ1 fun ds ρ2 => P (r.d :: ds) ρ2
section
variable {e a : Expr} {es : List Expr} {te' : TE} {te : DTE} {tr' : TA} {tr : DTA} {pos : Pos}
theorem da_nil : DA X [] tNil dNil := ⟨pa_nil, fun W0 H0 W H σ ρ P Q I h k => k W H [] [] ρ I Stp.refl .nil h⟩
theorem dh_nil : DAh X [] tNil dNil := ⟨pa_nil, fun W0 H0 W H σ ρ P Q I h k => k W H [] [] ρ I Stp.refl .nil h⟩
theorem da_cons (he : DE X e te' te) (hr : DA X es tr' tr) (hs : starEach (e :: es) X.env = (false, eval e X.env) :: starEach es X.env := by rfl) : DA X (e :: es) (tCons te' tr') (dCons te tr) := ⟨pa_cons he.p hr.p hs, fun W0 H0 W H σ ρ P Q I h k =>
  he.s W0 H0 W H σ ρ _ _ I h fun W1 H1 v r ρ1 I1 u1 R1 h1 => by
    obtain ⟨W2, I2, u2, r2⟩ := u1.settle I I1 R1
    exact hr.s W0 H0 W2 H1 σ _ _ _ I2 h1 fun W3 H3 vs ds ρ3 I3 u3 R3 h3 => k W3 H3 _ _ ρ3 I3 (u2.trans u3) (.cons (r2.mono u3.le) R3) h3⟩
theorem dh_cons (he : DE X e te' te) (hr : DAh X es tr' tr) (hs : starEach (e :: es) X.env = (false, eval e X.env) :: starEach es X.env := by rfl) : DAh X (e :: es) (tCons te' tr') (dConsH te tr) := ⟨pa_cons he.p hr.p hs, fun W0 H0 W H σ ρ P Q I h k =>
  he.s W0 H0 W H σ ρ _ _ I h fun W1 H1 v r ρ1 I1 u1 R1 h1 =>
    hr.s W0 H0 W1 H1 σ _ _ _ I1 h1 fun W3 H3 vs ds ρ3 I3 u3 R3 h3 => k W3 H3 _ _ ρ3 I3 (u1.trans u3) (.cons ((R1.relH I1).up u3.toUp) R3) h3⟩
def dTup (t : DTA) : DTE := fun ρ P => t ρ fun ds ρ1 => ds.length ≤ sizeLine ∧ P (.im (.tup ds)) ρ1
def dLst (t : DTA) : DTE := fun ρ P => t ρ fun ds ρ1 => ds.length ≤ sizeLine ∧ P (.fr ds) ρ1
theorem se_tup (h : SA mg tr' tr) : SE mg (tTup tr') (dTup tr) := fun W0 H0 W H σ ρ P Q I q k =>
  h W0 H0 W H σ ρ _ _ I q fun W1 H1 vs ds ρ1 I1 u1 R1 h1 => ⟨by rw [R1.length]; exact h1.1, fun p hp => by
    obtain ⟨k1, k2, k3⟩ := rf_tup I1.wok hp R1
    exact k _ _ _ (.im _) ρ1 (I1.step k2 k1) (u1.trans k2.stp) k3 h1.2⟩
theorem se_lst (h : SA mg tr' tr) : SE mg (tLst tr') (dLst tr) := fun W0 H0 W H σ ρ P Q I q k =>
  h W0 H0 W H σ ρ _ _ I q fun W1 H1 vs ds ρ1 I1 u1 R1 h1 => ⟨by rw [R1.length]; exact h1.1, fun p hp => by
    obtain ⟨k1, k2, k3⟩ := rf_new I1.wok hp R1
    exact k _ _ _ (.fr _) ρ1 (I1.step k2 k1) (u1.trans k2.stp) ((RF.rr k3 I1).back u1.dom) h1.2⟩
theorem de_tup {x1} (h : DA X es tr' tr) : DE X (.Tuple es x1 pos) (tTup tr') (dTup tr) := ⟨pe_tup h.p, se_tup h.s⟩
theorem de_lst (h : DA X es tr' tr) : DE X (.List es pos) (tLst tr') (dLst tr) := ⟨pe_lst h.p, se_lst h.s⟩

def dCB (o : List D → (R → Prop) → Prop) (t : DTA) : DTE := fun ρ P => t ρ fun ds ρ1 => o ds fun r => P r ρ1
theorem se_cb {r : List V → Hp → VK → Prop} {o : List D → (R → Prop) → Prop} (ho : CaS mg r o) (h : SAh mg tr' tr) : SE mg (tCB r tr') (dCB o tr) := fun W0 H0 W H σ ρ P Q I q k =>
  h W0 H0 W H σ ρ _ _ I q fun W1 H1 vs ds ρ1 I1 u1 R1 h1 =>
    ho W1 H1 vs ds _ _ I1.wok R1 h1 fun W3 H3 v r3 w3 e3 f3 p3 => k W3 H3 v r3 ρ1 (I1.step e3 w3) (u1.trans e3.stp) ((f3.rr I1).back u1.dom) p3
variable {r : List V → Hp → VK → Prop} {o : List D → (R → Prop) → Prop} {x : Str} {id T : String} {p : Pos}
theorem de_callB (hc : DC X (.builtin id) r o) (hg : Gl X x) (hm : X.mg x = none) (hv : bootBuiltins x = some (.builtin id)) (ha : DAh X (e :: es) tr' tr) (hn : x ≠ "__name__" := by decide) (hdb : (x == ("__debug__" : Str)) = false := by decide)
    (he : starEach (e :: es) X.env = (false, eval e X.env) :: starEach es X.env := by rfl) (hpl : (backTo pos (starEach es X.env)).any (·.1) = false := by rfl) : DE X (.Call (.Name x p) (e :: es) [] pos) (tCB r tr') (dCB o tr) :=
  ⟨pe_callB hc.p hg hm hv ha.p hn hdb he hpl, se_cb hc.s ha.s⟩
theorem de_callTy (hc : DC X (.type T) r o) (hg : Gl X x) (hm : X.mg x = none) (hv : bootBuiltins x = some (.type T)) (ha : DAh X (e :: es) tr' tr) (hn : x ≠ "__name__" := by decide) (hdb : (x == ("__debug__" : Str)) = false := by decide)
    (he : starEach (e :: es) X.env = (false, eval e X.env) :: starEach es X.env := by rfl) (hpl : (backTo pos (starEach es X.env)).any (·.1) = false := by rfl) : DE X (.Call (.Name x p) (e :: es) [] pos) (tCB r tr') (dCB o tr) :=
  ⟨pe_callTy hc.p hg hm hv ha.p hn hdb he hpl, se_cb hc.s ha.s⟩
end
theorem RelH.scr {ds : List D} (h : RelH mg W H v (.scr ds)) (w : WOk W H) : ∃ a vs, v = .ref a ∧ SqL mg.K H a vs ∧ RelL mg W vs ds := by
  rcases h with h | ⟨_, _, _, _, e, _⟩
  · cases h with
    | scr h1 h2 => exact ⟨_, _, rfl, Same.seq w.sub h1, h2⟩
  · cases e
theorem RelHL.one {xs : List V} {d : D} (h : RelHL mg W H xs [d]) : ∃ v, xs = [v] ∧ RelH mg W H v d := by
  cases h with
  | cons a b => cases b; exact ⟨_, rfl, a⟩
theorem RelHL.two {xs : List V} {d e : D} (h : RelHL mg W H xs [d, e]) : ∃ v u, xs = [v, u] ∧ RelH mg W H v d ∧ RelH mg W H u e := by
  cases h with
  | cons a b =>
    obtain ⟨u, rfl, b1⟩ := b.one
    exact ⟨_, _, rfl, a, b1⟩
def oLen : List D → (R → Prop) → Prop := fun ds P => match ds with
  | [.lst xs] => P (.im (.int xs.length))
  | [.tup xs] => P (.im (.int xs.length))
  | [.str z] => z.length ≤ sizeLine ∧ P (.im (.int z.length))
  | [.scr xs] => P (.im (.int xs.length))
  | _ => False
theorem call_len_any : CallR X (.builtin "len") (fun xs H Q => (∃ p ys, xs = [.ref p] ∧ (SqL X.K H p ys ∨ SqT X.K H p ys) ∧ Q (.int ys.length) H) ∨ (∃ z, xs = [.str z] ∧ z.length ≤ sizeLine ∧ Q (.int z.length) H)) :=
  fun pins s σ H xs us Q I r h => h.elim (fun h => call_len_seq pins s σ H xs us Q I r h) fun h => call_len_str pins s σ H xs us Q I r h
def rLenA (K : PySem.W.Frag) : List V → Hp → VK → Prop := fun xs H Q => (∃ p ys, xs = [.ref p] ∧ (SqL K H p ys ∨ SqT K H p ys) ∧ Q (.int ys.length) H) ∨ (∃ z, xs = [.str z] ∧ z.length ≤ sizeLine ∧ Q (.int z.length) H)
theorem dc_len0 : DC X (.builtin "len") (rLenA X.K) oLen := ⟨call_len_any, fun W H xs ds P Q w a o k => by
  unfold oLen at o
  split at o
  · obtain ⟨v, rfl, a1⟩ := a.one
    obtain ⟨p, vs, rfl, h1, n1, r1⟩ := a1.lst w
    exact .inl ⟨p, vs, rfl, .inl (SqL.of h1), k W H _ (.im _) w (Ext.refl _ _) (by rw [r1.length]; exact Rel.int _) o⟩
  · obtain ⟨v, rfl, a1⟩ := a.one
    obtain ⟨p, vs, rfl, h1, n1, r1⟩ := a1.tup w
    exact .inl ⟨p, vs, rfl, .inr (SqT.of h1), k W H _ (.im _) w (Ext.refl _ _) (by rw [r1.length]; exact Rel.int _) o⟩
  · obtain ⟨v, rfl, a1⟩ := a.one
    exact .inr ⟨_, by rw [a1.str], o.1, k W H _ (.im _) w (Ext.refl _ _) (Rel.int _) o.2⟩
  · obtain ⟨v, rfl, a1⟩ := a.one
    obtain ⟨p, vs, rfl, h1, r1⟩ := a1.scr w
    exact .inl ⟨p, vs, rfl, .inl h1, k W H _ (.im _) w (Ext.refl _ _) (by rw [r1.length]; exact Rel.int _) o⟩
  · exact o.elim⟩
def oI2 (g : Int → Int → Int) : List D → (R → Prop) → Prop := fun ds P => match ds with
  | [.int i, .int j] => P (.im (.int (g i j)))
  | _ => False
def rI2 (g : Int → Int → Int) : List V → Hp → VK → Prop := fun xs H Q => ∃ i j, xs = [.int i, .int j] ∧ Q (.int (g i j)) H
theorem cs_I2 {g : Int → Int → Int} : CaS mg (rI2 g) (oI2 g) := fun W H xs ds P Q w a o k => by
  unfold oI2 at o
  split at o
  · obtain ⟨v, u, rfl, a1, b1⟩ := a.two
    exact ⟨_, _, by rw [a1.int, b1.int], k W H _ (.im _) w (Ext.refl _ _) (Rel.int _) o⟩
  · exact o.elim
theorem dc_max2 (hc : X.calm = true) : DC X (.builtin "max") (rI2 fun i j => if j > i then j else i) (oI2 fun i j => if j > i then j else i) := ⟨call_max2 hc, cs_I2⟩
theorem dc_min2 (hc : X.calm = true) : DC X (.builtin "min") (rI2 fun i j => if j < i then j else i) (oI2 fun i j => if j < i then j else i) := ⟨call_min2 hc, cs_I2⟩
def rAbs : List V → Hp → VK → Prop := fun xs H Q => ∃ i, xs = [.int i] ∧ Q (.int (if i < 0 then -i else i)) H
def blsOf : List D → Option (List Bool)
  | [] => some []
  | .bl b :: r => (blsOf r).map (b :: ·)
  | _ => none
theorem blsOf_map : ∀ {ds : List D} {bs : List Bool}, blsOf ds = some bs → ds = bs.map D.bl
  | [], _, h => by cases h; rfl
  | .bl b :: r, bs, h => by
    unfold blsOf at h
    cases e : blsOf r with
    | none => rw [e] at h; cases h
    | some cs => rw [e] at h; cases h; rw [blsOf_map e]; rfl
  | .non :: _, _, h => by cases h
  | .int _ :: _, _, h => by cases h
  | .str _ :: _, _, h => by cases h
  | .tup _ :: _, _, h => by cases h
  | .lst _ :: _, _, h => by cases h
  | .dic _ :: _, _, h => by cases h
  | .obj _ _ :: _, _, h => by cases h
  | .purse :: _, _, h => by cases h
  | .scr _ :: _, _, h => by cases h
  | .dlk _ :: _, _, h => by cases h
  | .dlt _ _ :: _, _, h => by cases h
  | .exc _ :: _, _, h => by cases h
theorem blsOf_bls : ∀ bs : List Bool, blsOf (bs.map D.bl) = some bs
  | [] => rfl
  | b :: r => by show (blsOf (r.map D.bl)).map (b :: ·) = _; rw [blsOf_bls r]; rfl
def oBs (g : List Bool → Bool) : List D → (R → Prop) → Prop := fun ds P => match ds with
  | [.lst xs] => ∃ bs, blsOf xs = some bs ∧ P (.im (.bl (g bs)))
  | _ => False
theorem dc_all0 (hc : X.calm = true) : DC X (.builtin "all") (rAll X.K) (oBs fun bs => bs.all id) := ⟨cr_all hc, fun W H xs ds P Q w a o k => by
  unfold oBs at o
  split at o
  · obtain ⟨bs, e, o⟩ := o
    obtain ⟨v, rfl, a1⟩ := a.one
    obtain ⟨p, vs, rfl, h1, n1, r1⟩ := a1.lst w
    rw [blsOf_map e] at r1
    exact ⟨p, bs, rfl, by rw [← r1.bls]; exact SqL.of h1, k W H _ (.im _) w (Ext.refl _ _) (Rel.bl _) o⟩
  · exact o.elim⟩
theorem do_eq (hu : X.A.units + 64 < cLine) {K : PySem.W.Frag} (hK : X.K = K := by rfl) : DO X (compareOp .Eq) (rEqD K) oEq := by subst hK; exact do_eq0 hu
theorem do_ne (hu : X.A.units + 64 < cLine) {K : PySem.W.Frag} (hK : X.K = K := by rfl) : DO X (compareOp .NotEq) (rNeD K) oNe := by subst hK; exact do_ne0 hu
theorem do_in  {K : PySem.W.Frag} (hK : X.K = K := by rfl) : DO X (compareOp .In) (rIn K false) (oIn id) := by subst hK; exact do_in0 
theorem dc_len  {K : PySem.W.Frag} (hK : X.K = K := by rfl) : DC X (.builtin "len") (rLenA K) oLen := by subst hK; exact dc_len0 
theorem dc_all (hc : X.calm = true) {K : PySem.W.Frag} (hK : X.K = K := by rfl) : DC X (.builtin "all") (rAll K) (oBs fun bs => bs.all id) := by subst hK; exact dc_all0 hc
end
end DL
namespace DL
open PySem PySem.Spec PyProof.Rows L2
section
variable {X : Cx} {mg : Gm} {W W' : Wd} {H H' : Hp} {v x y : V}

def dNext : DTS := fun nx _ _ _ ρ => nx ρ
def dSeq (t u : DTS) : DTS := fun nx rt bk ct ρ => t (u nx rt bk ct) rt bk ct ρ
theorem ss_next : SS mg tNext dNext := fun W0 H0 W H σ ρ P E I h e => e.nx W H σ ρ (Wle.refl _) I h
theorem ss_seq {t' u' : TS} {t u : DTS} (h : SS mg t' t) (g : SS mg u' u) : SS mg (tSeq t' u') (dSeq t u) := fun W0 H0 W H σ ρ P E I q e =>
  h W0 H0 W H σ ρ { P with nx := u P.nx P.rt P.bk P.ct } { E with nx := u' E } I q ⟨fun W' H' σ' ρ' l I' q' => g W0 H0 W' H' σ' ρ' P E I' q' (e.le l), e.bk, e.ct, e.rt⟩
theorem dss_nil : DSs X [] tNext dNext := ⟨pss_nil, ss_next⟩
section
variable {st : Stmt} {rest : List Stmt} {t' u' : TS} {t u : DTS}
theorem dss_cons (h : DS X st t' t) (g : DSs X rest u' u) : DSs X (st :: rest) (tSeq t' u') (dSeq t u) := ⟨pss_cons h.p g.p, ss_seq h.s g.s⟩
theorem dss_one (h : DS X st t' t) : DSs X [st] t' t := ⟨pss_one h.p, h.s⟩
end
def dNever : DTS := fun _ _ _ _ _ => False
theorem ds_never {st : Stmt} : DS X st tNever dNever := ⟨ps_never, fun W0 H0 W H σ ρ P E I h e => h.elim⟩
section
variable {e : Expr} {pos : Pos} {te' : TE} {te : DTE}
def dRet (te : DTE) : DTS := fun _ rt _ _ ρ => te ρ fun r _ => rt r.out
theorem ds_ret (he : DE X e te' te) : DS X (.Return (some e) pos) (tRet te') (dRet te) := ⟨ps_ret he.p, fun W0 H0 W H σ ρ P E I h k =>
  he.s W0 H0 W H σ ρ _ _ I h fun W1 H1 v r ρ1 I1 u1 R1 h1 => k.rt W1 H1 v _ I1.wok I1.ext (R1.rf I1 fun a q => I.ext.dom a q) h1⟩
end
section
variable {c : Expr} {a b : List Stmt} {pos : Pos} {tc' : TT} {tc : DTT} {t' u' : TS} {t u : DTS}
def dIf (c : DTT) (t u : DTS) : DTS := fun nx rt bk ct ρ => c ρ fun b ρ1 => sw b (t nx rt bk ct ρ1) (u nx rt bk ct ρ1)
theorem ds_if (hc : DT X c tc' tc) (ha : DSs X a t' t) (hb : DSs X b u' u) : DS X (.If c a b pos) (tIfS tc' t' u') (dIf tc t u) := ⟨ps_if hc.p ha.p hb.p, fun W0 H0 W H σ ρ P E I h k =>
  hc.s W0 H0 W H σ ρ _ _ I h fun W1 H1 b ρ1 I1 u1 h1 => by
    cases b with
    | true => replace h1 := h1.1 rfl; rw [if_pos rfl]; exact ha.s W0 H0 W1 H1 σ ρ1 P E I1 h1 (k.le u1.le)
    | false => replace h1 := h1.2 rfl; rw [if_neg Bool.false_ne_true]; exact hb.s W0 H0 W1 H1 σ ρ1 P E I1 h1 (k.le u1.le)⟩
def dWhile (c : DTT) (t : DTS) : DTS := fun nx rt _ _ ρ => ∃ I : Nat → Rh → Prop, (∃ m, I m ρ) ∧ ∀ m ρ, I m ρ →
  c ρ fun b ρ1 => sw b (t (fun ρ' => ∃ m', m' < m ∧ I m' ρ') rt nx (fun ρ' => ∃ m', m' < m ∧ I m' ρ') ρ1) (nx ρ1)
theorem ds_while {body : List Stmt} (hp : PassesOwn (model X.prog X.w) X.A X.env X.xe) (hc : DT X c tc' tc) (hb : DSs X body t' t) : DS X (.While c body [] pos) (tWhile tc' t') (dWhile tc t) := ⟨ps_while hp hc.p hb.p, fun W0 H0 W H σ ρ P E I0 h k => by
  obtain ⟨J, ⟨m0, j0⟩, turn⟩ := h
  refine ⟨fun m σ H => ∃ W1 ρ1, Wle W W1 ∧ EnvOk (gm X) W0 H0 W1 H σ ρ1 ∧ J m ρ1, ⟨m0, W, ρ, Wle.refl _, I0, j0⟩, ?_⟩
  rintro m σ1 H1 ⟨W1, ρ1, l1, I1, j1⟩
  refine hc.s W0 H0 W1 H1 σ1 ρ1 _ _ I1 (turn m ρ1 j1) fun W2 H2 b ρ2 I2 u2 h2 => ?_
  cases b with
  | true =>
    replace h2 := h2.1 rfl; rw [if_pos rfl]
    refine ⟨fun σ' H' => ∃ m', m' < m ∧ ∃ W1 ρ1, Wle W W1 ∧ EnvOk (gm X) W0 H0 W1 H' σ' ρ1 ∧ J m' ρ1, fun _ _ z => z, ?_⟩
    refine hb.s W0 H0 W2 H2 σ1 ρ2 ⟨fun ρ' => ∃ m', m' < m ∧ J m' ρ', P.rt, P.nx, fun ρ' => ∃ m', m' < m ∧ J m' ρ'⟩ _ I2 h2 ⟨fun W' H' σ' ρ' l I' q => ?_, fun W' H' σ' ρ' l I' q => k.nx W' H' σ' ρ' ((l1.trans u2.le).trans l) I' q, fun W' H' σ' ρ' l I' q => ?_, k.rt⟩
    · obtain ⟨m', lt, j⟩ := q
      exact ⟨m', lt, W', ρ', (l1.trans u2.le).trans l, I', j⟩
    · obtain ⟨m', lt, j⟩ := q
      exact ⟨m', lt, W', ρ', (l1.trans u2.le).trans l, I', j⟩
  | false =>
    replace h2 := h2.2 rfl; rw [if_neg Bool.false_ne_true]
    exact k.nx W2 H2 σ1 ρ2 (l1.trans u2.le) I2 h2⟩
end

def gNm (i : Nat) : DTG := fun r ρ P => P (store i r ρ)
theorem sg_name (i : Nat) : SG mg (gName i) (gNm i) := fun W0 H0 Hs W H σ ρ v r P Q I h hd g k => by
  obtain ⟨W1, I1, l1⟩ := I.put i h hd
  exact k W1 H (σ.set i (some v)) _ l1 I1 g
theorem dg_name {i : Nat} {x : Str} {pos : Pos} (hN : X.N.Nodup) (hi : X.N[i]? = some x) (hx : Loc X.env.scope x) (hf : X.fn x = true ∨ X.env.scope.names.lookup x = some .local := by first | exact .inl rfl | exact .inr rfl | assumption) : DG X (.Name x pos) (gName i) (gNm i) := ⟨pg_name hN hi hx hf, sg_name i⟩
abbrev DTGs := List D → Rh → (Rh → Prop) → Prop
def SGs (mg : Gm) (g' : TGs) (g : DTGs) : Prop := ∀ W0 H0 W H σ ρ vs ds P Q, EnvOk mg W0 H0 W H σ ρ → RelL mg W vs ds → g ds ρ P → (∀ W' H' σ' ρ', Wle W W' → EnvOk mg W0 H0 W' H' σ' ρ' → P ρ' → Q σ' H') → g' vs σ H Q
structure DGs (X : Cx) (es : List Expr) (g' : TGs) (g : DTGs) : Prop where
  p : PGs X es g'
  s : SGs (gm X) g' g
def gNi : DTGs := fun ds ρ P => ds = [] ∧ P ρ
def gCo (t : DTG) (u : DTGs) : DTGs := fun ds ρ P => match ds with
  | d :: r => t (.im d) ρ fun ρ1 => u r ρ1 P
  | [] => False
theorem dgs_nil : DGs X [] gNil gNi := ⟨pgs_nil, fun W0 H0 W H σ ρ vs ds P Q I h g k => by
  obtain ⟨e, g⟩ := g
  subst e
  cases h
  exact ⟨rfl, k W H σ ρ (Wle.refl _) I g⟩⟩
theorem dgs_cons {e : Expr} {es : List Expr} {t' : TG} {t : DTG} {u' : TGs} {u : DTGs} (h1 : DG X e t' t) (h2 : DGs X es u' u) (hs : (assignEach (e :: es) X.env).map (·.2) = assign e X.env :: (assignEach es X.env).map (·.2) := by rfl) : DGs X (e :: es) (gCons t' u') (gCo t u) := ⟨pgs_cons h1.p h2.p hs, fun W0 H0 W H σ ρ vs ds P Q I h g k => by
  cases h with
  | nil => exact g.elim
  | cons a b =>
    refine ⟨_, _, rfl, ?_⟩
    exact h1.s W0 H0 H0 W H σ ρ _ (.im _) _ _ I a (fun _ q => q) g fun W1 H1 σ1 ρ1 l1 I1 g1 => h2.s W0 H0 W1 H1 σ1 ρ1 _ _ _ _ I1 (b.mono l1) g1 fun W2 H2 σ2 ρ2 l2 I2 g2 => k W2 H2 σ2 ρ2 (l1.trans l2) I2 g2⟩
def gTu (n : Nat) (t : DTGs) : DTG := fun r ρ P => match r with
  | .im (.tup ds) => ds.length = n ∧ t ds ρ P
  | _ => False
theorem dg_tup {es : List Expr} {k : Nat} {t' : TGs} {t : DTGs} {n : Nat} {pos : Pos} (hc : X.calm = true) (h : DGs X es t' t) (hn : (assignEach es X.env).length = n := by rfl) (hst : (assignEach es X.env).findIdx? (·.1) = none := by rfl) : DG X (.Tuple es k pos) (gTup X.K n t') (gTu n t) := ⟨pg_tup hc h.p hn hst, fun W0 H0 Hs W H σ ρ v r P Q I hr hd g k => by
  unfold gTu at g
  split at g
  · rename_i ds
    obtain ⟨a, vs, rfl, h1, h2, r1⟩ := RelH.tup (.inl hr) I.wok
    exact ⟨a, vs, rfl, SqT.of h1, by rw [r1.length]; exact g.1, h.s W0 H0 W H σ ρ vs ds P Q I r1 g.2 k⟩
  · exact g.elim⟩
section
variable {e : Expr} {te' : TE} {te : DTE} {pos pos' : Pos}
def dAsg (te : DTE) (g : DTG) : DTS := fun nx _ _ _ ρ => te ρ fun r ρ1 => g r ρ1 nx
theorem ss_asg {g' : TG} {g : DTG} (he : SE mg te' te) (hg : SG mg g' g) : SS mg (tAsg te' g') (dAsg te g) := fun W0 H0 W H σ ρ P E I h k =>
  he W0 H0 W H σ ρ _ _ I h fun W1 H1 v r ρ1 I1 u1 R1 h1 => hg W0 H0 H W1 H1 σ ρ1 v r _ _ I1 R1 (fun a q => I.ext.dom a q) h1 fun W2 H2 σ2 ρ2 l2 I2 g2 => k.nx W2 H2 σ2 ρ2 (u1.le.trans l2) I2 g2
theorem ds_asg {tg : Expr} {g' : TG} {g : DTG} (he : DE X e te' te) (hg : DG X tg g' g) (hs : swapsWithSole [tg] e pos.line X.env = pure false := by rfl) (hw : swappedStores [tg] e X.env = pure none := by rfl) (h1 : (assignEach [tg] X.env).map (·.2) = [assign tg X.env] := by rfl) : DS X (.Assign [tg] e pos) (tAsg te' g') (dAsg te g) := ⟨ps_asg he.p hg.p hs hw h1, ss_asg he.s hg.s⟩
theorem ds_set {i : Nat} {x : Str} (hN : X.N.Nodup) (hi : X.N[i]? = some x) (hx : Loc X.env.scope x) (he : DE X e te' te) (hs : swapsWith e (some (.Name x pos')) pos.line X.env = pure false := by rfl) (hf : X.fn x = true ∨ X.env.scope.names.lookup x = some .local := by first | exact .inl rfl | exact .inr rfl | assumption) :
    DS X (.Assign [.Name x pos'] e pos) (tAsg te' (gName i)) (dAsg te (gNm i)) := ⟨ps_set hN hi hx he.p hs hf, ss_asg he.s (sg_name i)⟩
def R.soft : R → R
  | .al _ xs => .im (.lst xs)
  | r => r
theorem RR.stp {W0 W1 W2 : Wd} {H0 Hs H1 H2 : Hp} {σ : L2.St} {ρ1 ρ2 : Rh} {r : R} (h : RR mg Hs W1 H1 σ ρ1 v r.soft) (u : Stp σ ρ1 W1 H1 ρ2 W2 H2) : RR mg Hs W2 H2 σ ρ2 v r.soft := by
  cases r with
  | im d => exact Rel.mono u.le h
  | al i xs => exact Rel.mono u.le h
  | fr xs =>
    obtain ⟨a, vs, g1, g2, g3, g4, g5, g6, g7⟩ := h
    refine ⟨a, vs, g1, u.keep a _ g2 g4, ?_, u.notP g2 g4, g5, g6.mono u.le, fun i ys q => g7 i ys (u.lat i ys q)⟩
    cases q : W2.F a with
    | none => rfl
    | some o =>
      rcases u.new a o q g3 with e | ⟨i, ys, e1, e2⟩
      · rw [e] at g2; cases g2
      · exact absurd e2 (g7 i ys e1)
theorem Stp.soft {W0 W W1 : Wd} {H0 H H1 : Hp} {σ : L2.St} {ρ ρ1 : Rh} {r : R} (u : Stp σ ρ W H ρ1 W1 H1) (I : EnvOk mg W0 H0 W H σ ρ) (I1 : EnvOk mg W0 H0 W1 H1 σ ρ1) (h : RR mg H W1 H1 σ ρ1 v r) : ∃ W2, EnvOk mg W0 H0 W2 H1 σ (frz r ρ1) ∧ Stp σ ρ W H (frz r ρ1) W2 H1 ∧ RR mg H W2 H1 σ (frz r ρ1) v r.soft := by
  cases r with
  | im d => exact ⟨W1, I1, u, h⟩
  | fr xs => exact ⟨W1, I1, u, h⟩
  | al i xs =>
    obtain ⟨W2, I2, u2, hr⟩ := u.settle I I1 h
    exact ⟨W2, I2, u2, hr⟩
def dPar (i j : Nat) (ta tb : DTE) : DTS := fun nx _ _ _ ρ => ta ρ fun r ρ1 => tb (frz r ρ1) fun s ρ2 => nx (store j s.soft (store i r.soft (frz s ρ2)))
theorem EnvOk.put_soft {W0 W : Wd} {H0 Hs H : Hp} {σ : L2.St} {ρ : Rh} {r : R} (I : EnvOk mg W0 H0 W H σ ρ) (i : Nat) (h : RR mg Hs W H σ ρ v r.soft) (hd : ∀ a, Hs a = none → H0 a = none) : EnvOk mg W0 H0 W H (σ.set i (some v)) (store i r.soft ρ) := by
  cases r with
  | im d => exact I.put_im i h
  | al j xs => exact I.put_im i h
  | fr xs => exact I.put_fr i h hd
theorem fr_apart {W1 W2 : Wd} {H Hs H1 : Hp} {σ : L2.St} {ρ1 ρ2 : Rh} {r s : R} {w : V} (h : RR mg H W1 Hs σ ρ1 v r.soft) (g : RR mg Hs W2 H1 σ ρ2 w s.soft) : ∀ xs, r.soft = .fr xs → ∀ zs, s.soft = .fr zs → ∀ a, v = .ref a → w ≠ .ref a := fun xs e zs e2 a ev ew => by
  rw [e] at h
  rw [e2] at g
  obtain ⟨b, vs, h1, h2, _⟩ := h
  obtain ⟨c, us, g1, g2, g3, g4, g5, _⟩ := g
  rw [ev] at h1
  rw [ew] at g1
  cases h1
  cases g1
  rw [g5] at h2; cases h2
theorem put2 {W0 W1 W2 : Wd} {H0 Hs H H1 : Hp} {σ : L2.St} {ρ ρ1 : Rh} {r s : R} {w : V} (i : Nat) (h : RR mg H W2 H1 σ ρ1 v r.soft) (g : RR mg Hs W2 H1 σ ρ1 w s.soft) (ap : ∀ xs, r.soft = .fr xs → ∀ zs, s.soft = .fr zs → ∀ a, v = .ref a → w ≠ .ref a) : RR mg Hs W2 H1 (σ.set i (some v)) (store i r.soft ρ1) w s.soft := by
  cases s with
  | im d =>
    cases r <;> exact g
  | al j xs =>
    cases r <;> exact g
  | fr zs =>
    obtain ⟨a, vs, g1, g2, g3, g4, g5, g6, g7⟩ := g
    refine ⟨a, vs, g1, g2, g3, g4, g5, g6, fun l ys q z => ?_⟩
    have key : ∀ d : Sl, store i r.soft ρ1 = ρ1.set i (some d) → (∀ xs, d = .ow xs → r.soft = .fr xs) → False := fun d e hd => by
      rw [e] at q
      rcases get_set q with ⟨e3, e2, hl⟩ | ⟨e3, q⟩
      · cases e2
        subst e3
        by_cases hh : i < σ.length
        · rw [List.getElem?_set_self hh] at z
          cases z
          exact ap _ (hd _ rfl) zs rfl a rfl g1
        · rw [List.getElem?_eq_none (by rw [List.length_set]; omega)] at z
          cases z
      · rw [List.getElem?_set_ne e3] at z; exact g7 l ys q z
    cases r with
    | im d => exact key (.im d) rfl fun _ e => nomatch e
    | al j xs => exact key (.im (.lst xs)) rfl fun _ e => nomatch e
    | fr xs => exact key (.ow xs) rfl fun _ e => by cases e; rfl
theorem ss_par {i j : Nat} {ta' tb' : TE} {ta tb : DTE} (ha : SE mg ta' ta) (hb : SE mg tb' tb) : SS mg (tPar i j (tCons ta' (tCons tb' tNil))) (dPar i j ta tb) := fun W0 H0 W H σ ρ P E I h k =>
  ha W0 H0 W H σ ρ _ _ I h fun W1 H1 v r ρ1 I1 u1 R1 h1 => by
    obtain ⟨W2, I2, u2, r2⟩ := u1.soft I I1 R1
    refine hb W0 H0 W2 H1 σ _ _ _ I2 h1 fun W3 H3 w s ρ3 I3 u3 R3 h3 => ?_
    refine ⟨v, w, rfl, ?_⟩
    obtain ⟨W4, I4, u4, r4⟩ := u3.soft I2 I3 R3
    have r5 := r2.stp (W0 := W0) (H0 := H0) u4
    have I5 := I4.put_soft i r5 (fun a q => I.ext.dom a q)
    have r6 := put2 (W0 := W0) (W1 := W1) (H0 := H0) (ρ := ρ) i r5 r4 (fr_apart r2 r4)
    exact k.nx W4 H3 _ _ (u2.le.trans u4.le) (I5.put_soft j r6 fun a q => I2.ext.dom a q) h3
theorem ds_par {i j : Nat} {x y : Str} {a b : Expr} {ta' tb' : TE} {ta tb : DTE} {px py pt pos : Pos} {kt k2 pt2} (hc : X.calm = true) (hN : X.N.Nodup) (hi : X.N[i]? = some x) (hj : X.N[j]? = some y) (hij : i ≠ j)
    (hx : X.env.scope.names.lookup x = some .local) (hy : X.env.scope.names.lookup y = some .local) (ha : DE X a ta' ta) (hb : DE X b tb' tb)
    (hw : swappedStores [.Tuple [.Name x px, .Name y py] kt pt] (.Tuple [a, b] k2 pt2) X.env = pure (some [x, y]))
    (hs : swapsWithSole [.Tuple [.Name x px, .Name y py] kt pt] (.Tuple [a, b] k2 pt2) pos.line X.env = pure false := by rfl)
    (h1 : starEach [a, b] X.env = (false, eval a X.env) :: starEach [b] X.env := by rfl) (h2 : starEach [b] X.env = (false, eval b X.env) :: starEach [] X.env := by rfl) :
    DS X (.Assign [.Tuple [.Name x px, .Name y py] kt pt] (.Tuple [a, b] k2 pt2) pos) (tPar i j (tCons ta' (tCons tb' tNil))) (dPar i j ta tb) :=
  ⟨ps_par hc hN hi hj hij hx hy (pa_cons ha.p (pa_cons hb.p pa_nil h2) h1) hw hs, ss_par ha.s hb.s⟩
end
end
end DL
namespace DL
open PySem PySem.Spec PyProof.Rows L2
section
variable {X : Cx} {mg : Gm} {W W' : Wd} {H H' : Hp} {v x y : V}

def dLoop (g : DTG) (tb : DTS) (nx : Rh → Prop) (rt : R → Prop) (ds : List D) (ρ : Rh) : Prop := ∃ I : Nat → Rh → Prop, I 0 ρ ∧
  (∀ i d ρ, ds[i]? = some d → I i ρ → g (.im d) ρ fun ρ1 => tb (I (i + 1)) rt nx (I (i + 1)) ρ1) ∧ ∀ ρ, I ds.length ρ → nx ρ
def dFor (ti : DTI) (g : DTG) (tb : DTS) : DTS := fun nx rt _ _ ρ => ti ρ fun ds ρ1 => dLoop g tb nx rt ds ρ1
theorem ss_for {wi : TI} {ti : DTI} {g' : TG} {g : DTG} {tb' : TS} {tb : DTS} (hi : SI mg wi ti) (hg : SG mg g' g) (hb : SS mg tb' tb) : SS mg (tFor wi g' tb') (dFor ti g tb) := fun W0 H0 W H σ ρ P E I0 h k =>
  hi W0 H0 W H σ ρ _ _ I0 h fun W1 H1 J ds ρ1 I1 u1 dw h1 => by
    obtain ⟨I, i0, is, ie⟩ := h1
    refine ⟨fun i m σ H => m = ds.length - i ∧ i ≤ ds.length ∧ ∃ W2 ρ2, Wle W1 W2 ∧ EnvOk mg W0 H0 W2 H σ ρ2 ∧ I i ρ2, ⟨ds.length, by simp, Nat.zero_le _, W1, ρ1, Wle.refl _, I1, i0⟩, ?_⟩
    rintro i m σ2 H2 ⟨rfl, hi, W2, ρ2, l2, I2, q2⟩
    obtain ⟨go, stop⟩ := dw W2 H2 I2.wok l2
    by_cases hlt : i < ds.length
    · have hd : ds[i]? = some ds[i] := List.getElem?_eq_getElem hlt
      refine .inr ⟨(go i _ hd).1, fun σ' H' => ∃ W2 ρ2, Wle W1 W2 ∧ EnvOk mg W0 H0 W2 H' σ' ρ2 ∧ I (i + 1) ρ2, fun σ' H' p => ⟨ds.length - (i + 1), by omega, rfl, hlt, p⟩, fun x H' y => ?_⟩
      obtain ⟨W3, w3, e3, r3⟩ := (go i _ hd).2 x H' y
      have I3 := I2.step e3 w3
      refine hg W0 H0 H0 W3 H' σ2 ρ2 x (.im ds[i]) _ _ I3 r3 (fun _ q => q) (is i _ ρ2 hd q2) fun W4 H4 σ4 ρ4 l4 I4 q4 => ?_
      have l : Wle W1 W4 := (l2.trans e3.le).trans l4
      refine hb W0 H0 W4 H4 σ4 ρ4 ⟨I (i + 1), P.rt, P.nx, I (i + 1)⟩ _ I4 q4 ⟨fun W' H' σ' ρ' l' I' q => ?_, fun W' H' σ' ρ' l' I' q => k.nx W' H' σ' ρ' ((u1.le.trans l).trans l') I' q, fun W' H' σ' ρ' l' I' q => ?_, k.rt⟩
      · exact ⟨W', ρ', l.trans l', I', q⟩
      · exact ⟨W', ρ', l.trans l', I', q⟩
    · have e : i = ds.length := by omega
      subst e
      exact .inl ⟨stop, k.nx W2 H2 σ2 ρ2 (u1.le.trans l2) I2 (ie ρ2 q2)⟩
theorem ds_for {iter tg : Expr} {body : List Stmt} {pos : Pos} {wi : TI} {ti : DTI} {g' : TG} {g : DTG} {tb' : TS} {tb : DTS} (hp : PassesOwn (model X.prog X.w) X.A X.env X.xe) (hc : X.calm = true) (hi : DI X tg iter wi ti) (hg : DG X tg g' g) (hb : DSs X body tb' tb) (hs : ∀ x, foldedSetIterable iter X.env x = pure x := by intro _; rfl) :
    DS X (.For tg iter body [] pos) (tFor wi g' tb') (dFor ti g tb) := ⟨ps_for hp hc hi.p hg.p hb.p hs, ss_for hi.s hg.s hb.s⟩

theorem dw_list {K : PySem.W.Frag} {a : Addr} {vs : List V} {ds : List D} (h : W.F a = some (.lst vs)) (r : RelL mg W vs ds) : DWalk mg W (Itl K a) ds := fun W1 H1 w l => by
  have q : SqL K H1 a vs := SqL.of (w.sub _ _ (l.mono _ _ h))
  refine ⟨fun i d e => ?_, vs, q, by rw [r.length]; exact Nat.le_refl _⟩
  obtain ⟨v, hv, hr⟩ := r.get e
  refine ⟨⟨vs, v, q, hv⟩, fun x H2 y => ?_⟩
  obtain ⟨rfl, y⟩ := y
  have e2 := (y vs q).symm.trans hv
  cases e2
  exact ⟨W1, w, Ext.refl _ _, hr.mono l⟩
theorem dw_tup {K : PySem.W.Frag} {a : Addr} {vs : List V} {ds : List D} (h : W.F a = some (.tup vs)) (r : RelL mg W vs ds) : DWalk mg W (Itt K a) ds := fun W1 H1 w l => by
  have q : SqT K H1 a vs := SqT.of (w.sub _ _ (l.mono _ _ h))
  refine ⟨fun i d e => ?_, vs, q, by rw [r.length]; exact Nat.le_refl _⟩
  obtain ⟨v, hv, hr⟩ := r.get e
  refine ⟨⟨vs, v, q, hv⟩, fun x H2 y => ?_⟩
  obtain ⟨rfl, y⟩ := y
  have e2 := (y vs q).symm.trans hv
  cases e2
  exact ⟨W1, w, Ext.refl _ _, hr.mono l⟩
def iSeq (K : PySem.W.Frag) (tl : TE) : TI := fun σ H R => tl σ H fun x H1 => (∃ a, x = .ref a ∧ (∃ xs, SqL K H1 a xs) ∧ R (Itl K a) H1) ∨ ∃ a, x = .ref a ∧ (∃ xs, SqT K H1 a xs) ∧ R (Itt K a) H1
theorem pi_seq {tg l : Expr} {tl : TE} (hl : PE X l tl) : PI X tg l (iSeq X.K tl) := by
  refine ⟨fun pins s σ H R I h => ?_⟩
  refine thn (hl.run pins s σ H _ I h) fun v s1 ⟨x, H1, I1, r1, q1⟩ => ?_
  rcases q1 with ⟨a, e, ⟨xs, hq⟩, q⟩ | ⟨a, e, ⟨xs, hq⟩, q⟩
  · subst e
    cases r1
    obtain ⟨its, rv, p, hz⟩ := I1.list hq
    refine wpAny_pyIter_list p.isList ?_
    refine ⟨s1.heap.objs.size, [s1.heap.objs.size], _, _, H1, rfl, I1.kept (t' := s1.toks) fun b o e => Heap.get?_push_of_some _ e, turn_list a _, ⟨_, Heap.get?_push_size _ rfl, rfl, rfl⟩, fun b hb => ?_, q⟩
    have e : b = s1.heap.objs.size := by simpa using hb
    subst e
    exact I1.fpOk (Nat.le_refl _) (I1.hok.fresh (Nat.le_refl _))
  · subst e
    cases r1
    obtain ⟨its, rv, p, hz⟩ := I1.tuple hq
    refine wpAny_pyIter_tuple (show s1.heap.IsTuple a its.toArray from p) ?_
    refine ⟨s1.heap.objs.size, [s1.heap.objs.size], _, _, H1, rfl, I1.kept (t' := s1.toks) fun b o e => Heap.get?_push_of_some _ e, turn_tuple a _, ⟨_, Heap.get?_push_size _ rfl, rfl, rfl⟩, fun b hb => ?_, q⟩
    have e : b = s1.heap.objs.size := by simpa using hb
    subst e
    exact I1.fpOk (Nat.le_refl _) (I1.hok.fresh (Nat.le_refl _))
def dSeqI (te : DTE) : DTI := fun ρ P => te ρ fun r ρ1 => match r.d with
  | .lst xs => P xs (frz r ρ1)
  | .tup xs => P xs (frz r ρ1)
  | _ => False
theorem si_seq {K : PySem.W.Frag} {te' : TE} {te : DTE} (h : SE mg te' te) : SI mg (iSeq K te') (dSeqI te) := fun W0 H0 W H σ ρ P Q I q k =>
  h W0 H0 W H σ ρ _ _ I q fun W1 H1 v r ρ1 I1 u1 R1 h1 => by
    obtain ⟨W2, I2, u2, r2⟩ := u1.settle I I1 R1
    split at h1
    · rename_i xs e
      rw [e] at r2
      cases r2 with
      | lst a b => exact .inl ⟨_, rfl, ⟨_, SqL.of (I2.wok.sub _ _ a)⟩, k W2 H1 _ xs _ I2 u2 (dw_list a b) h1⟩
    · rename_i xs e
      rw [e] at r2
      cases r2 with
      | tup a b => exact .inr ⟨_, rfl, ⟨_, SqT.of (I2.wok.sub _ _ a)⟩, k W2 H1 _ xs _ I2 u2 (dw_tup a b) h1⟩
    · exact h1.elim
theorem di_seq {tg e : Expr} {te' : TE} {te : DTE} (he : DE X e te' te) {K : PySem.W.Frag} (hK : X.K = K := by rfl) : DI X tg e (iSeq K te') (dSeqI te) := by subst hK; exact ⟨pi_seq he.p, si_seq he.s⟩
def rngD (lo : Int) (n : Nat) : List D := (List.range n).map fun (i : Nat) => D.int (lo + (i : Int))
theorem rngD_get {lo : Int} {n i : Nat} {d : D} (h : (rngD lo n)[i]? = some d) : i < n ∧ d = .int (lo + (i : Int)) := by
  unfold rngD at h
  rw [List.getElem?_map] at h
  cases e : (List.range n)[i]? with
  | none => rw [e] at h; cases h
  | some j =>
    rw [e] at h
    obtain ⟨h1, h2⟩ := List.getElem?_eq_some_iff.mp e
    rw [List.getElem_range] at h2
    subst h2
    rw [List.length_range] at h1
    cases h
    exact ⟨h1, rfl⟩
theorem rngD_len (lo : Int) (n : Nat) : (rngD lo n).length = n := by unfold rngD; rw [List.length_map, List.length_range]
theorem dw_range {lo : Int} {n : Nat} : DWalk mg W (Itr lo n) (rngD lo n) := fun W1 H1 w l => by
  refine ⟨fun i d e => ?_, by rw [rngD_len]; exact Nat.le_refl _⟩
  obtain ⟨h1, rfl⟩ := rngD_get e
  refine ⟨h1, fun x H2 y => ?_⟩
  obtain ⟨rfl, rfl⟩ := y
  exact ⟨W1, w, Ext.refl _ _, .int _⟩
def okR (i : Int) : Prop := -(2 ^ 62) ≤ i ∧ i < 2 ^ 62
def dRng1 (ta : DTA) : DTI := fun ρ P => ta ρ fun ds ρ1 => match ds with
  | [.int j] => okR j ∧ P (rngD 0 j.toNat) ρ1
  | _ => False
def dRng2 (ta : DTA) : DTI := fun ρ P => ta ρ fun ds ρ1 => match ds with
  | [.int i, .int j] => okR i ∧ okR j ∧ P (rngD i (j - i).toNat) ρ1
  | _ => False
theorem si_rng1 {ta' : TA} {ta : DTA} (h : SAh mg ta' ta) : SI mg (iRng1 ta') (dRng1 ta) := fun W0 H0 W H σ ρ P Q I q k =>
  h W0 H0 W H σ ρ _ _ I q fun W1 H1 vs ds ρ1 I1 u1 R1 h1 => by
    split at h1
    · obtain ⟨v, rfl, a⟩ := R1.one
      exact ⟨_, by rw [a.int], h1.1.1, h1.1.2, k W1 H1 _ _ ρ1 I1 u1 dw_range h1.2⟩
    · exact h1.elim
theorem si_rng2 {ta' : TA} {ta : DTA} (h : SAh mg ta' ta) : SI mg (iRng2 ta') (dRng2 ta) := fun W0 H0 W H σ ρ P Q I q k =>
  h W0 H0 W H σ ρ _ _ I q fun W1 H1 vs ds ρ1 I1 u1 R1 h1 => by
    split at h1
    · obtain ⟨v, u, rfl, a, b⟩ := R1.two
      exact ⟨_, _, by rw [a.int, b.int], ⟨h1.1.1, h1.1.2, h1.2.1.1, h1.2.1.2⟩, k W1 H1 _ _ ρ1 I1 u1 dw_range h1.2.2⟩
    · exact h1.elim
theorem di_rng1 {tg a : Expr} {ta' : TA} {ta : DTA} {p pos : Pos} (hg : Gl X "range") (hm : X.mg "range" = none) (ha : DAh X [a] ta' ta) (hs : starEach [a] X.env = [(false, eval a X.env)] := by rfl) : DI X tg (.Call (.Name "range" p) [a] [] pos) (iRng1 ta') (dRng1 ta) := ⟨pi_range1 hg hm ha.p hs, si_rng1 ha.s⟩
theorem di_rng2 {tg a b : Expr} {ta' : TA} {ta : DTA} {p pos : Pos} (hg : Gl X "range") (hm : X.mg "range" = none) (ha : DAh X [a, b] ta' ta) (hs : starEach [a, b] X.env = [(false, eval a X.env), (false, eval b X.env)] := by rfl) (hs2 : starEach [b] X.env = [(false, eval b X.env)] := by rfl) : DI X tg (.Call (.Name "range" p) [a, b] [] pos) (iRng2 ta') (dRng2 ta) := ⟨pi_range2 hg hm ha.p hs hs2, si_rng2 ha.s⟩

def wipeR (ρ : Rh) : List Nat → Rh
  | [] => ρ
  | v :: vs => (wipeR ρ vs).set v none
def noOwn (ρ : Rh) (vs : List Nat) : Bool := vs.all fun i => match ρ[i]? with
  | some (some (.ow _)) => false
  | _ => true
theorem wipeR_len (ρ : Rh) : ∀ vs : List Nat, (wipeR ρ vs).length = ρ.length
  | [] => rfl
  | v :: vs => by unfold wipeR; rw [List.length_set, wipeR_len ρ vs]
theorem wipeR_some {ρ : Rh} {i : Nat} {s : Sl} : ∀ {vs : List Nat}, (wipeR ρ vs)[i]? = some (some s) → ρ[i]? = some (some s) ∧ i ∉ vs
  | [], h => ⟨h, by simp⟩
  | v :: vs, h => by
    unfold wipeR at h
    rcases get_set h with ⟨_, e, _⟩ | ⟨e, h⟩
    · cases e
    · obtain ⟨h1, h2⟩ := wipeR_some h
      exact ⟨h1, by simp only [List.mem_cons, not_or]; exact ⟨fun z => e z.symm, h2⟩⟩
theorem wipeR_not {ρ : Rh} {i : Nat} : ∀ {vs : List Nat}, i ∉ vs → (wipeR ρ vs)[i]? = ρ[i]?
  | [], _ => rfl
  | v :: vs, h => by
    simp only [List.mem_cons, not_or] at h
    unfold wipeR
    rw [List.getElem?_set_ne (fun e => h.1 e.symm)]
    exact wipeR_not h.2
theorem wipe_not {σ : L2.St} {i : Nat} : ∀ {vs : List Nat}, i ∉ vs → (wipe σ vs)[i]? = σ[i]?
  | [], _ => rfl
  | v :: vs, h => by
    simp only [List.mem_cons, not_or] at h
    unfold wipe
    rw [List.getElem?_set_ne (fun e => h.1 e.symm)]
    exact wipe_not h.2
theorem EnvOk.wiped {W0 : Wd} {H0 : Hp} {σ : L2.St} {ρ : Rh} (I : EnvOk mg W0 H0 W H σ ρ) (vs : List Nat) : EnvOk mg W0 H0 W H (wipe σ vs) (wipeR ρ vs) where
  wok := I.wok
  ext := I.ext
  len := by rw [wipe_length, wipeR_len]; exact I.len
  im := fun i d q => by
    obtain ⟨h1, h2⟩ := wipeR_some q
    rw [wipe_not h2]
    exact I.im i d h1
  ow := fun i xs q => by
    obtain ⟨h1, h2⟩ := wipeR_some q
    rw [wipe_not h2]
    exact I.ow i xs h1
  sep := fun i j xs ys a hi hj h1 h2 => by
    obtain ⟨g1, g2⟩ := wipeR_some hi
    obtain ⟨k1, k2⟩ := wipeR_some hj
    rw [wipe_not g2] at h1
    rw [wipe_not k2] at h2
    exact I.sep i j xs ys a g1 k1 h1 h2
theorem EnvOk.unwiped {W0 : Wd} {H0 : Hp} {σ : L2.St} {ρ : Rh} {vs : List Nat} (I0 : EnvOk mg W0 H0 W H σ ρ) (n : noOwn ρ vs = true) (I : EnvOk mg W0 H0 W' H' (wipe σ vs) (wipeR ρ vs)) (l : Wle W W') : EnvOk mg W0 H0 W' H' σ ρ where
  wok := I.wok
  ext := I.ext
  len := I0.len
  im := fun i d q => let ⟨v, h1, h2⟩ := I0.im i d q; ⟨v, h1, h2.mono l⟩
  ow := fun i xs q => by
    have hn : i ∉ vs := fun hm => by
      have := List.all_eq_true.mp n i hm
      rw [q] at this
      cases this
    obtain ⟨a, us, h1, h2⟩ := I.ow i xs (by rw [wipeR_not hn]; exact q)
    rw [wipe_not hn] at h1
    exact ⟨a, us, h1, h2⟩
  sep := I0.sep
def dLcL (g : DTG) (tt : DTT) (te : DTE) (ρw : Rh) : List D → List D → (List D → Prop) → Prop
  | [], acc, P => P acc
  | d :: ds, acc, P => g (.im d) ρw fun ρ2 => tt ρ2 fun b ρ3 => sw b (te ρ3 fun r ρ4 => frz r ρ4 = ρ2 ∧ acc.length < sizeLine ∧ dLcL g tt te ρw ds (acc ++ [r.d]) P) (ρ3 = ρ2 ∧ dLcL g tt te ρw ds acc P)
def dLc (ti : DTI) (g : DTG) (tt : DTT) (te : DTE) (vs : List Nat) : DTE := fun ρ P => ti ρ fun ds ρ1 => noOwn ρ1 vs = true ∧ dLcL g tt te (wipeR ρ1 vs) ds [] fun zs => P (.fr zs) ρ1

theorem wipe_get {σ : L2.St} {i : Nat} : ∀ {vs : List Nat}, (wipe σ vs)[i]? = if i ∈ vs then σ[i]?.map (fun _ => none) else σ[i]?
  | [] => by simp [wipe]
  | v :: vs => by
    unfold wipe
    by_cases e : v = i
    · subst e
      rw [if_pos (List.mem_cons_self ..)]
      by_cases hl : v < (wipe σ vs).length
      · rw [List.getElem?_set_self hl]
        rw [wipe_length] at hl
        rw [List.getElem?_eq_getElem hl]; rfl
      · rw [List.getElem?_eq_none (by rw [List.length_set]; omega)]
        rw [wipe_length] at hl
        rw [List.getElem?_eq_none (by omega)]; rfl
    · rw [List.getElem?_set_ne e, wipe_get (vs := vs)]
      by_cases m : i ∈ vs
      · rw [if_pos m, if_pos (List.mem_cons_of_mem _ m)]
      · rw [if_neg m, if_neg]
        simp only [List.mem_cons, not_or]
        exact ⟨fun z => e z.symm, m⟩
theorem wipeR_get {σ : Rh} {i : Nat} : ∀ {vs : List Nat}, (wipeR σ vs)[i]? = if i ∈ vs then σ[i]?.map (fun _ => none) else σ[i]?
  | [] => by simp [wipeR]
  | v :: vs => by
    unfold wipeR
    by_cases e : v = i
    · subst e
      rw [if_pos (List.mem_cons_self ..)]
      by_cases hl : v < (wipeR σ vs).length
      · rw [List.getElem?_set_self hl]
        rw [wipeR_len] at hl
        rw [List.getElem?_eq_getElem hl]; rfl
      · rw [List.getElem?_eq_none (by rw [List.length_set]; omega)]
        rw [wipeR_len] at hl
        rw [List.getElem?_eq_none (by omega)]; rfl
    · rw [List.getElem?_set_ne e, wipeR_get (vs := vs)]
      by_cases m : i ∈ vs
      · rw [if_pos m, if_pos (List.mem_cons_of_mem _ m)]
      · rw [if_neg m, if_neg]
        simp only [List.mem_cons, not_or]
        exact ⟨fun z => e z.symm, m⟩
theorem wipe_set {σ : L2.St} {j : Nat} {x : Option V} {vs : List Nat} (h : j ∈ vs) : wipe (σ.set j x) vs = wipe σ vs := by
  apply List.ext_getElem?
  intro i
  rw [wipe_get, wipe_get]
  by_cases m : i ∈ vs
  · rw [if_pos m, if_pos m]
    by_cases e : j = i
    · subst e
      by_cases hl : j < σ.length
      · rw [List.getElem?_set_self hl, List.getElem?_eq_getElem hl]; rfl
      · rw [List.getElem?_eq_none (by rw [List.length_set]; omega), List.getElem?_eq_none (by omega)]
    · rw [List.getElem?_set_ne e]
  · rw [if_neg m, if_neg m, List.getElem?_set_ne (fun e => m (by rw [← e]; exact h))]
theorem wipeR_set {σ : Rh} {j : Nat} {x : Option Sl} {vs : List Nat} (h : j ∈ vs) : wipeR (σ.set j x) vs = wipeR σ vs := by
  apply List.ext_getElem?
  intro i
  rw [wipeR_get, wipeR_get]
  by_cases m : i ∈ vs
  · rw [if_pos m, if_pos m]
    by_cases e : j = i
    · subst e
      by_cases hl : j < σ.length
      · rw [List.getElem?_set_self hl, List.getElem?_eq_getElem hl]; rfl
      · rw [List.getElem?_eq_none (by rw [List.length_set]; omega), List.getElem?_eq_none (by omega)]
    · rw [List.getElem?_set_ne e]
  · rw [if_neg m, if_neg m, List.getElem?_set_ne (fun e => m (by rw [← e]; exact h))]
theorem wipe_wipe {σ : L2.St} {vs : List Nat} : wipe (wipe σ vs) vs = wipe σ vs := by
  apply List.ext_getElem?
  intro i
  rw [wipe_get, wipe_get]
  by_cases m : i ∈ vs
  · rw [if_pos m, if_pos m]; cases σ[i]? <;> rfl
  · rw [if_neg m, if_neg m]
theorem wipeR_wipeR {σ : Rh} {vs : List Nat} : wipeR (wipeR σ vs) vs = wipeR σ vs := by
  apply List.ext_getElem?
  intro i
  rw [wipeR_get, wipeR_get]
  by_cases m : i ∈ vs
  · rw [if_pos m, if_pos m]; cases σ[i]? <;> rfl
  · rw [if_neg m, if_neg m]

theorem noOwn_wiped {ρ : Rh} {vs : List Nat} : noOwn (wipeR ρ vs) vs = true := List.all_eq_true.mpr fun i hi => by
  rw [wipeR_get, if_pos hi]
  cases ρ[i]? <;> rfl
theorem noOwn_set {ρ : Rh} {vs : List Nat} {i : Nat} {d : D} (h : noOwn ρ vs = true) : noOwn (ρ.set i (some (.im d))) vs = true := List.all_eq_true.mpr fun j hj => by
  have q := List.all_eq_true.mp h j hj
  by_cases e : i = j
  · subst e
    by_cases hl : i < ρ.length
    · rw [List.getElem?_set_self hl]
    · rw [List.getElem?_eq_none (by rw [List.length_set]; omega)]
  · rw [List.getElem?_set_ne e]; exact q
def GC (mg : Gm) (g' : TG) (g : DTG) (vs : List Nat) : Prop := ∀ W0 H0 W H σ ρ v d P Q, EnvOk mg W0 H0 W H σ ρ → noOwn ρ vs = true → Rel mg W v d → g (.im d) ρ P → (∀ σ2 ρ2, EnvOk mg W0 H0 W H σ2 ρ2 → noOwn ρ2 vs = true → wipe σ2 vs = wipe σ vs → wipeR ρ2 vs = wipeR ρ vs → P ρ2 → Q σ2 H) → g' v σ H Q
theorem gc_name {i : Nat} {vs : List Nat} (h : i ∈ vs) : GC mg (gName i) (gNm i) vs := fun W0 H0 W H σ ρ v d P Q I n r g k =>
  k _ _ (I.put_im i r) (noOwn_set n) (wipe_set h) (wipeR_set h) g
theorem pgk_tup {es : List Expr} {k : Nat} {t : TGs} {n : Nat} {pos : Pos} (hc : X.calm = true) (h : PGs X es t) (hn : (assignEach es X.env).length = n := by rfl) (hst : (assignEach es X.env).findIdx? (·.1) = none := by rfl) {K : PySem.W.Frag} (hK : X.K = K := by rfl) : PG X (.Tuple es k pos) (gTup K n t) := by subst hK; exact pg_tup hc h hn hst
def GCs (mg : Gm) (g' : TGs) (g : DTGs) (vs : List Nat) : Prop := ∀ W0 H0 W H σ ρ us ds P Q, EnvOk mg W0 H0 W H σ ρ → noOwn ρ vs = true → RelL mg W us ds → g ds ρ P → (∀ σ2 ρ2, EnvOk mg W0 H0 W H σ2 ρ2 → noOwn ρ2 vs = true → wipe σ2 vs = wipe σ vs → wipeR ρ2 vs = wipeR ρ vs → P ρ2 → Q σ2 H) → g' us σ H Q
theorem gcs_nil {vs : List Nat} : GCs mg gNil gNi vs := fun W0 H0 W H σ ρ us ds P Q I n r g k => by
  obtain ⟨e, g⟩ := g
  subst e
  cases r
  exact ⟨rfl, k σ ρ I n rfl rfl g⟩
theorem gcs_cons {vs : List Nat} {t' : TG} {t : DTG} {u' : TGs} {u : DTGs} (h1 : GC mg t' t vs) (h2 : GCs mg u' u vs) : GCs mg (gCons t' u') (gCo t u) vs := fun W0 H0 W H σ ρ us ds P Q I n r g k => by
  cases r with
  | nil => exact g.elim
  | cons a b =>
    refine ⟨_, _, rfl, ?_⟩
    exact h1 W0 H0 W H σ ρ _ _ _ _ I n a g fun σ1 ρ1 I1 n1 e1 f1 g1 => h2 W0 H0 W H σ1 ρ1 _ _ _ _ I1 n1 b g1 fun σ2 ρ2 I2 n2 e2 f2 g2 => k σ2 ρ2 I2 n2 (e2.trans e1) (f2.trans f1) g2
theorem gc_tup {K : PySem.W.Frag} {n : Nat} {vs : List Nat} {t' : TGs} {t : DTGs} (h : GCs mg t' t vs) : GC mg (gTup K n t') (gTu n t) vs := fun W0 H0 W H σ ρ v d P Q I no r g k => by
  unfold gTu at g
  split at g
  · rename_i ds e
    cases e
    obtain ⟨a, us, rfl, h1, h2, r1⟩ := RelH.tup (.inl r) I.wok
    exact ⟨a, us, rfl, SqT.of h1, by rw [r1.length]; exact g.1, h W0 H0 W H σ ρ us ds P Q I no r1 g.2 k⟩
  · exact g.elim
def tYesD : DTT := fun ρ P => P true ρ
theorem st_yes : STt mg tYes tYesD := fun W0 H0 W H σ ρ P Q I h k => k W H true ρ I Stp.refl h
theorem dts_nil : DTs X [] tYes tYesD := ⟨pts_nil, st_yes⟩
theorem dts_one {c : Expr} {t' : TT} {t : DTT} (h : DT X c t' t) : DTs X [c] t' t := ⟨pts_one h.p, h.s⟩
theorem Stp.keepF {W1 : Wd} {H1 : Hp} {σ : L2.St} {ρ ρ1 : Rh} {a : Addr} {o : HO} (u : Stp σ ρ W H ρ1 W1 H1) (h : H a = some o) (hf : W.F a = none) (hn : ∀ (i : Nat) (ys : List D), ρ[i]? = some (some (Sl.ow ys)) → σ[i]? ≠ some (some (V.ref a))) : W1.F a = none := by
  cases q : W1.F a with
  | none => rfl
  | some o2 =>
    rcases u.new a o2 q hf with e | ⟨i, ys, e1, e2⟩
    · rw [e] at h; cases h
    · exact absurd e2 (hn i ys e1)
theorem Stp.fresh {W0 W1 : Wd} {H0 H1 : Hp} {σ : L2.St} {ρ : Rh} (u : Stp σ ρ W H ρ W1 H1) (I : EnvOk mg W0 H0 W1 H1 σ ρ) : ∀ a o, W1.F a = some o → W.F a = none → H a = none := fun a o q n => by
  rcases u.new a o q n with e | ⟨i, ys, e1, e2⟩
  · exact e
  · obtain ⟨b, us, p1, p2, p3, _⟩ := I.ow i ys e1
    rw [e2] at p1
    cases p1
    rw [q] at p3; cases p3
theorem EnvOk.poke {W0 : Wd} {H0 : Hp} {σ : L2.St} {ρ : Rh} {a : Addr} (I : EnvOk mg W0 H0 W H σ ρ) (h1 : W.F a = none) (h2 : NotP W a) (h3 : H0 a = none) (hn : ∀ (i : Nat) (ys : List D), ρ[i]? = some (some (Sl.ow ys)) → σ[i]? ≠ some (some (V.ref a))) (o : HO) : EnvOk mg W0 H0 W (upd H a o) σ ρ where
  wok := I.wok.store h1 h2 o
  ext := ⟨⟨I.ext.mono, fun c u q n => by rw [upd_ne (ne_of_none q h3)]; exact I.ext.keep c u q n, fun c q => by
    by_cases e : c = a
    · subst e; exact h3
    · rw [upd_ne e] at q; exact I.ext.dom c q, I.ext.u⟩, I.ext.new⟩
  len := I.len
  im := I.im
  ow := fun i xs q => by
    obtain ⟨b, us, p1, p2, p⟩ := I.ow i xs q
    refine ⟨b, us, p1, ?_, p⟩
    rw [upd_ne (fun e => hn i xs q (by rw [p1, e]))]
    exact p2
  sep := I.sep
theorem se_lc {wi : TI} {ti : DTI} {g' : TG} {g : DTG} {tt' : TT} {tt : DTT} {te' : TE} {te : DTE} {vs : List Nat} (hi : SI mg wi ti) (hg : GC mg g' g vs) (ht : STt mg tt' tt) (he : SE mg te' te) : SE mg (tLc wi g' tt' te' vs) (dLc ti g tt te vs) := fun W0 H0 W H σ ρ P Q I0 h k =>
  hi W0 H0 W H σ ρ _ _ I0 h fun W1 H1 J ds ρ1 I1 u1 dw h1 => by
    intro Dl hDl
    obtain ⟨hno, h1⟩ := h1
    have w1 := I1.wok
    have e1 : Ext W1 H1 W1 (upd H1 Dl (.lst [])) := new_ext w1 hDl _
    have I2 := I1.step e1 (w1.new hDl _)
    have H0D : H0 Dl = none := I1.ext.dom Dl hDl
    -- no slot holds the new list
    have nslot0 : ∀ (j : Nat) (ys : List D), ρ1[j]? = some (some (Sl.ow ys)) → σ[j]? ≠ some (some (V.ref Dl)) := fun j ys z s => by
      obtain ⟨b, ws, p1, p2, _⟩ := I1.ow j ys z
      rw [s] at p1
      cases p1
      rw [hDl] at p2; cases p2
    have nslot : ∀ (j : Nat) (ys : List D), (wipeR ρ1 vs)[j]? = some (some (Sl.ow ys)) → (wipe σ vs)[j]? ≠ some (some (V.ref Dl)) := fun j ys z s => by
      obtain ⟨z1, z2⟩ := wipeR_some z
      rw [wipe_not z2] at s
      exact nslot0 j ys z1 s
    let Inv := fun (i : Nat) (Hc : Hp) => ∃ Wc acc vs', EnvOk mg W0 H0 Wc Hc σ ρ1 ∧ Up W1 H1 Wc Hc ∧ (∀ a o, Wc.F a = some o → W1.F a = none → H1 a = none) ∧ Hc Dl = some (.lst vs') ∧ Wc.F Dl = none ∧ NotP Wc Dl ∧ RelL mg Wc vs' acc ∧ dLcL g tt te (wipeR ρ1 vs) (ds.drop i) acc fun zs => P (.fr zs) ρ1
    refine ⟨fun i m Hc => m = ds.length - i ∧ i ≤ ds.length ∧ Inv i Hc, ⟨ds.length, by simp, Nat.zero_le _, W1, [], [], I2, e1.toUp, fun a o z n => (by rw [n] at z; cases z), upd_same, w1.free hDl, w1.notP_new hDl, .nil, h1⟩, ?_⟩
    rintro i m Hc ⟨rfl, hi, Wc, acc, us, Ic, uc, nc, hD, hF, hP, hr, q⟩
    obtain ⟨go, stop⟩ := dw Wc Hc Ic.wok uc.le
    by_cases hlt : i < ds.length
    · have hd : ds[i]? = some ds[i] := List.getElem?_eq_getElem hlt
      have e : ds.drop i = ds[i] :: ds.drop (i + 1) := List.drop_eq_getElem_cons hlt
      rw [e] at q
      refine .inr ⟨(go i _ hd).1, Inv (i + 1), fun H' p => ⟨ds.length - (i + 1), by omega, rfl, hlt, p⟩, fun x H' y => ?_⟩
      obtain ⟨W3, w3, e3, r3⟩ := (go i _ hd).2 x H' y
      have I3 := Ic.step e3 w3
      have hD3 := e3.keep Dl _ hD hP
      have hP3 := e3.notP hD hP
      have hF3 : W3.F Dl = none := by
        cases z : W3.F Dl with
        | none => rfl
        | some o => rw [e3.new Dl o z hF] at hD; cases hD
      have n3 : ∀ a o, W3.F a = some o → W1.F a = none → H1 a = none := fun a o z n => by
        cases z2 : Wc.F a with
        | some o2 => exact nc a o2 z2 n
        | none => exact uc.dom a (e3.new a o z z2)
      have u3 : Up W1 H1 W3 H' := uc.trans e3.toUp
      refine hg W0 H0 W3 H' _ _ x ds[i] _ _ (I3.wiped vs) noOwn_wiped r3 q fun σ4 ρ4 I4 no4 ew er q4 => ⟨ew.trans wipe_wipe, ?_⟩
      rw [wipe_wipe] at ew
      rw [wipeR_wipeR] at er
      have ns4 : ∀ (j : Nat) (ys : List D), ρ4[j]? = some (some (Sl.ow ys)) → σ4[j]? ≠ some (some (V.ref Dl)) := fun j ys z s => by
        by_cases hj : j ∈ vs
        · have z1 := List.all_eq_true.mp no4 j hj
          rw [z] at z1
          cases z1
        · have z1 : (wipeR ρ4 vs)[j]? = some (some (Sl.ow ys)) := by rw [wipeR_not hj]; exact z
          have s1 : (wipe σ4 vs)[j]? = some (some (V.ref Dl)) := by rw [wipe_not hj]; exact s
          rw [er] at z1
          rw [ew] at s1
          exact nslot j ys z1 s1
      -- what holds behind a turn, the block's slots as they were
      have back : ∀ W7 H7, EnvOk mg W0 H0 W7 H7 σ4 ρ4 → Stp σ4 ρ4 W3 H' ρ4 W7 H7 → EnvOk mg W0 H0 W7 H7 σ ρ1 ∧ Up W1 H1 W7 H7 ∧ (∀ a o, W7.F a = some o → W1.F a = none → H1 a = none) ∧ H7 Dl = some (.lst us) ∧ W7.F Dl = none ∧ NotP W7 Dl ∧ RelL mg W7 us acc := fun W7 H7 I7 u7 => by
        have J7 := I7.wiped vs
        rw [ew, er] at J7
        refine ⟨I3.unwiped hno J7 u7.le, u3.trans u7.toUp, fun a o z n => ?_, u7.keep Dl _ hD3 hP3, u7.keepF hD3 hF3 ns4, u7.notP hD3 hP3, hr.mono (e3.le.trans u7.le)⟩
        cases z2 : W3.F a with
        | some o2 => exact n3 a o2 z2 n
        | none => exact u3.dom a (u7.fresh I7 a o z z2)
      refine ht W0 H0 W3 H' σ4 ρ4 _ _ I4 q4 fun W5 H5 b ρ5 I5 u5 q5 => ?_
      cases b with
      | true =>
        replace q5 := q5.1 rfl; rw [if_pos rfl]
        refine he W0 H0 W5 H5 σ4 ρ5 _ _ I5 q5 fun W6 H6 v r ρ6 I6 u6 R6 q6 => ?_
        obtain ⟨e6, hz, q6⟩ := q6
        obtain ⟨W7, I7, u7, r7⟩ := u6.settle I5 I6 R6
        rw [e6] at I7 u7
        obtain ⟨b1, b2, b3, b4, b5, b6, b7⟩ := back W7 H6 I7 (u5.trans u7)
        refine ⟨us, b4, by rw [hr.length]; exact hz, W7, acc ++ [r.d], us ++ [v], b1.poke b5 b6 H0D nslot0 _, ⟨b2.mono, fun a o z n => ?_, fun a z => ?_, b2.u⟩, b3, upd_same, b5, b6, b7.append (.cons r7 .nil), q6⟩
        · rw [upd_ne (ne_of_none z hDl)]; exact b2.keep a o z n
        · by_cases e : a = Dl
          · subst e; exact hDl
          · rw [upd_ne e] at z; exact b2.dom a z
      | false =>
        replace q5 := q5.2 rfl; rw [if_neg Bool.false_ne_true]
        obtain ⟨e5, q5⟩ := q5
        subst e5
        obtain ⟨b1, b2, b3, b4, b5, b6, b7⟩ := back W5 H5 I5 u5
        exact ⟨W5, acc, us, b1, b2, b3, b4, b5, b6, b7, q5⟩
    · have e : i = ds.length := by omega
      subst e
      rw [List.drop_length] at q
      refine .inl ⟨stop, k Wc Hc _ (.fr acc) ρ1 Ic ⟨u1.toUp.trans uc, fun a o z n => ?_, u1.lat⟩ ⟨Dl, us, rfl, hD, hF, hP, u1.dom Dl hDl, hr, nslot0⟩ q⟩
      cases z2 : W1.F a with
      | some o2 => exact u1.new a o2 z2 n
      | none => exact .inl (u1.dom a (nc a o z z2))
section
variable {elt tg iter : Expr} {ifs : List Expr} {scope : Scope} {own : List (Str × Nat)} {pos : Pos} {wi : TI} {ti : DTI} {g' : TG} {g : DTG} {tt' : TT} {tt : DTT} {te' : TE} {te : DTE}
abbrev BlkX (X : Cx) (scope : Scope) (s : Shared) (H : Hp) (C : Addr) (cl : List (Str × Addr)) (fp : List Addr) : Cx := X.blk s H scope (compEnvC scope cl C X.env) fp
theorem de_lc (hc : X.calm = true) (hN : X.N.Nodup) (hi : DI X tg iter wi ti) (ok : BlkOk X.N X.env.scope scope own)
    (hg : ∀ s H C cl fp, PG (BlkX X scope s H C cl fp) tg g') (hgc : ∀ mg, GC mg g' g (own.map (·.2))) (ht : ∀ s H C cl fp, DTs (BlkX X scope s H C cl fp) ifs tt' tt)
    (he : ∀ s H C cl fp, DE (BlkX X scope s H C cl fp) elt te' te) (hs : ∀ x, foldedSetIterable iter X.env x = pure x := by intro _; rfl) :
    DE X (.ListComp elt [⟨tg, iter, ifs, 0⟩] scope pos) (tLc wi g' tt' te' (own.map (·.2))) (dLc ti g tt te (own.map (·.2))) :=
  ⟨pe_lc hc hN hi.p ok hg (fun s H C cl fp => (ht s H C cl fp).p) (fun s H C cl fp => (he s H C cl fp).p) hs, se_lc hi.s (hgc _) (ht ⟨X.s_0.heap, X.s_0.gens, X.s_0.drawn, X.s_0.toks, X.s_0.os⟩ X.H_0 0 [] []).s (he X.s_0 X.H_0 0 [] []).s⟩
theorem ds_setLc {i : Nat} {y : Str} {py spos : Pos} (hc : X.calm = true) (hN : X.N.Nodup) (hy : X.N[i]? = some y) (hyl : X.env.scope.names.lookup y = some .local)
    (hsw : swapsWith (.ListComp elt [⟨tg, iter, ifs, 0⟩] scope pos) (some (.Name y py)) spos.line X.env = pure true) (hi : DI X tg iter wi ti) (ok : BlkOk X.N X.env.scope scope own)
    (hg : ∀ s H C cl fp, PG (BlkX X scope s H C cl fp) tg g') (hgc : ∀ mg, GC mg g' g (own.map (·.2))) (ht : ∀ s H C cl fp, DTs (BlkX X scope s H C cl fp) ifs tt' tt)
    (he : ∀ s H C cl fp, DE (BlkX X scope s H C cl fp) elt te' te) (hs : ∀ x, foldedSetIterable iter X.env x = pure x := by intro _; rfl) :
    DS X (.Assign [.Name y py] (.ListComp elt [⟨tg, iter, ifs, 0⟩] scope pos) spos) (tAsg (tLc wi g' tt' te' (own.map (·.2))) (gName i)) (dAsg (dLc ti g tt te (own.map (·.2))) (gNm i)) :=
  ⟨ps_setLc hc hN hy hyl hsw hi.p ok hg (fun s H C cl fp => (ht s H C cl fp).p) (fun s H C cl fp => (he s H C cl fp).p) hs, ss_asg (se_lc hi.s (hgc _) (ht X.s_0 X.H_0 0 [] []).s (he X.s_0 X.H_0 0 [] []).s) (sg_name i)⟩
end
end
end DL
namespace DL
open PySem PySem.Spec PyProof.Rows L2
section
variable {X : Cx} {mg : Gm} {W W' : Wd} {H H' : Hp} {v x y : V}

theorem RelL.at {vs : List V} {ds : List D} {i : Int} {d : D} (r : RelL mg W vs ds) (h : atI ds i = some d) : ∃ v, atI vs i = some v ∧ Rel mg W v d := by
  unfold atI at h ⊢
  rw [r.length]
  cases e : ixN ds.length i with
  | none => rw [e] at h; cases h
  | some j =>
    rw [e] at h
    obtain ⟨v, h1, h2⟩ := r.get (show ds[j]? = some d from h)
    exact ⟨v, h1, h2⟩
def oIx : D → D → (R → Prop) → Prop := fun x y P => match x, y with
  | .lst xs, .int i => ∃ d, atI xs i = some d ∧ P (.im d)
  | .tup xs, .int i => ∃ d, atI xs i = some d ∧ P (.im d)
  | .str z, .int i => z.length ≤ sizeLine ∧ ∃ c, atI z.cps.toList i = some c ∧ P (.im (.str ⟨#[c]⟩))
  | _, _ => False
theorem os_ix {K : PySem.W.Frag} : OpS mg (rIx K) oIx := fun W H x y dx dy P Q w a b o k => by
  unfold oIx at o
  split at o
  · obtain ⟨d, e, o⟩ := o
    obtain ⟨p, vs, rfl, h1, n1, r1⟩ := a.lst w
    obtain ⟨v, h2, h3⟩ := r1.at e
    exact .inl ⟨p, vs, _, v, rfl, b.int, SqL.of h1, h2, k W H _ (.im _) w (Ext.refl _ _) h3 o⟩
  · obtain ⟨d, e, o⟩ := o
    obtain ⟨p, vs, rfl, h1, n1, r1⟩ := a.tup w
    obtain ⟨v, h2, h3⟩ := r1.at e
    exact .inr (.inl ⟨p, vs, _, v, rfl, b.int, SqT.of h1, h2, k W H _ (.im _) w (Ext.refl _ _) h3 o⟩)
  · obtain ⟨hz, c, e, o⟩ := o
    exact .inr (.inr ⟨_, _, c, a.str, b.int, hz, e, k W H _ (.im _) w (Ext.refl _ _) (Rel.str _) o⟩)
  · exact o.elim
theorem de_ix {a b : Expr} {pos : Pos} {ta' tb' : TE} {ta tb : DTE} (ha : DE X a ta' ta) (hb : DE X b tb' tb) (hs : PlainIx b := by intro _ _; rfl) {K : PySem.W.Frag} (hK : X.K = K := by rfl) : DE X (.Subscript a b pos) (tOp (rIx K) ta' tb') (dOp oIx ta tb) := by subst hK; exact ⟨pe_ix ix_seq ha.p hb.p hs, se_op os_ix ha.s hb.s⟩

abbrev DTO := Rh → (Option Int → Rh → Prop) → Prop
def SO (mg : Gm) (t' : TO) (t : DTO) : Prop := ∀ W0 H0 W H σ ρ P Q, EnvOk mg W0 H0 W H σ ρ → t ρ P → (∀ W' H' o ρ', EnvOk mg W0 H0 W' H' σ ρ' → Stp σ ρ W H ρ' W' H' → P o ρ' → Q o H') → t' σ H Q
structure DP (X : Cx) (e : Option Expr) (t' : TO) (t : DTO) : Prop where
  p : PO X e t'
  s : SO (gm X) t' t
def dNoPart : DTO := fun ρ P => P none ρ
def dPart (te : DTE) : DTO := fun ρ P => te ρ fun r ρ1 => match r with
  | .im (.int i) => P (some i) ρ1
  | _ => False
theorem dp_none : DP X none tNoPart dNoPart := ⟨po_none, fun W0 H0 W H σ ρ P Q I h k => k W H none ρ I Stp.refl h⟩
theorem dp_some {e : Expr} {te' : TE} {te : DTE} (he : DE X e te' te) : DP X (some e) (tPart te') (dPart te) := ⟨po_some he.p, fun W0 H0 W H σ ρ P Q I h k =>
  he.s W0 H0 W H σ ρ _ _ I h fun W1 H1 v r ρ1 I1 u1 R1 h1 => by
    split at h1
    · rename_i i
      have R2 : Rel (gm X) W1 v (.int i) := R1
      cases R2
      exact ⟨_, rfl, k W1 H1 _ ρ1 I1 u1 h1⟩
    · exact h1.elim⟩
def cutA {α : Type} (xs : List α) (lo hi : Option Int) : List α := (xs.drop (HT.sIx xs.length 0 lo)).take (HT.sIx xs.length xs.length hi - HT.sIx xs.length 0 lo)
theorem RelL.cut {vs : List V} {ds : List D} (r : RelL mg W vs ds) (lo hi : Option Int) : RelL mg W (cutV vs lo hi) (cutA ds lo hi) := by
  unfold cutV cutA
  rw [r.length]
  exact (r.drop _).take _
def rSlAll (K : PySem.W.Frag) : V → Option Int → Option Int → Hp → VK → Prop := fun x lo hi H Q => rSlL K x lo hi H Q ∨ rSlA K x lo hi H Q
def dSl (te : DTE) (tl th : DTO) : DTE := fun ρ P => te ρ fun r ρ1 => tl ρ1 fun l ρ2 => th ρ2 fun u ρ3 => match r.d with
  | .lst xs => P (.fr (cutA xs l u)) ρ3
  | .tup xs => P (.im (.tup (cutA xs l u))) ρ3
  | _ => False
theorem cutA_whole {α : Type} {xs : List α} {lo hi : Option Int} (h : HT.sIx xs.length 0 lo = 0 ∧ HT.sIx xs.length xs.length hi = xs.length) : cutA xs lo hi = xs := by
  unfold cutA
  rw [h.1, h.2, List.drop_zero, Nat.sub_zero, List.take_length]
theorem de_slice0 {e : Expr} {lo hi : Option Expr} {p2 pos : Pos} {te' : TE} {te : DTE} {tl' th' : TO} {tl th : DTO} (he : DE X e te' te) (hl : DP X lo tl' tl) (hh : DP X hi th' th) : DE X (.Subscript e (.Slice lo hi none p2) pos) (tSl (rSlAll X.K) te' tl' th') (dSl te tl th) :=
  ⟨pe_slice (sl_list.or sl_tupA) he.p hl.p hh.p, fun W0 H0 W H σ ρ P Q I h k =>
  he.s W0 H0 W H σ ρ _ _ I h fun W1 H1 v r ρ1 I1 u1 R1 h1 => hl.s W0 H0 W1 H1 σ ρ1 _ _ I1 h1 fun W2 H2 l ρ2 I2 u2 h2 => hh.s W0 H0 W2 H2 σ ρ2 _ _ I2 h2 fun W3 H3 u ρ3 I3 u3 h3 => by
    have a := (R1.relH I1).up (u2.trans u3).toUp
    have us := (u1.trans u2).trans u3
    split at h3
    · rename_i xs e
      rw [e] at a
      obtain ⟨p, vs, rfl, g1, g2, r1⟩ := a.lst I3.wok
      refine .inl ⟨p, vs, rfl, SqL.of g1, fun q hq => ?_⟩
      obtain ⟨k1, k2, k3⟩ := rf_new I3.wok hq (r1.cut l u)
      exact k _ _ _ (.fr _) ρ3 (I3.step k2 k1) (us.trans k2.stp) ((RF.rr k3 I3).back us.dom) h3
    · rename_i xs e
      rw [e] at a
      obtain ⟨p, vs, rfl, g1, g2, r1⟩ := a.tup I3.wok
      refine .inr ⟨p, vs, rfl, SqT.of g1, fun hw => ?_, fun _ q hq => ?_⟩
      · rw [r1.length] at hw
        rw [cutA_whole hw] at h3
        exact k _ _ _ (.im _) ρ3 I3 us (Rel.tup g2 r1) h3
      · obtain ⟨k1, k2, k3⟩ := rf_tup I3.wok hq (r1.cut l u)
        exact k _ _ _ (.im _) ρ3 (I3.step k2 k1) (us.trans k2.stp) k3 h3
    · exact h3.elim⟩
theorem de_slice {e : Expr} {lo hi : Option Expr} {p2 pos : Pos} {te' : TE} {te : DTE} {tl' th' : TO} {tl th : DTO} (he : DE X e te' te) (hl : DP X lo tl' tl) (hh : DP X hi th' th) {K : PySem.W.Frag} (hK : X.K = K := by rfl) : DE X (.Subscript e (.Slice lo hi none p2) pos) (tSl (rSlAll K) te' tl' th') (dSl te tl th) := by subst hK; exact de_slice0 he hl hh
def dRevL (te : DTE) : DTE := fun ρ P => te ρ fun r ρ1 => match r.d with
  | .lst xs => P (.fr xs.reverse) ρ1
  | _ => False
theorem de_revL0 {e : Expr} {te' : TE} {te : DTE} {k : Nat} {p1 p2 p3 pos : Pos} (he : DE X e te' te) : DE X (.Subscript e (.Slice none none (some (.UnaryOp .USub (.Constant (.int 1) k p1) p2)) p3) pos) (tRevL X.K te') (dRevL te) :=
  ⟨pe_revL he.p, fun W0 H0 W H σ ρ P Q I h k =>
  he.s W0 H0 W H σ ρ _ _ I h fun W1 H1 v r ρ1 I1 u1 R1 h1 => by
    have a := R1.relH I1
    split at h1
    · rename_i xs e
      rw [e] at a
      obtain ⟨p, vs, rfl, g1, g2, r1⟩ := a.lst I1.wok
      refine ⟨p, vs, rfl, SqL.of g1, fun q hq => ?_⟩
      obtain ⟨k1, k2, k3⟩ := rf_new I1.wok hq r1.reverse
      exact k _ _ _ (.fr _) ρ1 (I1.step k2 k1) (u1.trans k2.stp) ((RF.rr k3 I1).back u1.dom) h1
    · exact h1.elim⟩

theorem de_revL {e : Expr} {te' : TE} {te : DTE} {k : Nat} {p1 p2 p3 pos : Pos} (he : DE X e te' te) {K : PySem.W.Frag} (hK : X.K = K := by rfl) : DE X (.Subscript e (.Slice none none (some (.UnaryOp .USub (.Constant (.int 1) k p1) p2)) p3) pos) (tRevL K te') (dRevL te) := by subst hK; exact de_revL0 he
def ownAt (ρ : Rh) (j : Nat) (P : List D → Prop) : Prop := match ρ[j]? with
  | some (some (.ow xs)) => P xs
  | _ => False
theorem ownAt_inv {ρ : Rh} {j : Nat} {P : List D → Prop} (h : ownAt ρ j P) : ∃ xs, ρ[j]? = some (some (.ow xs)) ∧ P xs := by
  unfold ownAt at h
  split at h
  · rename_i xs e
    exact ⟨xs, e, h⟩
  · exact h.elim
section
variable {e : Expr} {te' : TE} {te : DTE} {pos : Pos} {apos cpos : Pos}
def dAppend (j : Nat) (te : DTE) : DTS := fun nx _ _ _ ρ => ownAt ρ j fun _ => te ρ fun r ρ1 => ownAt (frz r ρ1) j fun xs => xs.length < sizeLine ∧ nx ((frz r ρ1).set j (some (.ow (xs ++ [r.d]))))
theorem ss_append {j : Nat} {K : PySem.W.Frag} (he : SE mg te' te) : SS mg (tDrop (tBM K "list" rAppend (tVar j) (tCons te' tNil))) (dAppend j te) := fun W0 H0 W H σ ρ P E I h k => by
  obtain ⟨xs0, g0, h⟩ := ownAt_inv h
  obtain ⟨a, vs0, p1, p2, p3, p4, p5, p6⟩ := I.ow j xs0 g0
  refine ⟨.ref a, p1, .inl ⟨rfl, vs0, SqL.of p2⟩, ?_⟩
  refine he W0 H0 W H σ ρ _ _ I h fun W1 H1 v r ρ1 I1 u1 R1 h1 => ?_
  obtain ⟨W2, I2, u2, r2⟩ := u1.settle I I1 R1
  obtain ⟨xs, g1, hz, h1⟩ := ownAt_inv h1
  obtain ⟨b, vs, q1, q2, q3, q4, q5, q6⟩ := I2.ow j xs g1
  rw [p1] at q1
  cases q1
  refine ⟨a, vs, v, rfl, rfl, q2, by rw [q6.length]; exact hz, ?_⟩
  exact k.nx W2 _ σ _ u2.le (I2.store_own g1 p1 (q6.append (.cons r2 .nil))) h1
theorem ds_append {j : Nat} {x : Str} {p1 : Pos} (ho : DE X (.Name x p1) (tVar j) (dVar j)) (he : DE X e te' te)
    (hbase : attributeBase (.Name x p1) "append" X.env (eval (.Name x p1) X.env) = eval (.Name x p1) X.env := by rfl)
    (hfew : (((backTo cpos (starEach [e] X.env)).all fun x => !x.1) && ((backToKw cpos (keywordEach [] X.env)).all fun x => x.1.isSome) && decide (([e].length + ([] : List Keyword).length + if ([] : List Keyword).isEmpty = true then 0 else 1) < 30)) = true := by rfl)
    (hline : (apos.endLine == cpos.line) = true := by rfl) (hs : starEach [e] X.env = (false, eval e X.env) :: starEach [] X.env := by rfl) (hplain : (backTo cpos (starEach [] X.env)).any (·.1) = false := by rfl)
    (hsw : swapsWith (.Call (.Attribute (.Name x p1) "append" apos) [e] [] cpos) none pos.line X.env = pure false := by rfl) :
    DS X (.Expr (.Call (.Attribute (.Name x p1) "append" apos) [e] [] cpos) pos) (tDrop (tBM X.K "list" rAppend (tVar j) (tCons te' tNil))) (dAppend j te) :=
  ⟨ps_expr (pe_bm PySem.F.plainAttrs_list PySem.F.slot_list_append PySem.F.type_list_append mt_append ho.p (pa_cons he.p pa_nil hs) hbase hfew hline hs hplain) hsw, ss_append he.s⟩
def dSetIx (j : Nat) (te ti : DTE) : DTS := fun nx _ _ _ ρ => te ρ fun r ρ1 => ownAt (frz r ρ1) j fun _ => ti (frz r ρ1) fun s ρ2 => match s with
  | .im (.int i) => ownAt ρ2 j fun xs => ∃ k, ixN xs.length i = some k ∧ nx (ρ2.set j (some (.ow (xs.set k r.d))))
  | _ => False
theorem ss_setIx {j : Nat} {ti' : TE} {ti : DTE} (he : SE mg te' te) (hi : SE mg ti' ti) : SS mg (tAsg te' (gSub (tVar j) ti' rSetL)) (dSetIx j te ti) := fun W0 H0 W H σ ρ P E I h k =>
  he W0 H0 W H σ ρ _ _ I h fun W1 H1 v r ρ1 I1 u1 R1 h1 => by
    obtain ⟨W2, I2, u2, r2⟩ := u1.settle I I1 R1
    obtain ⟨xs0, g0, h1⟩ := ownAt_inv h1
    obtain ⟨a, vs0, p1, p2, p3, p4, p5, p6⟩ := I2.ow j xs0 g0
    refine ⟨.ref a, p1, ?_⟩
    refine hi W0 H0 W2 H1 σ _ _ _ I2 h1 fun W3 H3 w s ρ3 I3 u3 R3 h3 => ?_
    split at h3
    · rename_i i
      have R4 : Rel mg W3 w (.int i) := R3
      cases R4
      obtain ⟨xs, g1, n, en, h3⟩ := ownAt_inv h3
      obtain ⟨b, vs, q1, q2, q3, q4, q5, q6⟩ := I3.ow j xs g1
      rw [p1] at q1
      cases q1
      refine ⟨a, vs, _, n, rfl, rfl, q2, by rw [q6.length]; exact en, ?_⟩
      exact k.nx W3 _ σ _ (u2.le.trans u3.le) (I3.store_own g1 p1 (q6.set (r2.mono u3.le) n)) h3
    · exact h3.elim
theorem ds_setIx {j : Nat} {x : Str} {p1 p2 : Pos} {i : Expr} {ti' : TE} {ti : DTE} (he : DE X e te' te) (ho : DE X (.Name x p1) (tVar j) (dVar j)) (hi : DE X i ti' ti)
    (ha : ∀ v, assign (.Subscript (.Name x p1) i p2) X.env v = (do
      let ov ← holding [v] (eval (.Name x p1) X.env)
      let iv ← holding [v, ov] (eval i X.env)
      standAt p2
      holding [v, ov, iv] (setItem ov iv v)
      release [v, ov, iv] []) := by intro _; rfl)
    (hs : swapsWithSole [.Subscript (.Name x p1) i p2] e pos.line X.env = pure false := by rfl) (hw : swappedStores [.Subscript (.Name x p1) i p2] e X.env = pure none := by rfl) (h1 : (assignEach [.Subscript (.Name x p1) i p2] X.env).map (·.2) = [assign (.Subscript (.Name x p1) i p2) X.env] := by rfl) :
    DS X (.Assign [.Subscript (.Name x p1) i p2] e pos) (tAsg te' (gSub (tVar j) ti' rSetL)) (dSetIx j te ti) := ⟨ps_asg he.p (pg_sub ho.p hi.p set_list ha) hs hw h1, ss_setIx he.s hi.s⟩
end

def tyD : D → Option String
  | .non => some "NoneType"
  | .bl _ => some "bool"
  | .int _ => some "int"
  | .str _ => some "str"
  | .lst _ => some "list"
  | .tup _ => some "tuple"
  | .dic _ => some "dict"
  | _ => none
def isTy (n T : String) : Bool := n == T || (n == "bool" && T == "int")
def dIsi (T : String) (te : DTE) : DTE := fun ρ P => te ρ fun r ρ1 => match tyD r.d with
  | some n => P (.im (.bl (isTy n T))) ρ1
  | none => False
def KitOk (T : String) : Prop := ∀ n, n ∈ ["NoneType", "bool", "int", "str", "list", "tuple", "dict"] → kitB n T = some (isTy n T)
theorem kitOk_of {T : String} (h : (["NoneType", "bool", "int", "str", "list", "tuple", "dict"].all fun n => decide (kitB n T = some (isTy n T))) = true) : KitOk T := fun n hn => of_decide_eq_true (List.all_eq_true.mp h n hn)
theorem kit_int : KitOk "int" := kitOk_of (by decide +kernel)
theorem kit_bool : KitOk "bool" := kitOk_of (by decide +kernel)
theorem kit_tuple : KitOk "tuple" := kitOk_of (by decide +kernel)
theorem tyX_of {K : PySem.W.Frag} {d : D} {n : String} (h : RelH mg W H v d) (w : WOk W H) (e : tyD d = some n) : TyX K H v (.type n) := by
  cases d with
  | non => cases h.non; cases e; exact .base .non
  | bl b => cases h.bl; cases e; exact .base (.bl _)
  | int b => cases h.int; cases e; exact .base (.int _)
  | str b => cases h.str; cases e; exact .base (.str _)
  | lst xs =>
    obtain ⟨p, vs, rfl, h1, _⟩ := h.lst w
    cases e; exact .base (.lst h1)
  | tup xs =>
    obtain ⟨p, vs, rfl, h1, _⟩ := h.tup w
    cases e; exact .base (.tup h1)
  | dic es =>
    cases e
    rcases h with h | ⟨_, _, _, _, e2, _⟩
    · cases h with
      | dic h1 _ => exact .base (.dK (w.sub _ _ h1))
    · cases e2
  | obj c fs => cases e
  | purse => cases e
  | scr xs => cases e
  | dlk xs => cases e
  | dlt k_ xs => cases e
  | exc c_ => cases e
theorem tyD_mem {d : D} {n : String} (e : tyD d = some n) : n ∈ ["NoneType", "bool", "int", "str", "list", "tuple", "dict"] := by
  cases d <;> first | (cases e; decide) | cases e
theorem de_isi0 {e : Expr} {te' : TE} {te : DTE} {T : String} {xT : Str} {p p2 pos : Pos} (he : DE X e te' te) (hT : KitOk T) (hg : Gl X "isinstance") (hm : X.mg "isinstance" = none) (hg2 : Gl X xT) (hm2 : X.mg xT = none) (hv2 : bootBuiltins xT = some (.type T))
    (hn2 : xT ≠ "__name__" := by decide) (hd2 : (xT == ("__debug__" : Str)) = false := by decide)
    (h1 : starEach [e, .Name xT p2] X.env = (false, eval e X.env) :: starEach [.Name xT p2] X.env := by rfl) (h2 : (backTo pos (starEach [.Name xT p2] X.env)).any (·.1) = false := by rfl) :
    DE X (.Call (.Name "isinstance" p) [e, .Name xT p2] [] pos) (tCB (rIsi X.K) (tCons te' (tCons (tC (.ty T)) tNil))) (dIsi T te) :=
  ⟨pe_callB call_isi hg hm boot_isinstance (pa_cons he.p (pa_cons (pe_bltn hg2 hm2 hv2 rfl hn2 hd2) pa_nil) h1) (by decide) (by decide) h1 h2, fun W0 H0 W H σ ρ P Q I h k =>
  he.s W0 H0 W H σ ρ _ _ I h fun W1 H1 v r ρ1 I1 u1 R1 h1 => by
    split at h1
    · rename_i n en
      exact ⟨v, .ty T, .type n, .type T, isTy n T, rfl, .ty T, tyX_of (R1.relH I1) I1.wok en, kit_ty (hT n (tyD_mem en)), k W1 H1 _ (.im _) ρ1 I1 u1 (Rel.bl _) h1⟩
    · exact h1.elim⟩

theorem de_isi {e : Expr} {te' : TE} {te : DTE} {T : String} {xT : Str} {p p2 pos : Pos} (he : DE X e te' te) (hT : KitOk T) (hg : Gl X "isinstance") (hm : X.mg "isinstance" = none) (hg2 : Gl X xT) (hm2 : X.mg xT = none) (hv2 : bootBuiltins xT = some (.type T))
    (hn2 : xT ≠ "__name__" := by decide) (hd2 : (xT == ("__debug__" : Str)) = false := by decide)
    (h1 : starEach [e, .Name xT p2] X.env = (false, eval e X.env) :: starEach [.Name xT p2] X.env := by rfl) (h2 : (backTo pos (starEach [.Name xT p2] X.env)).any (·.1) = false := by rfl) {K : PySem.W.Frag} (hK : X.K = K := by rfl) :
    DE X (.Call (.Name "isinstance" p) [e, .Name xT p2] [] pos) (tCB (rIsi K) (tCons te' (tCons (tC (.ty T)) tNil))) (dIsi T te) := by subst hK; exact de_isi0 he hT hg hm hg2 hm2 hv2 hn2 hd2 h1 h2

abbrev DSp := List D → (R → Prop) → Prop
def spOf (mg : Gm) (S : DSp) : Sp := fun vs H Q _ => ∃ W ds P, WOk W H ∧ RelL mg W vs ds ∧ S ds P ∧ ∀ W' H' v r, WOk W' H' → Ext W H W' H' → RF mg H W' H' v r → P r → Q v H'
def dCall (S : DSp) (t : DTA) : DTE := fun ρ P => t ρ fun ds ρ1 => S ds fun r => P r ρ1
theorem se_call {S : DSp} {t' : TA} {t : DTA} (h : SA mg t' t) : SE mg (tCall (spOf mg S) [] E0 t') (dCall S t) := fun W0 H0 W H σ ρ P Q I q k =>
  h W0 H0 W H σ ρ _ _ I q fun W1 H1 vs ds ρ1 I1 u1 R1 h1 => by
    show spOf mg S (vs ++ []) H1 Q E0
    rw [List.append_nil]
    exact ⟨W1, ds, _, I1.wok, R1, h1, fun W' H' v r w e f p => k W' H' v r ρ1 (I1.step e w) (u1.trans e.stp) ((f.rr I1).back u1.dom) p⟩
section
variable {k : Nat} {f : Addr} {fd : FuncData} {ps : List Str} {S : DSp} {x : Str} {p pos : Pos} {e : Expr} {es : List Expr} {t' : TA} {t : DTA}
theorem de_call {gg : Gm} (F : FnOk X.prog X.w X.K X.mg X.base CX0 k f fd ps (spOf gg S)) (hr : Room k X.A) (hg : Gl X x) (hm : X.mg x = some (.ref f)) (hk : PySem.W.keepIn X.K (.ref f) = true) (hb : Binds X.K fd ps [])
    (ha : DA X (e :: es) t' t) (hdb : (x == ("__debug__" : Str)) = false := by decide) (he : starEach (e :: es) X.env = (false, eval e X.env) :: starEach es X.env := by rfl) (hpl : (backTo pos (starEach es X.env)).any (·.1) = false := by rfl) (hG : gm X = gg := by rfl) :
    DE X (.Call (.Name x p) (e :: es) [] pos) (tCall (spOf gg S) [] E0 t') (dCall S t) := by subst hG; exact ⟨pe_call F hr hg hm hk hb .nil pass0 ha.p hdb he hpl, se_call ha.s⟩
end
end

def startD (N : List Str) (ds : List D) : Rh := ds.map (fun d => some (.im d)) ++ List.replicate (N.length - ds.length) none
section
variable {P : Program} {w : World} {K : PySem.W.Frag} {mg : Str → Option Value} {base : Heap}
theorem env_start {gg : Gm} {W : Wd} {H : Hp} {N : List Str} {vs : List V} {ds : List D} (wk : WOk W H) (r : RelL gg W vs ds) : EnvOk gg W H W H (L2.start N vs) (startD N ds) := by
  have hl := r.length
  refine ⟨wk, Ext.refl _ _, by unfold L2.start startD; simp [hl], fun i d q => ?_, fun i xs q => ?_, fun i j xs ys a hi => ?_⟩
  · unfold startD at q
    by_cases h : i < ds.length
    · rw [List.getElem?_append_left (by simpa using h), List.getElem?_map] at q
      cases e : ds[i]? with
      | none => rw [e] at q; cases q
      | some d2 =>
        rw [e] at q
        cases q
        obtain ⟨v, h1, h2⟩ := r.get e
        refine ⟨v, ?_, h2⟩
        unfold L2.start
        rw [List.getElem?_append_left (by rw [List.length_map, hl]; exact h), List.getElem?_map, h1]
        rfl
    · rw [List.getElem?_append_right (by simpa using h)] at q
      rw [List.getElem?_replicate] at q
      split at q <;> cases q
  · unfold startD at q
    by_cases h : i < ds.length
    · rw [List.getElem?_append_left (by simpa using h), List.getElem?_map] at q
      cases e : ds[i]? with
      | none => rw [e] at q; cases q
      | some d2 => rw [e] at q; cases q
    · rw [List.getElem?_append_right (by simpa using h)] at q
      rw [List.getElem?_replicate] at q
      split at q <;> cases q
  · unfold startD at hi
    by_cases h : i < ds.length
    · rw [List.getElem?_append_left (by simpa using h), List.getElem?_map] at hi
      cases e : ds[i]? with
      | none => rw [e] at hi; cases hi
      | some d2 => rw [e] at hi; cases hi
    · rw [List.getElem?_append_right (by simpa using h)] at hi
      rw [List.getElem?_replicate] at hi
      split at hi <;> cases hi
def fin (P : R → Prop) : DEnds := ⟨fun _ => P (.im .non), P, fun _ => False, fun _ => False⟩
def runD (t : DTS) (P : R → Prop) (ρ : Rh) : Prop := t (fun _ => P (.im .non)) P (fun _ => False) (fun _ => False) ρ
theorem ok_def {x qual : Str} {st : Stmt} {f : Addr} {fd : FuncData} {N ps : List Str} {k : Nat} {S : DSp} {t : DTS} (F : FunD K x qual (defArgs st) (defBody st) (defScope st) [] [] f fd) (sc : FnScope N ps (defScope st)) (len : ∀ ds P, S ds P → ds.length = ps.length)
    (body : ∀ (cdv : Value) (A : Around) (outer : List Env) (s : Shared) (H : Hp) (E : XK), Room k (A.deeper (envOfC qual (defScope st) s.heap.objs.size f cdv)) → ∃ t', DSs (cxOf CX0 P w K mg base N qual (defScope st) f cdv A outer s H E).nox (defBody st) t' t)
    (ht : ∀ ds P, S ds P → runD t P (startD N ds)) : FnOk P w K mg base CX0 (k + 1) f fd ps (spOf ⟨mg, K⟩ S) := by
  refine F.ok sc (fun vs H Q E h => ?_) (fun cdv A outer s H vs Q E hr h => ?_)
  · obtain ⟨W, ds, PP, wk, r, hS, _⟩ := h
    rw [r.length]; exact len ds PP hS
  · obtain ⟨W, ds, PP, wk, r, hS, q⟩ := h
    obtain ⟨t', h⟩ := body cdv A outer s H E hr
    refine ⟨t', h.p.nox, ?_⟩
    refine h.s W H W H _ _ (fin PP) _ (env_start wk r) (ht ds PP hS) ⟨fun W' H' σ ρ _ I p => q W' H' .non (.im .non) I.wok I.ext Rel.non p, fun _ _ _ _ _ _ p => p.elim, fun _ _ _ _ _ _ p => p.elim, fun W' H' v r' w' e f p => q W' H' v r' w' e f p⟩
end
end DL
namespace DL
open PySem PySem.Spec PyProof.Rows L2
section
variable {X : Cx} {mg : Gm} {W W' : Wd} {H H' : Hp} {v x y : V}

theorem iteF2 {A B : Prop} (h : B) : if false = true then A else B := by rw [if_neg Bool.false_ne_true]; exact h
theorem iteT2 {A B : Prop} (h : A) : if true = true then A else B := by rw [if_pos rfl]; exact h

theorem purse_g {a g : Addr} {s t : Int} {xs : List Int} (w : WOk W H) (hu : W.U = some (a, g)) (ha : H a = some (.lst [.ref g, .int s, .int t])) (p : PInv s t xs) : WOk W (upd H g (.lst (xs.map V.int))) ∧ Ext W H W (upd H g (.lst (xs.map V.int))) := by
  have q := w.pu a g hu
  obtain ⟨s', t', xs', h1, h2, _⟩ := q.here
  refine ⟨⟨fun b o z => ?_, fun x y z => ?_⟩, ⟨⟨fun _ _ z => z, fun b o z n => ?_, fun b z => ?_, .inl rfl⟩, fun b o z n => (by rw [n] at z; cases z)⟩⟩
  · rw [upd_ne (ne_of_none z q.fg)]; exact w.sub b o z
  · rw [hu] at z
    cases z
    exact ⟨q.fa, q.fg, q.ne, s, t, xs, by rw [upd_ne q.ne]; exact ha, upd_same, p⟩
  · rw [upd_ne (n a g hu).2]; exact z
  · by_cases e : b = g
    · subst e; rw [upd_same] at z; cases z
    · rw [upd_ne e] at z; exact z
theorem purse_a {a g : Addr} {s t : Int} {xs : List Int} (w : WOk W H) (hu : W.U = some (a, g)) (hg : H g = some (.lst (xs.map V.int))) (p : PInv s t xs) : WOk W (upd H a (.lst [.ref g, .int s, .int t])) ∧ Ext W H W (upd H a (.lst [.ref g, .int s, .int t])) := by
  have q := w.pu a g hu
  refine ⟨⟨fun b o z => ?_, fun x y z => ?_⟩, ⟨⟨fun _ _ z => z, fun b o z n => ?_, fun b z => ?_, .inl rfl⟩, fun b o z n => (by rw [n] at z; cases z)⟩⟩
  · rw [upd_ne (ne_of_none z q.fa)]; exact w.sub b o z
  · rw [hu] at z
    cases z
    exact ⟨q.fa, q.fg, q.ne, s, t, xs, upd_same, by rw [upd_ne q.ne.symm]; exact hg, p⟩
  · rw [upd_ne (n a g hu).1]; exact z
  · by_cases e : b = a
    · subst e; rw [upd_same] at z; cases z
    · rw [upd_ne e] at z; exact z
theorem new_beside {p : Addr} {o : HO} (w : WOk W H) (h : H p = none) : WOk W (upd H p o) ∧ Ext W H W (upd H p o) := ⟨w.new h o, new_ext w h o⟩

def sPick : DSp := fun ds P => ∃ n, ds = [.purse, .int n] ∧ 0 < n ∧ n.natAbs < 2 ^ 200 ∧ ∀ r, 0 ≤ r → r < n → P (.im (.int r))
def tI0 (K : PySem.W.Frag) : TE := tOp (rIxL K) (tVar 0) (tC (.int 0))
def tI00 (K : PySem.W.Frag) : TE := tOp (rIxL K) (tI0 K) (tC (.int 0))
def tNe (K : PySem.W.Frag) : TT := tTest (tOp (rNeD K) (tI0 K) (tLst tNil))
def pickPrimes : List Int := [2147483629, 2147483587, 2147483579, 2147483563, 2147483549, 2147483543, 2147483497]
abbrev rAddI : R2 := rI0 fun i j => .int (i + j)
abbrev rModI : R2 := rI (fun _ j => 0 < j) fun i j => .int (i % j)
abbrev rDivI : R2 := rI CDivW fun i j => .int (i / j)
abbrev rMulI : R2 := rI CMul fun i j => .int (i * j)
abbrev rPowI : R2 := rI CPow fun i j => .int (i ^ j.toNat)
abbrev tInt (i : Int) : TE := tC (.int i)
def tP1 (K : PySem.W.Frag) : TS := tWhile (tAnd (tNe K) (tTest (tOp (rEqD K) (tI00 K) (tInt 0)))) (tDrop (tBM K "list" rPopAt (tI0 K) (tCons (tInt 0) tNil)))
def tP2 (K : PySem.W.Frag) : TS := tIfS (tNe K) (tSeq (tAsg (tOp rModI (tI00 K) (tVar 1)) (gName 2)) (tSeq (tAsg (tOp rDivI (tI00 K) (tVar 1)) (gSub (tI0 K) (tInt 0) rSetL)) (tRet (tVar 2)))) tNext
def tIx (K : PySem.W.Frag) (i : Int) : TE := tOp (rIxL K) (tVar 0) (tInt i)
def tP3 (K : PySem.W.Frag) : TS := tSeq (tAsg (tOp rAddI (tIx K 2) (tInt 1)) (gSub (tVar 0) (tInt 2) rSetL)) (tSeq (tAsg (tIx K 2) (gName 3))
  (tSeq (tAsg (tOp (rIxL K) (tLst (tCons (tInt 2147483629) (tCons (tInt 2147483587) (tCons (tInt 2147483579) (tCons (tInt 2147483563) (tCons (tInt 2147483549) (tCons (tInt 2147483543) (tCons (tInt 2147483497) tNil)))))))) (tOp rModI (tVar 3) (tInt 7))) (gName 4))
  (tSeq (tAsg (tOp rModI (tOp rAddI (tIx K 1) (tOp rMulI (tInt 65537) (tVar 3))) (tInt 2147483647)) (gName 5))
  (tSeq (tAsg (tOp rMulI (tOp rModI (tOp rPowI (tVar 5) (tInt 5)) (tInt 2147483647)) (tOp rAddI (tOp rMulI (tInt 2) (tVar 3)) (tInt 1))) (gName 6))
    (tRet (tOp rModI (tOp rDivI (tOp rModI (tOp rAddI (tVar 6) (tOp rDivI (tIx K 1) (tInt 2147483647))) (tVar 4)) (tInt 61)) (tVar 1)))))))
def tPickAll (K : PySem.W.Frag) : TS := tSeq (tP1 K) (tSeq (tP2 K) (tP3 K))
theorem i0_ok {K : PySem.W.Frag} {σ : L2.St} {a : Addr} {b c d : V} {Q : VK} (h0 : σ[0]? = some (some (.ref a))) (ha : H a = some (.lst [b, c, d])) (q : Q b H) : tI0 K σ H Q := ⟨.ref a, h0, a, _, 0, b, rfl, rfl, SqL.of ha, atI_nat (j := 0) rfl, q⟩
theorem ix_ok {K : PySem.W.Frag} {σ : L2.St} {a : Addr} {xs : List V} {j : Nat} {v : V} {Q : VK} (h0 : σ[0]? = some (some (.ref a))) (ha : H a = some (.lst xs)) (hv : xs[j]? = some v) (q : Q v H) : tIx K (j : Int) σ H Q := ⟨.ref a, h0, a, _, (j : Int), v, rfl, rfl, SqL.of ha, atI_nat hv, q⟩
theorem i00_ok {K : PySem.W.Frag} {σ : L2.St} {a g : Addr} {c d : V} {x : Int} {xs : List Int} {Q : VK} (h0 : σ[0]? = some (some (.ref a))) (ha : H a = some (.lst [.ref g, c, d])) (hg : H g = some (.lst ((x :: xs).map V.int))) (q : Q (.int x) H) : tI00 K σ H Q :=
  i0_ok h0 ha ⟨g, _, 0, .int x, rfl, rfl, SqL.of hg, atI_nat (j := 0) rfl, q⟩
theorem dpAll_ints {K : PySem.W.Frag} : ∀ xs : List Int, DpAll K H (xs.map V.int) (xs.map PyData.int)
  | [] => .nil
  | x :: xs => .cons (.int x) (dpAll_ints xs)
theorem lay_ints : ∀ xs : List Int, PyData.canLayAll0 (xs.map PyData.int) = true
  | [] => rfl
  | x :: xs => by show (PyData.canLay0 (.int x) && PyData.canLayAll0 (xs.map PyData.int)) = true; rw [lay_ints xs]; rfl
theorem depth_ints : ∀ xs : List Int, PyData.depthAll (xs.map PyData.int) ≤ 1
  | [] => by decide
  | x :: xs => by
    have h := depth_ints xs
    show PyData.depthAll (.int x :: xs.map PyData.int) ≤ 1
    unfold PyData.depthAll
    have e : PyData.depth (.int x) ≤ 1 := by unfold PyData.depth; decide
    exact Nat.max_le.mpr ⟨e, h⟩
theorem shaped_ints (xs : List Int) : SeqAt.shaped (.list (xs.map PyData.int)) = true := by
  unfold SeqAt.shaped
  rw [Bool.and_eq_true]
  refine ⟨lay_ints xs, decide_eq_true ?_⟩
  have h := depth_ints xs
  unfold PyData.depth
  omega
theorem ne_ok {K : PySem.W.Frag} {σ : L2.St} {a g : Addr} {c d : V} {xs : List Int} {Q : Bool → Hp → Prop} (h0 : σ[0]? = some (some (.ref a))) (ha : H a = some (.lst [.ref g, c, d])) (hg : H g = some (.lst (xs.map V.int))) (q : ∀ p, H p = none → Q (!xs.isEmpty) (upd H p (.lst []))) : tNe K σ H Q :=
  i0_ok h0 ha ⟨Nat.zero_le _, fun p hp => ⟨.list (xs.map PyData.int), .list [], .lst (SqL.of (by rw [upd_ne (ne_of_none hg hp)]; exact hg)) (dpAll_ints xs), .lst (SqL.of upd_same) .nil, shaped_ints xs, shaped_ints [], !xs.isEmpty, (by cases xs <;> rfl), q p hp⟩⟩
theorem pinv_tail {s t x : Int} {xs : List Int} (p : PInv s t (x :: xs)) : PInv s t xs := ⟨p.s0, p.s1, p.t0, by have := p.len; rw [List.length_cons] at this; omega, fun y hy => p.nn y (List.mem_cons_of_mem _ hy), fun y hy => p.sm y (List.mem_cons_of_mem _ hy)⟩
theorem ix0 (x : Int) (xs : List Int) : ixN ((x :: xs).map V.int).length 0 = some 0 := by
  unfold ixN
  rw [if_pos (by decide), if_pos (by rw [List.map_cons, List.length_cons]; omega)]; rfl
theorem sx0 (x : Int) (xs : List Int) : seqIndex? 0 ((x :: xs).map V.int).length = some 0 := by
  unfold seqIndex?
  simp
theorem pick_reading {K : PySem.W.Frag} {N : List Str} {vs : List V} {Q : VK} {E : XK} (hN : N.length = 7) (h : spOf mg sPick vs H Q E) : tPickAll K { nx := fun _ H' => Q .non H', rt := Q } (L2.start N vs) H := by
  obtain ⟨W, ds, P, w, r, ⟨n, rfl, hn, hbig, hP⟩, k⟩ := h
  cases r with
  | cons r1 r =>
  cases r with
  | cons r2 r =>
  cases r
  cases r2
  cases r1 with
  | @purse a g hu =>
  have hst : L2.start N [.ref a, .int n] = [some (.ref a), some (.int n), none, none, none, none, none] := by
    unfold L2.start
    rw [hN]; rfl
  rw [hst]
  -- what holds from turn to turn
  have hdiv : ∀ x : Int, CDivW x n := fun x => wide_div hn hbig (by decide) (by decide)
  refine ⟨fun m σ H1 => σ = [some (.ref a), some (.int n), none, none, none, none, none] ∧ WOk W H1 ∧ Ext W H W H1 ∧ ∃ s t xs, H1 a = some (.lst [.ref g, .int s, .int t]) ∧ H1 g = some (.lst (xs.map V.int)) ∧ PInv s t xs ∧ xs.length = m, ?_, ?_⟩
  · obtain ⟨s, t, xs, h1, h2, h3⟩ := (w.pu a g hu).here
    exact ⟨xs.length, rfl, w, Ext.refl _ _, s, t, xs, h1, h2, h3, rfl⟩
  rintro m σ H1 ⟨rfl, w1, e1, s, t, xs, ha, hg, pi, rfl⟩
  refine ne_ok (xs := xs) rfl ha hg fun p hp => ?_
  obtain ⟨w2, e2⟩ := new_beside (o := .lst []) w1 hp
  have ha2 : (upd H1 p (.lst [])) a = some (.lst [.ref g, .int s, .int t]) := by rw [upd_ne (ne_of_none ha hp)]; exact ha
  have hg2 : (upd H1 p (.lst [])) g = some (.lst (xs.map V.int)) := by rw [upd_ne (ne_of_none hg hp)]; exact hg
  generalize upd H1 p (.lst []) = H2 at w2 e2 ha2 hg2
  -- what follows the while
  have rest : tSeq (tP2 K) (tP3 K) { nx := fun _ H' => Q .non H', rt := Q } [some (.ref a), some (.int n), none, none, none, none, none] H2 := by
    refine ne_ok (xs := xs) rfl ha2 hg2 fun p hp => ?_
    obtain ⟨w3, e3⟩ := new_beside (o := .lst []) w2 hp
    have ha3 : (upd H2 p (.lst [])) a = some (.lst [.ref g, .int s, .int t]) := by rw [upd_ne (ne_of_none ha2 hp)]; exact ha2
    have hg3 : (upd H2 p (.lst [])) g = some (.lst (xs.map V.int)) := by rw [upd_ne (ne_of_none hg2 hp)]; exact hg2
    have ex := (e1.trans e2).trans e3
    generalize upd H2 p (.lst []) = H3 at w3 ex ha3 hg3
    cases xs with
    | cons x xs =>
      refine iteT2 ?_
      refine i00_ok rfl ha3 hg3 ⟨_, rfl, x, n, rfl, rfl, hn, ?_⟩
      refine i00_ok rfl ha3 hg3 ⟨_, rfl, x, n, rfl, rfl, hdiv x, ?_⟩
      refine i0_ok rfl ha3 ⟨g, _, 0, 0, rfl, rfl, hg3, ix0 _ _, ?_⟩
      have x0 : 0 ≤ x := pi.nn x (List.mem_cons_self ..)
      have xb : x < 10 ^ 120 := pi.sm x (List.mem_cons_self ..)
      have d0 : 0 ≤ x / n := Int.ediv_nonneg x0 (Int.le_of_lt hn)
      have d1 : x / n ≤ x := Int.ediv_le_self _ x0
      have p2 : PInv s t ((x / n) :: xs) := ⟨pi.s0, pi.s1, pi.t0, pi.len, fun y hy => by
        rcases List.mem_cons.mp hy with rfl | hy
        · exact d0
        · exact pi.nn y (List.mem_cons_of_mem _ hy), fun y hy => by
        rcases List.mem_cons.mp hy with rfl | hy
        · exact Int.lt_of_le_of_lt d1 xb
        · exact pi.sm y (List.mem_cons_of_mem _ hy)⟩
      obtain ⟨w4, e4⟩ := purse_g w3 hu ha3 p2
      refine ⟨_, rfl, k W _ (.int (x % n)) (.im (.int (x % n))) w4 (ex.trans e4) (Rel.int _) (hP _ (Int.emod_nonneg _ (by omega)) (Int.emod_lt_of_pos _ hn))⟩
    | nil =>
      refine iteF2 ?_
      refine ix_ok (j := 2) rfl ha3 rfl ⟨t, 1, rfl, rfl, ?_⟩
      refine ⟨.ref a, rfl, a, _, 2, 2, rfl, rfl, ha3, rfl, ?_⟩
      have p2 : PInv s (t + 1) [] := ⟨pi.s0, pi.s1, by have := pi.t0; omega, pi.len, pi.nn, pi.sm⟩
      obtain ⟨w4, e4⟩ := purse_a w3 hu hg3 p2
      have ha4 : (upd H3 a (.lst [.ref g, .int s, .int (t + 1)])) a = some (.lst [.ref g, .int s, .int (t + 1)]) := upd_same
      have e5 := ex.trans e4
      show tSeq _ _ _ _ (upd H3 a (.lst [.ref g, .int s, .int (t + 1)]))
      generalize upd H3 a (.lst [.ref g, .int s, .int (t + 1)]) = H4 at w4 ha4 e5
      refine ix_ok (j := 2) rfl ha4 rfl ?_
      refine ⟨by show 7 ≤ sizeLine; decide, fun q hq => ⟨_, rfl, t + 1, 7, rfl, rfl, (by show (0 : Int) < 7; decide), ?_⟩⟩
      obtain ⟨w6, e6⟩ := new_beside (o := .lst (pickPrimes.map V.int)) w4 hq
      have ha6 : (upd H4 q (.lst (pickPrimes.map V.int))) a = some (.lst [.ref g, .int s, .int (t + 1)]) := by rw [upd_ne (ne_of_none ha4 hq)]; exact ha4
      have hq6 : (upd H4 q (.lst (pickPrimes.map V.int))) q = some (.lst (pickPrimes.map V.int)) := upd_same
      have e7 := e5.trans e6
      show rIxL K (.ref q) (.int ((t + 1) % 7)) (upd H4 q (.lst (pickPrimes.map V.int))) _
      generalize upd H4 q (.lst (pickPrimes.map V.int)) = H5 at w6 ha6 hq6 e7
      have m0 : 0 ≤ (t + 1) % 7 := Int.emod_nonneg _ (by decide)
      have m1 : (t + 1) % 7 < 7 := Int.emod_lt_of_pos _ (by decide)
      obtain ⟨j, hj⟩ : ∃ j : Nat, (t + 1) % 7 = (j : Int) := ⟨((t + 1) % 7).toNat, by omega⟩
      have hj7 : j < 7 := by omega
      have gp : ∃ pr : Int, pickPrimes[j]? = some pr ∧ 0 < pr ∧ pr < 2147483648 := by
        have : j = 0 ∨ j = 1 ∨ j = 2 ∨ j = 3 ∨ j = 4 ∨ j = 5 ∨ j = 6 := by omega
        rcases this with rfl | rfl | rfl | rfl | rfl | rfl | rfl <;> exact ⟨_, rfl, by decide, by decide⟩
      obtain ⟨pr, hpr, pr0, pr1⟩ := gp
      refine ⟨q, _, _, .int pr, rfl, rfl, SqL.of hq6, by rw [hj]; exact atI_nat (by rw [List.getElem?_map, hpr]; rfl), ?_⟩
      refine ix_ok (j := 1) rfl ha6 rfl ⟨_, rfl, 65537, t + 1, rfl, rfl, .inl ⟨by decide, by decide⟩, s, 65537 * (t + 1), rfl, rfl, _, 2147483647, rfl, rfl, (by show (0 : Int) < 2147483647; decide), ?_⟩
      have o0 : 0 ≤ (s + 65537 * (t + 1)) % 2147483647 := Int.emod_nonneg _ (by decide)
      have o1 : (s + 65537 * (t + 1)) % 2147483647 < 2147483647 := Int.emod_lt_of_pos _ (by decide)
      show tSeq _ _ _ ((([some (.ref a), some (.int n), none, some (.int (t + 1)), some (.int pr), none, none] : L2.St)).set 5 (some (.int ((s + 65537 * (t + 1)) % 2147483647)))) H5
      generalize (s + 65537 * (t + 1)) % 2147483647 = on at o0 o1
      refine ⟨_, rfl, on, 5, rfl, rfl, ⟨by decide, by decide, by show on.natAbs < 18446744073709551616; omega⟩, _, 2147483647, rfl, rfl, (by show (0 : Int) < 2147483647; decide), _, rfl, 2, t + 1, rfl, rfl, .inl ⟨by decide, by decide⟩, _, 1, rfl, rfl, ?_⟩
      have p0 : 0 ≤ on ^ (5 : Int).toNat % 2147483647 := Int.emod_nonneg _ (by decide)
      have p1 : on ^ (5 : Int).toNat % 2147483647 < 2147483647 := Int.emod_lt_of_pos _ (by decide)
      refine ⟨_, _, rfl, rfl, .inl ⟨by omega, by omega⟩, ?_⟩
      generalize on ^ (5 : Int).toNat % 2147483647 * (2 * (t + 1) + 1) = mx
      refine ⟨_, rfl, ?_⟩
      refine ix_ok (j := 1) rfl ha6 rfl ⟨s, 2147483647, rfl, rfl, wide_div (b := 32) (by decide) (by decide) (by decide) (by decide), _, _, rfl, rfl, _, rfl, _, pr, rfl, rfl, pr0, _, 61, rfl, rfl, wide_div (b := 32) (by decide) (by decide) (by decide) (by decide), _, rfl, _, n, rfl, rfl, hn, ?_⟩
      exact k W _ _ (.im (.int _)) w6 e7 (Rel.int _) (hP _ (Int.emod_nonneg _ (by omega)) (Int.emod_lt_of_pos _ hn))
  cases xs with
  | cons x xs =>
    refine iteT2 ?_
    refine i00_ok rfl ha2 hg2 ⟨.int x, .int 0, .int x, .int 0, rfl, rfl, decide (x = 0), by rw [eqv_int], ?_⟩
    refine ite2 (fun hx => ?_) fun hx => rest
    refine ⟨fun σ' H' => ∃ m', m' < (x :: xs).length ∧ (σ' = [some (.ref a), some (.int n), none, none, none, none, none] ∧ WOk W H' ∧ Ext W H W H' ∧ ∃ s t xs, H' a = some (.lst [.ref g, .int s, .int t]) ∧ H' g = some (.lst (xs.map V.int)) ∧ PInv s t xs ∧ xs.length = m'), fun _ _ z => z, ?_⟩
    refine i0_ok rfl ha2 ⟨.inl ⟨rfl, _, SqL.of hg2⟩, g, _, 0, 0, .int x, rfl, rfl, hg2, by decide, by decide, sx0 _ _, rfl, ?_⟩
    obtain ⟨w4, e4⟩ := purse_g w2 hu ha2 (pinv_tail pi)
    exact ⟨xs.length, by rw [List.length_cons]; omega, rfl, w4, (e1.trans e2).trans e4, s, t, xs, by rw [upd_ne (w.pu a g hu).ne]; exact ha2, upd_same, pinv_tail pi, rfl⟩
  | nil =>
    refine iteF2 ?_
    exact rest
end
end DL
namespace DL
open PySem PySem.Spec PyProof.Rows L2
section
variable {X : Cx} {mg : Gm} {W W' : Wd} {H H' : Hp} {v x y : V}
def spPurse (K : PySem.W.Frag) : Sp := fun vs H Q _ => ∃ (a0 : Addr) (ns : List Int), vs = [.ref a0] ∧ SqL K H a0 (ns.map V.int) ∧ ns.length ≤ 63 ∧ ∀ H' a g, Same H H' → H a = none → H g = none → PurseAt (fun _ => none) H' a g → Q (.ref a) H'
abbrev rGeI : R2 := rI0 fun i j => .bl (decide (j ≤ i))
abbrev rMulW : R2 := rI CMulW fun i j => .int (i * j)
def tAbsC : TE := tCB rAbs (tCons (tVar 3) tNil)
def tSeedE : TE := tOp rModI (tOp rAddI (tOp rAddI (tOp rMulI (tVar 1) (tInt 1000003)) (tOp rModI (tVar 3) (tInt 2305843009213693951))) (tInt 12345)) (tInt 2305843009213693951)
def tBig : TE := tOp rMulW (tOp rPowI (tInt 10) (tInt 60)) (tOp rPowI (tInt 10) (tInt 60))
def tPurseBody (K : PySem.W.Frag) : TS := tSeq (tAsg tSeedE (gName 1)) (tIfS (tTest (tOp rGeI tAbsC (tOp rPowI (tInt 10) (tInt 18)))) (tDrop (tBM K "list" rAppend (tVar 2) (tCons (tOp rModI tAbsC tBig) tNil))) tNext)
def tPurseAll (K : PySem.W.Frag) : TS := tSeq (tPar 1 2 (tCons (tInt 7) (tCons (tLst tNil) tNil))) (tSeq (tFor (iList K (tSl (rSlL K) (tVar 0) tNoPart (tPart (tInt 40)))) (gName 3) (tPurseBody K)) (tRet (tLst (tCons (tVar 2) (tCons (tVar 1) (tCons (tInt 0) tNil))))))
theorem cut40 (xs : List V) : cutV xs none (some 40) = xs.take 40 := by
  unfold cutV
  rw [HT.sIx_none, show HT.sIx xs.length xs.length (some 40) = min 40 xs.length from HT.sIx_nat xs.length xs.length 40]
  rw [List.drop_zero, Nat.sub_zero]
  apply List.ext_getElem?
  intro i
  rw [List.getElem?_take, List.getElem?_take]
  by_cases h : i < xs.length
  · by_cases h2 : i < 40
    · rw [if_pos (by omega), if_pos h2]
    · rw [if_neg (by omega), if_neg h2]
  · rw [List.getElem?_eq_none (by omega)]
    split <;> split <;> rfl
theorem purse_reading {K : PySem.W.Frag} {N : List Str} {vs : List V} {Q : VK} {E : XK} (hN : N.length = 4) (h : spPurse K vs H Q E) : tPurseAll K { nx := fun _ H' => Q .non H', rt := Q } (L2.start N vs) H := by
  obtain ⟨a0, ns, rfl, hS, hlen, k⟩ := h
  have hst : L2.start N [.ref a0] = [some (.ref a0), none, none, none] := by
    unfold L2.start
    rw [hN]; rfl
  rw [hst]
  refine ⟨Nat.zero_le _, fun g hg => ⟨.int 7, .ref g, rfl, ?_⟩⟩
  have s1 : Same H (upd H g (.lst [])) := fun b o e => by rw [upd_ne (ne_of_none e hg)]; exact e
  have g1 : (upd H g (.lst [])) g = some (.lst (([] : List Int).map V.int)) := upd_same
  show tSeq _ _ _ [some (.ref a0), some (.int 7), some (.ref g), none] (upd H g (.lst []))
  generalize upd H g (.lst []) = H1 at s1 g1
  refine ⟨.ref a0, rfl, 40, rfl, a0, ns.map V.int, rfl, s1.seq hS, fun c hc => ?_⟩
  rw [cut40]
  have s2 : Same H (upd H1 c (.lst ((ns.map V.int).take 40))) := fun b o e => by rw [upd_ne (ne_of_none (s1 b o e) hc)]; exact s1 b o e
  have ngc : g ≠ c := ne_of_none g1 hc
  have g2 : (upd H1 c (.lst ((ns.map V.int).take 40))) g = some (.lst (([] : List Int).map V.int)) := by rw [upd_ne ngc]; exact g1
  have c2 : (upd H1 c (.lst ((ns.map V.int).take 40))) c = some (.lst ((ns.map V.int).take 40)) := upd_same
  generalize upd H1 c (.lst ((ns.map V.int).take 40)) = H2 at s2 g2 c2
  refine ⟨c, rfl, ⟨_, SqL.of c2⟩, ?_⟩
  have hl40 : ((ns.map V.int).take 40).length ≤ 40 := by rw [List.length_take]; omega
  refine for_list (xs := (ns.map V.int).take 40) (fun i σ H3 => ∃ (s : Int) (gs : List Int) (y : Option V), σ = [some (.ref a0), some (.int s), some (.ref g), y] ∧ Same H H3 ∧ H3 g = some (.lst (gs.map V.int)) ∧ H3 c = some (.lst ((ns.map V.int).take 40)) ∧ 0 ≤ s ∧ s < 2305843009213693951 ∧ gs.length ≤ i ∧ (∀ x ∈ gs, 0 ≤ x) ∧ ∀ x ∈ gs, x < 10 ^ 120)
    ⟨7, [], none, rfl, s2, g2, c2, by decide, by decide, Nat.le_refl _, fun x hx => (by cases hx), fun x hx => (by cases hx)⟩ (fun i σ H3 _ ⟨_, _, _, _, _, _, hc3, _⟩ => SqL.of hc3) ?_ ?_
  · rintro i x σ H3 hx ⟨s, gs, y, rfl, s3, g3, c3, b0, b1, b2, b3, b4⟩
    have hi : i < 40 := by have := (List.getElem?_eq_some_iff.mp hx).1; omega
    rw [List.getElem?_take, if_pos hi, List.getElem?_map] at hx
    cases en : ns[i]? with
    | none => rw [en] at hx; cases hx
    | some n =>
    rw [en] at hx
    cases hx
    refine ⟨.int s, rfl, s, 1000003, rfl, rfl, .inr ⟨by decide, by decide⟩, .int n, rfl, n, 2305843009213693951, rfl, rfl, (by show (0 : Int) < 2305843009213693951; decide), _, _, rfl, rfl, _, 12345, rfl, rfl, _, 2305843009213693951, rfl, rfl, (by show (0 : Int) < 2305843009213693951; decide), ?_⟩
    have m0 : 0 ≤ (s * 1000003 + n % 2305843009213693951 + 12345) % 2305843009213693951 := Int.emod_nonneg _ (by decide)
    have m1 : (s * 1000003 + n % 2305843009213693951 + 12345) % 2305843009213693951 < 2305843009213693951 := Int.emod_lt_of_pos _ (by decide)
    revert m0 m1
    dsimp only
    generalize (s * 1000003 + n % 2305843009213693951 + 12345) % 2305843009213693951 = s'
    intro m0 m1
    unfold gName
    refine ⟨.int n, rfl, n, rfl, 10, 18, rfl, rfl, ⟨by decide, by decide, by decide⟩, _, _, rfl, rfl, _, rfl, ?_⟩
    refine ite2 (fun _ => ?_) fun _ => ⟨s', gs, some (.int n), rfl, s3, g3, c3, m0, m1, by omega, b3, b4⟩
    refine ⟨.ref g, rfl, .inl ⟨rfl, _, SqL.of g3⟩, .int n, rfl, n, rfl, 10, 60, rfl, rfl, ⟨by decide, by decide, by decide⟩, 10, 60, rfl, rfl, ⟨by decide, by decide, by decide⟩, _, _, rfl, rfl, wide_mul (a := 200) (b := 200) (by decide) (by decide) (by decide) (by decide) (by decide), _, _, rfl, rfl, (by show (0 : Int) < 10 ^ (60 : Int).toNat * 10 ^ (60 : Int).toNat; decide), ?_⟩
    refine ⟨g, _, _, rfl, rfl, g3, by rw [List.length_map]; exact Nat.lt_of_le_of_lt (show gs.length ≤ 100 by omega) (by decide), ?_⟩
    have r0 : 0 ≤ (if n < 0 then -n else n) % (10 ^ (60 : Int).toNat * 10 ^ (60 : Int).toNat) := Int.emod_nonneg _ (by decide)
    have r1 : (if n < 0 then -n else n) % (10 ^ (60 : Int).toNat * 10 ^ (60 : Int).toNat) < 10 ^ 120 := Int.lt_of_lt_of_le (Int.emod_lt_of_pos _ (by decide)) (by decide)
    dsimp only
    generalize (if n < 0 then -n else n) % (10 ^ (60 : Int).toNat * 10 ^ (60 : Int).toNat) = z at r0 r1 ⊢
    refine ⟨s', gs ++ [z], some (.int n), rfl, fun b o e => ?_, ?_, ?_, m0, m1, by rw [List.length_append, List.length_singleton]; omega, fun x hx => ?_, fun x hx => ?_⟩
    · rw [upd_ne (ne_of_none e hg)]; exact s3 b o e
    · rw [upd_same, List.map_append]; rfl
    · rw [upd_ne (Ne.symm ngc)]; exact c3
    · rcases List.mem_append.mp hx with hx | hx
      · exact b3 x hx
      · rw [List.mem_singleton.mp hx]; exact r0
    · rcases List.mem_append.mp hx with hx | hx
      · exact b4 x hx
      · rw [List.mem_singleton.mp hx]; exact r1
  · rintro σ H3 ⟨s, gs, y, rfl, s3, g3, c3, b0, b1, b2, b3, b4⟩
    refine ⟨.ref g, rfl, .int s, rfl, by show 3 ≤ sizeLine; decide, fun a ha => ?_⟩
    have nga : g ≠ a := ne_of_none g3 ha
    refine k _ a g (fun b o e => by rw [upd_ne (ne_of_none (s3 b o e) ha)]; exact s3 b o e) (s3.free ha) hg ⟨rfl, rfl, Ne.symm nga, s, 0, gs, upd_same, by rw [upd_ne nga]; exact g3, b0, b1, by decide, by omega, b3, b4⟩
end

def spLaw (K : PySem.W.Frag) : Sp := fun vs H Q _ => ∃ (a : Addr) (ns : List Int), vs = [.ref a] ∧ SqL K H a (ns.map V.int) ∧ ns.length ≤ 63 ∧ ∀ H', Q (.bl true) H'
def tPurseCall (K : PySem.W.Frag) : TS := tAsg (tCall (spPurse K) [] E0 (tCons (tVar 0) tNil)) (gName 1)
def lawRho (N : List Str) (ns : List Int) : Rh := some (.im (.scr (ns.map D.int))) :: some (.im .purse) :: List.replicate (N.length - 2) none
section
variable {P : Program} {w : World} {K : PySem.W.Frag} {mg : Str → Option Value} {base : Heap}
theorem law_run {N : List Str} {t' : TS} {t : DTS} {vs : List V} {H : Hp} {Q : VK} {E : XK} (hN : 2 ≤ N.length) (h2 : SS ⟨mg, K⟩ t' t) (ht : ∀ ns : List Int, ns.length ≤ 63 → runD t (fun r => r = .im (.bl true)) (lawRho N ns)) (h : spLaw K vs H Q E) : tSeq (tPurseCall K) t' { nx := fun _ H' => Q .non H', rt := Q } (L2.start N vs) H := by
  obtain ⟨a0, ns, rfl, hS, hlen, q⟩ := h
  refine ⟨.ref a0, ?_, a0, ns, rfl, hS, hlen, fun H' a g sm ha hg hp => ?_⟩
  · unfold L2.start; rfl
  · let W : Wd := ⟨fun b => if b = a0 then H b else none, some (a, g)⟩
    have na : a ≠ a0 ∨ H a0 = none := by
      by_cases e : a = a0
      · subst e; exact .inr ha
      · exact .inl e
    have ng : g ≠ a0 ∨ H a0 = none := by
      by_cases e : g = a0
      · subst e; exact .inr hg
      · exact .inl e
    have wk : WOk W H' := ⟨fun b o e => by
      have e2 : (if b = a0 then H b else none) = some o := e
      split at e2
      · exact sm b o e2
      · exact (nomatch e2), fun x y e => by
      cases e
      refine ⟨?_, ?_, hp.ne, hp.here⟩
      · show (if a = a0 then H a else none) = none
        split
        · exact ha
        · rfl
      · show (if g = a0 then H g else none) = none
        split
        · exact hg
        · rfl⟩
    have I : EnvOk ⟨mg, K⟩ W H' W H' ((L2.start N [.ref a0]).set 1 (some (.ref a))) (lawRho N ns) := by
      have e1 : (L2.start N [.ref a0]).set 1 (some (.ref a)) = some (.ref a0) :: some (.ref a) :: List.replicate (N.length - 2) none := by
        unfold L2.start
        obtain ⟨m, hm⟩ : ∃ m, N.length = m + 2 := ⟨N.length - 2, by omega⟩
        rw [hm]; rfl
      rw [e1]
      refine ⟨wk, Ext.refl _ _, by unfold lawRho; simp, fun i d q => ?_, fun i xs q => ?_, fun i j xs ys b hi => ?_⟩
      · unfold lawRho at q
        cases i with
        | zero =>
          cases q
          refine ⟨.ref a0, rfl, .scr ?_ (relL_ints ns)⟩
          rcases hS with (h | ⟨o, h⟩) | h
          · exact .inl (.inl (by show (if a0 = a0 then H a0 else none) = _; rw [if_pos rfl]; exact h))
          · exact .inl (.inr ⟨o, by show (if a0 = a0 then H a0 else none) = _; rw [if_pos rfl]; exact h⟩)
          · exact .inr h
        | succ i =>
          cases i with
          | zero => cases q; exact ⟨.ref a, rfl, .purse rfl⟩
          | succ i =>
            rw [List.getElem?_cons_succ, List.getElem?_cons_succ, List.getElem?_replicate] at q
            split at q <;> cases q
      · unfold lawRho at q
        cases i with
        | zero => cases q
        | succ i =>
          cases i with
          | zero => cases q
          | succ i =>
            rw [List.getElem?_cons_succ, List.getElem?_cons_succ, List.getElem?_replicate] at q
            split at q <;> cases q
      · unfold lawRho at hi
        cases i with
        | zero => cases hi
        | succ i =>
          cases i with
          | zero => cases hi
          | succ i =>
            rw [List.getElem?_cons_succ, List.getElem?_cons_succ, List.getElem?_replicate] at hi
            split at hi <;> cases hi
    refine h2 W H' W H' _ _ (fin fun r => r = .im (.bl true)) _ I (ht ns hlen) ⟨fun W' H' σ ρ _ I p => ?_, fun _ _ _ _ _ _ p => p.elim, fun _ _ _ _ _ _ p => p.elim, fun W' H' v r' w' e f p => ?_⟩
    · cases p
    · subst p
      have f2 : Rel ⟨mg, K⟩ W' v (.bl true) := f
      cases f2
      exact q H'
theorem ok_law {x qual : Str} {st : Stmt} {f : Addr} {fd : FuncData} {N : List Str} {k : Nat} {t : DTS} (F : FunD K x qual (defArgs st) (defBody st) (defScope st) [] [] f fd) (sc : FnScope N ["_law_script"] (defScope st)) (hN : 2 ≤ N.length)
    (body : ∀ (cdv : Value) (A : Around) (outer : List Env) (s : Shared) (H : Hp) (E : XK), Room k (A.deeper (envOfC qual (defScope st) s.heap.objs.size f cdv)) → ∃ t', PSs (cxOf CX0 P w K mg base N qual (defScope st) f cdv A outer s H E).nox (defBody st) (tSeq (tPurseCall K) t') ∧ SS ⟨mg, K⟩ t' t)
    (ht : ∀ ns : List Int, ns.length ≤ 63 → runD t (fun r => r = .im (.bl true)) (lawRho N ns)) : FnOk P w K mg base CX0 (k + 1) f fd ["_law_script"] (spLaw K) := by
  refine F.ok sc (fun vs H Q E h => by obtain ⟨a, ns, rfl, _⟩ := h; rfl) (fun cdv A outer s H vs Q E hr h => ?_)
  obtain ⟨t', h1, h2⟩ := body cdv A outer s H E hr
  exact ⟨_, h1.nox, law_run hN h2 ht h⟩

theorem ok_purse {x qual : Str} {st : Stmt} {f : Addr} {fd : FuncData} {N : List Str} {k : Nat} (F : FunD K x qual (defArgs st) (defBody st) (defScope st) [] [] f fd) (sc : FnScope N ["_law_script"] (defScope st)) (hN : N.length = 4)
    (body : ∀ (cdv : Value) (A : Around) (outer : List Env) (s : Shared) (H : Hp) (E : XK), Room k (A.deeper (envOfC qual (defScope st) s.heap.objs.size f cdv)) → PSs (cxOf CX0 P w K mg base N qual (defScope st) f cdv A outer s H E).nox (defBody st) (tPurseAll K)) : FnOk P w K mg base CX0 (k + 1) f fd ["_law_script"] (spPurse K) :=
  F.ok sc (fun vs H Q E h => by obtain ⟨a, ns, rfl, _⟩ := h; rfl) (fun cdv A outer s H vs Q E hr h => ⟨_, (body cdv A outer s H E hr).nox, purse_reading hN h⟩)
theorem ok_pick {x qual : Str} {st : Stmt} {f : Addr} {fd : FuncData} {N : List Str} {k : Nat} (F : FunD K x qual (defArgs st) (defBody st) (defScope st) [] [] f fd) (sc : FnScope N ["_law_purse_here", "_law_many"] (defScope st)) (hN : N.length = 7)
    (body : ∀ (cdv : Value) (A : Around) (outer : List Env) (s : Shared) (H : Hp) (E : XK), Room k (A.deeper (envOfC qual (defScope st) s.heap.objs.size f cdv)) → PSs (cxOf CX0 P w K mg base N qual (defScope st) f cdv A outer s H E).nox (defBody st) (tPickAll K)) : FnOk P w K mg base CX0 (k + 1) f fd ["_law_purse_here", "_law_many"] (spOf ⟨mg, K⟩ sPick) :=
  F.ok sc (fun vs H Q E h => by
    obtain ⟨W, ds, PP, wk, r, ⟨n, rfl, _⟩, _⟩ := h
    exact r.length) (fun cdv A outer s H vs Q E hr h => ⟨_, (body cdv A outer s H E hr).nox, pick_reading hN h⟩)
end
end DL
namespace DL
open PySem PySem.Spec PyProof.Rows L2
abbrev oSub := oI0 fun i j => .int (i - j)
abbrev oMod := oI (fun _ j => 0 < j) fun i j => .int (i % j)
abbrev oDiv := oI CDivW fun i j => .int (i / j)
abbrev oPow := oI CPow fun i j => .int (i ^ j.toNat)
abbrev oXor := oI0 fun i j => .int (Builtin.bitXor i j)
abbrev oLt := oI0 fun i j => .bl (decide (i < j))
abbrev oGt := oI0 fun i j => .bl (decide (j < i))
abbrev oAll := oBs fun bs => bs.all id
abbrev oMax2 := oI2 fun i j => if j > i then j else i
abbrev oMin2 := oI2 fun i j => if j < i then j else i
abbrev sp__law_pick := sPick

def lcTurn (g : DTG) (tt : DTT) (te : DTE) (ρw : Rh) (d : D) (C : Option D → Prop) : Prop := g (.im d) ρw fun ρ2 => tt ρ2 fun b ρ3 => sw b (te ρ3 fun r ρ4 => frz r ρ4 = ρ2 ∧ C (some r.d)) (ρ3 = ρ2 ∧ C none)
theorem lcL_rel {g : DTG} {tt : DTT} {te : DTE} {ρw : Rh} {S : D → Option D → Prop} : ∀ (ds acc : List D) (P : List D → Prop), acc.length + ds.length ≤ 10000000 → (∀ d, d ∈ ds → ∀ C : Option D → Prop, (∀ o, S d o → C o) → lcTurn g tt te ρw d C) →
    (∀ os : List (Option D), Paired S ds os → P (acc ++ os.filterMap id)) → dLcL g tt te ρw ds acc P
  | [], acc, P, _, _, h => by
    have q := h [] .nil
    rw [List.filterMap_nil, List.append_nil] at q
    exact q
  | d :: ds, acc, P, hl, ht, h => by
    have hz : acc.length < sizeLine := by
      rw [List.length_cons] at hl
      exact Nat.lt_of_le_of_lt (show acc.length ≤ 10000000 by omega) (by decide)
    have h1 := ht d (List.mem_cons_self ..) (fun o => match o with
      | some y => acc.length < sizeLine ∧ dLcL g tt te ρw ds (acc ++ [y]) P
      | none => dLcL g tt te ρw ds acc P) (fun o ho => by
        cases o with
        | some y =>
          refine ⟨hz, lcL_rel ds (acc ++ [y]) P (by rw [List.length_append, List.length_singleton]; rw [List.length_cons] at hl; omega) (fun e he => ht e (List.mem_cons_of_mem _ he)) fun os hp => ?_⟩
          have q := h (some y :: os) (.cons ho hp)
          rw [List.append_assoc]
          exact q
        | none =>
          refine lcL_rel ds acc P (by rw [List.length_cons] at hl; omega) (fun e he => ht e (List.mem_cons_of_mem _ he)) fun os hp => ?_
          exact h (none :: os) (.cons ho hp))
    exact h1
theorem lcL_fn {g : DTG} {tt : DTT} {te : DTE} {ρw : Rh} (f : D → Option D) (ds acc : List D) (P : List D → Prop) (hl : acc.length + ds.length ≤ 10000000) (ht : ∀ d, d ∈ ds → ∀ C : Option D → Prop, C (f d) → lcTurn g tt te ρw d C) (h : P (acc ++ ds.filterMap f)) : dLcL g tt te ρw ds acc P :=
  lcL_rel (S := fun d o => o = f d) ds acc P hl (fun d hd C hC => ht d hd C (hC _ rfl)) fun os hp => by
    have e : os.filterMap id = ds.filterMap f := by
      clear hl ht h
      induction hp with
      | nil => rfl
      | @cons a b as bs h1 h2 ih =>
        rw [h1]
        cases q : f a with
        | none => rw [List.filterMap_cons_none (by exact rfl), List.filterMap_cons_none q]; exact ih
        | some y => rw [List.filterMap_cons_some (by exact rfl), List.filterMap_cons_some q, ih]
    rw [e]; exact h
theorem lcL_ints {g : DTG} {tt : DTT} {te : DTE} {ρw : Rh} (f : Int → Option D) (xs : List Int) (acc : List D) (P : List D → Prop) (hl : acc.length + xs.length ≤ 10000000) (ht : ∀ x, x ∈ xs → ∀ C : Option D → Prop, C (f x) → lcTurn g tt te ρw (.int x) C) (h : P (acc ++ xs.filterMap f)) : dLcL g tt te ρw (xs.map D.int) acc P := by
  refine lcL_fn (fun d => match d with
    | .int i => f i
    | _ => none) _ acc P (by rw [List.length_map]; exact hl) (fun d hd C hC => ?_) ?_
  · obtain ⟨x, hx, rfl⟩ := List.mem_map.mp hd
    exact ht x hx C hC
  · rw [List.filterMap_map]; exact h
end DL
namespace DL
open PySem PySem.Spec PyProof.Rows L2
section
variable {X : Cx} {mg : Gm} {W W' : Wd} {H H' : Hp} {v x y : V}
theorem RelA.look : ∀ {kvs : List (Str × V)} {fs : List (Str × D)} {f : Str} {d : D}, RelA mg W kvs fs → fs.lookup f = some d → ∃ v, kvs.lookup f = some v ∧ Rel mg W v d
  | _, _, _, _, .nil, h => by cases h
  | _, _, f, d, .cons (k := k) r t, h => by
    rw [List.lookup_cons] at h ⊢
    cases e : (f == k) with
    | true =>
      rw [e] at h
      cases h
      exact ⟨_, rfl, r⟩
    | false =>
      rw [e] at h
      exact RelA.look t h
theorem RelA.lookN : ∀ {kvs : List (Str × V)} {fs : List (Str × D)} {f : Str}, RelA mg W kvs fs → fs.lookup f = none → kvs.lookup f = none
  | _, _, _, .nil, h => rfl
  | _, _, f, .cons (k := k) r t, h => by
    rw [List.lookup_cons] at h ⊢
    cases e : (f == k) with
    | true => rw [e] at h; cases h
    | false =>
      rw [e] at h
      exact RelA.lookN t h
structure FldOk (K : PySem.W.Frag) (mg : Str → Option Value) (c f : Str) : Prop where
  ex : ∃ C, mg c = some (.ref C) ∧ Cls K C ∧ NoAttr K C f
def dFld (c f : Str) (te : DTE) : DTE := fun ρ P => te ρ fun r ρ1 => match r with
  | .im (.obj c' fs) => c' = c ∧ ∃ d, fs.lookup f = some d ∧ P (.im d) ρ1
  | _ => False
theorem de_fld {e : Expr} {te' : TE} {te : DTE} {c f : Str} {pos : Pos} (he : DE X e te' te) (ok : FldOk X.K X.mg c f) (hb : attributeBase e f X.env (eval e X.env) = eval e X.env := by rfl) {K : PySem.W.Frag} (hK : X.K = K := by rfl) : DE X (.Attribute e f pos) (tFld K te' f) (dFld c f te) := by
  subst hK
  refine ⟨pe_fld he.p hb, fun W0 H0 W H σ ρ P Q I h k => he.s W0 H0 W H σ ρ _ _ I h fun W1 H1 v r ρ1 I1 u1 R1 h1 => ?_⟩
  split at h1
  · rename_i c' fs
    obtain ⟨rfl, d, l, h1⟩ := h1
    have R2 : Rel (gm X) W1 v (.obj c' fs) := R1
    cases R2 with
    | obj q1 q2 q3 =>
      obtain ⟨C, m, cl, na⟩ := ok.ex
      have q4 := q2.symm.trans m
      cases q4
      obtain ⟨v, l2, rv⟩ := q3.look l
      exact ⟨_, _, _, _, v, rfl, I1.wok.sub _ _ q1, cl, na, l2, k W1 H1 v (.im d) ρ1 I1 u1 rv h1⟩
  · exact h1.elim

structure MthOk (K : PySem.W.Frag) (mg : Str → Option Value) (c m : Str) (f : Addr) : Prop where
  ex : ∃ C, mg c = some (.ref C) ∧ Cls K C ∧ Meth K C m f
def dMeth (c m : Str) (S : DSp) (te : DTE) (ta : DTA) : DTE := fun ρ P => te ρ fun r ρ1 => match r with
  | .im (.obj c' fs) => c' = c ∧ fs.lookup m = none ∧ ta ρ1 fun ds ρ2 => S (.obj c' fs :: ds) fun r => P r ρ2
  | _ => False
theorem se_meth {C : Addr} {c m : Str} {S : DSp} {te' : TE} {te : DTE} {ta' : TA} {ta : DTA} (hC : mg.mg c = some (.ref C)) (he : SE mg te' te) (ha : SA mg ta' ta) : SE mg (tMeth C m (spOf mg S) [] E0 te' ta') (dMeth c m S te ta) := fun W0 H0 W H σ ρ P Q I h k =>
  he W0 H0 W H σ ρ _ _ I h fun W1 H1 v r ρ1 I1 u1 R1 h1 => by
    split at h1
    · rename_i c' fs
      obtain ⟨rfl, l, h1⟩ := h1
      have R2 : Rel mg W1 v (.obj c' fs) := R1
      have R3 := R2
      cases R3 with
      | obj q1 q2 q3 =>
        rw [hC] at q2
        cases q2
        refine ⟨_, _, _, rfl, I1.wok.sub _ _ q1, q3.lookN l, ?_⟩
        refine ha W0 H0 W1 H1 σ ρ1 _ _ I1 h1 fun W2 H2 vs ds ρ2 I2 u2 R4 h2 => ?_
        show spOf mg S (_ :: (vs ++ [])) H2 Q E0
        rw [List.append_nil]
        have us := u1.trans u2
        exact ⟨W2, _, _, I2.wok, .cons (R2.mono u2.le) R4, h2, fun W' H' v r w e f p => k W' H' v r ρ2 (I2.step e w) (us.trans e.stp) ((f.rr I2).back us.dom) p⟩
    · exact h1.elim
section
variable {k : Nat} {f C : Addr} {fd : FuncData} {ps : List Str} {S : DSp} {c m : Str} {apos pos : Pos} {o e : Expr} {es : List Expr} {te' : TE} {te : DTE} {t' : TA} {t : DTA} {gg : Gm} {pl : Sem Bool}
theorem de_meth (he : DE X o te' te) (ok : MthOk X.K X.mg c m f) (F : FnOk X.prog X.w X.K X.mg X.base CX0 k f fd ps (spOf gg S)) (hr : Room k X.A) (hb : Binds X.K fd ps []) (ha : DA X (e :: es) t' t) (hC : X.mg c = some (.ref C))
    (hst : starEach (e :: es) X.env = (false, eval e X.env) :: starEach es X.env := by rfl) (hpl : (backTo pos (starEach es X.env)).any (·.1) = false := by rfl)
    (ht : eval (.Call (.Attribute o m apos) (e :: es) [] pos) X.env = (do
      let ov ← eval o X.env
      standAt apos.atName
      let (f, first) ← holding [ov] (getMethod ov m pl)
      callWith pos f first (backTo pos (starEach (e :: es) X.env)) (backToKw pos (keywordEach [] X.env))) := by rfl) (hG : gm X = gg := by rfl) :
    DE X (.Call (.Attribute o m apos) (e :: es) [] pos) (tMeth C m (spOf gg S) [] E0 te' t') (dMeth c m S te t) := by
  subst hG
  obtain ⟨C', h1, h2, h3⟩ := ok.ex
  rw [hC] at h1
  cases h1
  exact ⟨pe_meth he.p h2 h3 F hr hb .nil pass0 ha.p hst hpl ht, se_meth hC he.s ha.s⟩
end
def spInit (gg : Gm) (C : Addr) (S : DSp) : Sp := fun vs H Q _ => ∃ W Hb ds P x dx us, vs = V.ref x :: us ∧ Hb x = none ∧ Hb dx = none ∧ dx ≠ x ∧ H = upd (upd Hb dx (.own x)) x (.ins C dx []) ∧ WOk W Hb ∧ RelL gg W us ds ∧ S ds P ∧
  ∀ W' H' r, WOk W' H' → Ext W Hb W' H' → RF gg Hb W' H' (.ref x) r → P r → Q .non H'
theorem se_make {C : Addr} {S : DSp} {ta' : TA} {ta : DTA} (ha : SA mg ta' ta) : SE mg (tMake C (spInit mg C S) [] E0 ta') (dCall S ta) := fun W0 H0 W H σ ρ P Q I h k =>
  ha W0 H0 W H σ ρ _ _ I h fun W1 H1 vs ds ρ1 I1 u1 R1 h1 x dx hx hdx hne => by
    show spInit mg C S (.ref x :: (vs ++ [])) _ _ E0
    rw [List.append_nil]
    exact ⟨W1, H1, ds, _, x, dx, vs, rfl, hx, hdx, hne, rfl, I1.wok, R1, h1, fun W' H' r w e f p => ⟨rfl, k W' H' _ r ρ1 (I1.step e w) (u1.trans e.stp) ((f.rr I1).back u1.dom) p⟩⟩
section
variable {k : Nat} {f C : Addr} {fd : FuncData} {ps : List Str} {S : DSp} {c : Str} {p pos : Pos} {e : Expr} {es : List Expr} {t' : TA} {t : DTA} {gg : Gm}
theorem de_make (M : Mk X.K C f) (F : FnOk X.prog X.w X.K X.mg X.base CX0 k f fd ps (spInit gg C S)) (hr : Room (k + 1) X.A) (hg : Gl X c) (hm : X.mg c = some (.ref C)) (hb : Binds X.K fd ps []) (ha : DA X (e :: es) t' t)
    (hdb : (c == ("__debug__" : Str)) = false := by decide) (he : starEach (e :: es) X.env = (false, eval e X.env) :: starEach es X.env := by rfl) (hpl : (backTo pos (starEach es X.env)).any (·.1) = false := by rfl) (hG : gm X = gg := by rfl) :
    DE X (.Call (.Name c p) (e :: es) [] pos) (tMake C (spInit gg C S) [] E0 t') (dCall S t) := by
  subst hG
  exact ⟨pe_make M F hr hg hm hb .nil pass0 ha.p hdb he hpl, se_make ha.s⟩
end

def valD (es : List (Key × D)) (k : Key) : Option D := (es.find? fun kv => decide (kv.1 = k)).map (·.2)
theorem valD_pos {p : Key × D} {r : List (Key × D)} {k : Key} (e : p.1 = k) : valD (p :: r) k = some p.2 := by simp [valD, List.find?_cons, e]
theorem valD_neg {p : Key × D} {r : List (Key × D)} {k : Key} (e : ¬ p.1 = k) : valD (p :: r) k = valD r k := by simp [valD, List.find?_cons, e]
theorem RelK.val : ∀ {kvs : List (Key × V)} {es : List (Key × D)} {k : Key} {d : D}, RelK mg W kvs es → valD es k = some d → ∃ v, valV kvs k = some v ∧ Rel mg W v d
  | _, _, _, _, .nil, h => by cases h
  | _, _, k, d, .cons (k := k') r t, h => by
    by_cases e : k' = k
    · rw [valD_pos e] at h
      cases h
      exact ⟨_, valV_pos e, r⟩
    · rw [valD_neg e] at h
      obtain ⟨v, h1, h2⟩ := RelK.val t h
      exact ⟨v, by rw [valV_neg e]; exact h1, h2⟩
def dGet (td tk : DTE) : DTE := fun ρ P => td ρ fun r1 ρ1 => tk ρ1 fun r2 ρ2 => match r1, r2 with
  | .im (.dic es), .im (.int i) => ∃ d, valD es (.inl i) = some d ∧ P (.im d) ρ2
  | .im (.dic es), .im (.str x) => ∃ d, valD es (.inr x) = some d ∧ P (.im d) ρ2
  | .im (.dlk es), .im (.int i) => ∃ d, valD es (.inl i) = some d ∧ P (.im d) ρ2
  | _, _ => False
theorem de_dget {o i : Expr} {pos : Pos} {td' tk' : TE} {td tk : DTE} (hu : X.A.units + 1 < cLine) (ho : DE X o td' td) (hi : DE X i tk' tk) (hs : NoSl i := by intro _ _; rfl) : DE X (.Subscript o i pos) (tDGet td' tk') (dGet td tk) :=
  ⟨pe_dget hu ho.p hi.p hs, fun W0 H0 W H σ ρ P Q I h k =>
  ho.s W0 H0 W H σ ρ _ _ I h fun W1 H1 x r1 ρ1 I1 u1 R1 h1 => hi.s W0 H0 W1 H1 σ ρ1 _ _ I1 h1 fun W2 H2 y r2 ρ2 I2 u2 R2 h2 => by
    have us := u1.trans u2
    split at h2
    · rename_i es i
      obtain ⟨d, l, h2⟩ := h2
      have q1 : Rel (gm X) W1 x (.dic es) := R1
      have q2 : Rel (gm X) W2 y (.int i) := R2
      cases q2
      have q3 := q1.mono u2.le
      cases q3 with
      | dic a b =>
        obtain ⟨v, l2, rv⟩ := b.val l
        exact ⟨_, v, rfl, by rw [← l2]; exact DGet.k (k := .inl i) (I2.wok.sub _ _ a), k W2 H2 v (.im d) ρ2 I2 us rv h2⟩
    · rename_i es i
      obtain ⟨d, l, h2⟩ := h2
      have q1 : Rel (gm X) W1 x (.dic es) := R1
      have q2 : Rel (gm X) W2 y (.str i) := R2
      cases q2
      have q3 := q1.mono u2.le
      cases q3 with
      | dic a b =>
        obtain ⟨v, l2, rv⟩ := b.val l
        exact ⟨_, v, rfl, by rw [← l2]; exact DGet.k (k := .inr i) (I2.wok.sub _ _ a), k W2 H2 v (.im d) ρ2 I2 us rv h2⟩
    · rename_i es i
      obtain ⟨d, l, h2⟩ := h2
      have q1 : Rel (gm X) W1 x (.dlk es) := R1
      have q2 : Rel (gm X) W2 y (.int i) := R2
      cases q2
      have q3 := q1.mono u2.le
      cases q3 with
      | dlk a b =>
        obtain ⟨v, l2, rv⟩ := b.val l
        exact ⟨_, v, rfl, .inl ⟨_, .inl i, a.imp (I2.wok.sub _ _) fun ⟨o, q⟩ => ⟨o, I2.wok.sub _ _ q⟩, rfl, l2.symm⟩, k W2 H2 v (.im d) ρ2 I2 us rv h2⟩
    · exact h2.elim⟩
def putD (kvs : List (Key × D)) (k : Key) (v : D) : List (Key × D) :=
  if (kvs.any fun kv => decide (kv.1 = k)) = true then kvs.map (fun kv => if kv.1 = k then (kv.1, v) else kv) else kvs ++ [(k, v)]
def mergeD (kvs more : List (Key × D)) : List (Key × D) := more.foldl (fun acc kv => putD acc kv.1 kv.2) kvs
theorem RelK.any (k : Key) : ∀ {kvs : List (Key × V)} {es : List (Key × D)}, RelK mg W kvs es → (kvs.any fun kv => decide (kv.1 = k)) = es.any fun kv => decide (kv.1 = k)
  | _, _, .nil => rfl
  | _, _, .cons r t => by rw [List.any_cons, List.any_cons, RelK.any k t]
theorem RelK.appendK : ∀ {kvs kvs' : List (Key × V)} {es es' : List (Key × D)}, RelK mg W kvs es → RelK mg W kvs' es' → RelK mg W (kvs ++ kvs') (es ++ es')
  | _, _, _, _, .nil, s => s
  | _, _, _, _, .cons r t, s => .cons r (RelK.appendK t s)
theorem RelK.mapPut {v : V} {d : D} (k : Key) (h : Rel mg W v d) : ∀ {kvs : List (Key × V)} {es : List (Key × D)}, RelK mg W kvs es → RelK mg W (kvs.map fun kv => if kv.1 = k then (kv.1, v) else kv) (es.map fun kv => if kv.1 = k then (kv.1, d) else kv)
  | _, _, .nil => .nil
  | _, _, .cons (k := k') a t => by
    rw [List.map_cons, List.map_cons]
    by_cases e : k' = k
    · rw [if_pos e, if_pos e]; exact .cons h (RelK.mapPut k h t)
    · rw [if_neg e, if_neg e]; exact .cons a (RelK.mapPut k h t)
theorem RelK.put {kvs : List (Key × V)} {es : List (Key × D)} {v : V} {d : D} (r : RelK mg W kvs es) (k : Key) (h : Rel mg W v d) : RelK mg W (putK kvs k v) (putD es k d) := by
  unfold putK putD
  rw [r.any k]
  split
  · exact r.mapPut k h
  · exact r.appendK (.cons h .nil)
theorem RelK.merge : ∀ {more : List (Key × V)} {ms : List (Key × D)} {kvs : List (Key × V)} {es : List (Key × D)}, RelK mg W more ms → RelK mg W kvs es → RelK mg W (mergeK kvs more) (mergeD es ms)
  | _, _, _, _, .nil, r => r
  | _, _, kvs, es, .cons (k := k) (v := v) (vs := vs) (d := d) (ds := ds) h t, r => by
    show RelK mg W (mergeK (putK kvs k v) vs) (mergeD (putD es k d) ds)
    exact RelK.merge t (r.put _ h)

def dPairs : List (DTE × DTE) → Rh → (List (D × D) → Rh → Prop) → Prop
  | [], ρ, P => P [] ρ
  | (tk, tv) :: r, ρ, P => tk ρ fun rk ρ1 => tv (frz rk ρ1) fun rv ρ2 => dPairs r (frz rv ρ2) fun ps ρ3 => P ((rk.d, rv.d) :: ps) ρ3
inductive RelP2 (mg : Gm) (W : Wd) : List (V × V) → List (D × D) → Prop
  | nil : RelP2 mg W [] []
  | cons {x y : V} {vs : List (V × V)} {d e : D} {ds : List (D × D)} : Rel mg W x d → Rel mg W y e → RelP2 mg W vs ds → RelP2 mg W ((x, y) :: vs) ((d, e) :: ds)
def SPs (mg : Gm) (t' : List (TE × TE)) (t : List (DTE × DTE)) : Prop := ∀ W0 H0 W H σ ρ P Q, EnvOk mg W0 H0 W H σ ρ → dPairs t ρ P → (∀ W' H' vs ds ρ', EnvOk mg W0 H0 W' H' σ ρ' → Stp σ ρ W H ρ' W' H' → RelP2 mg W' vs ds → P ds ρ' → Q vs H') → tPairs t' σ H Q
structure DPs (X : Cx) (pos : Pos) (keys : List (Option Expr)) (values : List Expr) (t' : List (TE × TE)) (t : List (DTE × DTE)) : Prop where
  p : PPs X pos keys values t'
  s : SPs (gm X) t' t
theorem rf_dic {a : Addr} {vs : List (Key × V)} {ds : List (Key × D)} (w : WOk W H) (h : H a = none) (r : RelK mg W vs ds) : WOk (W.add a (.dK vs)) (upd H a (.dK vs)) ∧ Ext W H (W.add a (.dK vs)) (upd H a (.dK vs)) ∧ RF mg H (W.add a (.dK vs)) (upd H a (.dK vs)) (.ref a) (.im (.dic ds)) :=
  ⟨add_ok w h _, add_ext w h _, .dic upd_same (r.mono (add_ext w h _).le)⟩
end
end DL
namespace DL
open PySem PySem.Spec PyProof.Rows L2
theorem drawsT {prog : Program} {w : World} {A : Around} (calm : A.handled = none) (it t : Addr) (ne : t ≠ it) (items : Array Value) :
    Draws prog w A it [it, t] items.size (fun i v => items[i]? = some v) (fun i h => h.IsTupleIter it t i ∧ h.IsTuple t items) where
  live := fun _ _ st => st.1.elim fun o z => ⟨o, z.1⟩
  frame := fun _ _ _ st k => ⟨st.1.elim fun o z => ⟨o, k it (by simp) o z.1, z.2⟩, st.2.elim fun o z => ⟨o, k t (by simp) o z.1, z.2⟩⟩
  item := fun i s Q E hi st hQ => RZ.nextOf_tuple_item st.1 st.2 (x := items[i]) (by simp [hi]) fun h2 go sb =>
    hQ _ h2 s.toks (by simp [hi]) ⟨go, st.2.elim fun o z => ⟨o, (sb.2 t ne).trans z.1, z.2⟩⟩ sb
  done := fun s Q E st hE => RZ.nextOf_tuple_end calm st.1 st.2 (by simp) hE
open AutoSeq1 (wpAny_loadPart') in
theorem made_enumT (t : Addr) (items : Array Value) (n : Nat) (dct : Option Addr) (sl : Array (Option Value)) :
    Meets (Builtin.«enumerate.__new__» ⟨[.type "enumerate", .ref t], []⟩) (fun _ R s => s.heap.get? t = some ⟨.type "tuple", dct, .seq items n, sl⟩ ∧
      R (.ok (.ret (.ref (s.heap.push ⟨.type "tuple_iterator", none, .fields #[.ref t, .int 0 0], #[]⟩).objs.size)))
        { s with heap := (s.heap.push ⟨.type "tuple_iterator", none, .fields #[.ref t, .int 0 0], #[]⟩).push ⟨.type "enumerate", none, .fields #[.none, .bool false, .ref s.heap.objs.size, rawInt 0, .none, .none], #[]⟩ }) :=
  .of_wp fun prog w A R s q => by
    obtain ⟨hp, gs, dr, tk, os⟩ := s
    obtain ⟨at0, q⟩ := q
    have sub := sub_enumerate
    have isT : Heap.IsTuple (Shared.heap ⟨hp, gs, dr, tk, os⟩) t items := ⟨_, at0, rfl, n, rfl⟩
    wp_walk using wpAny_loadPart' at0
    refine wpAny_stack_any fun st => wpAny_pure ?_
    split
    · rename_i c _ _ _ _ _
      cases (c == Value.type "enumerate")
      · wp_walk using wpAny_loadPart' at0, wpAny_pyIter_tuple isT
        exact ⟨_, rfl, q⟩
      · wp_walk using wpAny_loadPart' at0, wpAny_pyIter_tuple isT
        exact ⟨_, rfl, q⟩
    · wp_walk using wpAny_loadPart' at0, wpAny_pyIter_tuple isT
      exact ⟨_, rfl, q⟩
theorem call_enumT {prog : Program} {w : World} {A : Around} {E : Value → Shared → Prop} {s : Shared} {t : Addr} {items : Array Value} {Q : Value → Shared → Prop} (isT : s.heap.IsTuple t items)
    (next : ∀ h2, IsEnum h2 (s.heap.objs.size + 1) s.heap.objs.size 0 .none → h2.IsTupleIter s.heap.objs.size t 0 → (∀ b o, s.heap.get? b = some o → h2.get? b = some o) → Q (.ref (s.heap.objs.size + 1)) { s with heap := h2 }) :
    wpAny (model prog w) A (call (.type "enumerate") [.ref t]) Q E s := by
  obtain ⟨⟨c, dct, dt, sl⟩, at0, hc, n, hd⟩ := isT
  have hc2 : c = .type "tuple" := hc
  have hd2 : dt = .seq items n := hd
  subst hc2 hd2
  refine callType_new F.called_enumerate (by decide) (F.typeCall_enumerate_1 _) (F.newCall_enumerate_1 _) (fun obj => F.args_object_init_2 obj _) F.entry_enumerate_new (made_enumT t items n dct sl) ⟨at0, ?_⟩
  have big : (s.heap.push ⟨.type "tuple_iterator", none, .fields #[.ref t, .int 0 0], #[]⟩).objs.size = s.heap.objs.size + 1 := Heap.size_push ..
  have top := Heap.get?_push_size (s.heap.push ⟨.type "tuple_iterator", none, .fields #[.ref t, .int 0 0], #[]⟩) (o := ⟨.type "enumerate", none, .fields #[.none, .bool false, .ref s.heap.objs.size, rawInt 0, .none, .none], #[]⟩) rfl
  show _ ∧ _
  rw [big] at top ⊢
  exact ⟨⟨_, top, rfl⟩, next _ top ⟨_, Heap.get?_push_of_some _ (Heap.get?_push_size _ rfl), rfl, rfl⟩ fun b o x => Heap.get?_push_of_some _ (Heap.get?_push_of_some _ x)⟩
def IteT (K : PySem.W.Frag) (a : Addr) : It :=
  ⟨fun i H => ∃ (xs : List V) (x : V), SqT K H a xs ∧ xs[i]? = some x, fun i H v H' => ∃ T x, v = .ref T ∧ H T = none ∧ H' = upd H T (.tup [.int (i : Nat), x]) ∧ ∀ xs, SqT K H a xs → xs[i]? = some x, fun i H => ∃ xs : List V, SqT K H a xs ∧ xs.length = i⟩
theorem turn_enumT {P : Program} {w : World} {K : PySem.W.Frag} {elts : List Expr} {kk : Nat} {tpos : Pos} (a e it : Addr) (ne : e ≠ it) (na : a ≠ it) (nea : e ≠ a) :
    Turn P w K (.Tuple elts kk tpos) (IteT K a) [e, it] e (fun i h => (∃ old, IsEnum h e it ((i : Nat) : Int) old) ∧ h.IsTupleIter it a i) where
  mem := List.mem_cons_self ..
  obj := fun i h st b hb => by
    obtain ⟨⟨old, he⟩, o, ho, hc, hd⟩ := st
    rcases List.mem_cons.mp hb with z | hb
    · rw [z]; exact ⟨_, he, fun v q => nomatch q⟩
    · exact ⟨o, by rw [List.mem_singleton.mp hb]; exact ho, fun v q => by rw [hd] at q; cases q⟩
  keep := fun i h h2 st k => ⟨st.1.elim fun old z => ⟨old, k e (by simp) _ z⟩, st.2.elim fun o z => ⟨o, k it (by simp) o z.1, z.2⟩⟩
  item := by
    intro X hP hw hK calm i pins s σ H E I hf st hg
    subst hP hw hK
    obtain ⟨⟨old, he⟩, hit⟩ := st
    obtain ⟨xs, x, hq, hx⟩ := hg
    obtain ⟨its, rv, p, hz⟩ := I.tuple hq
    obtain ⟨u, hu, ru⟩ := rv.get hx
    have isT : s.heap.IsTuple a its.toArray := p
    have lt : i < its.toArray.size := by
      have := (List.getElem?_eq_some_iff.mp hu).1
      simpa using this
    have el : e < s.heap.objs.size := Heap.lt_size he
    have il : it < s.heap.objs.size := hit.elim fun o z => Heap.lt_size z.1
    refine wpAny_pyNext_enum_itemD (drawsT (show X.A.in1.handled = none from I.ok.hd calm) it a na its.toArray) he ⟨hit, isT⟩ lt ne (by simp [ne, nea]) fun y h2 tk py out st2 tup big old2 => ?_
    have ey : y = u := by
      have e1 : its.toArray[i]? = some y := py
      rw [List.getElem?_toArray, hu] at e1
      exact (Option.some.inj e1).symm
    subst ey
    refine ⟨_, rfl, wpAny_letOwnedTupleGo_enum (s := { s with heap := h2, toks := tk + 1 }) out fun h3 he3 sb => ?_⟩
    have tup3 : h3.get? s.heap.objs.size = some { cls := .type "tuple", data := .seq #[.int i tk, y] } := (sb.2 _ (Nat.ne_of_gt el)).trans tup
    have new : ObjOk X.prog X.w (upd H s.heap.objs.size (.tup [.int (i : Nat), x])) h3 s.heap.objs.size (.tup [.int (i : Nat), x]) :=
      ⟨by show 2 ≤ sizeLine; decide, [.int i tk, y], .cons ⟨_, rfl⟩ (.cons ru .nil), ⟨_, tup3, rfl, _, rfl⟩⟩
    have J : Inv X pins σ (upd H s.heap.objs.size (.tup [.int (i : Nat), x])) { s with heap := h3, toks := tk + 1 } :=
      I.turnedNew (ch := [e, it]) (fun b ob hb q => (sb.2 b fun z => hb (by simp [z])).trans (old2 b ob (fun z => hb (by simp [z])) (fun z => hb (by simp [z])) q)) hf (Nat.le_refl _) new
    refine ⟨.ref s.heap.objs.size, _, J, rfl, ⟨_, x, rfl, I.hok.fresh (Nat.le_refl _), rfl, fun ys hy => by rw [I.tuple_inj hy hq]; exact hx⟩, ⟨⟨y, ?_⟩, st2.1.elim fun o z => ⟨o, (sb.2 it (Ne.symm ne)).trans z.1, z.2⟩⟩, fun b hb => ?_⟩
    · rw [show ((i + 1 : Nat) : Int) = (i : Int) + 1 by omega]; exact he3
    · have bl : b < s.heap.objs.size := by
        rcases List.mem_cons.mp hb with z | hb
        · rw [z]; exact el
        · rw [List.mem_singleton.mp hb]; exact il
      rw [upd_ne (Nat.ne_of_lt bl)]
      exact (hf b hb).1
  done := by
    intro X hP hw hK calm i pins s σ H E I hf st hg
    subst hP hw hK
    obtain ⟨⟨old, he⟩, hit⟩ := st
    obtain ⟨xs, hq, hx⟩ := hg
    obtain ⟨its, rv, p, hz⟩ := I.tuple hq
    obtain ⟨f0, f1, f2, f3, f4, f5⟩ := hf it (by simp)
    have len := rv.length
    have isT : s.heap.IsTuple a its.toArray := p
    have ei : i = its.toArray.size := by rw [List.size_toArray, ← len]; exact hx.symm
    subst ei
    exact wpAny_pyNext_enum_endD (drawsT (show X.A.in1.handled = none from I.ok.hd calm) it a na its.toArray) he ⟨hit, isT⟩ fun h2 eb => ⟨rfl, I.turned (t' := s.toks) (fun b o hb q => eb b o hb q) f0 f1 f3 f4 f5⟩
  self := fun A i s Q E st h => st.1.elim fun _ he => wpAny_pyIter_enum he h
def iEnumA (K : PySem.W.Frag) (ta : TA) : TI := fun σ H R => ta σ H fun vs H1 => ∃ a, vs = [.ref a] ∧ ((∃ xs, SqL K H1 a xs ∧ R (Ite K a) H1) ∨ ∃ xs, SqT K H1 a xs ∧ R (IteT K a) H1)
theorem pi_enumA {X : Cx} {e : Expr} {ta : TA} {p pos tpos : Pos} {elts : List Expr} {kk : Nat} (hg : Gl X "enumerate") (hm : X.mg "enumerate" = none) (ha : PA X [e] ta) (hs : starEach [e] X.env = [(false, eval e X.env)] := by rfl) :
    PI X (.Tuple elts kk tpos) (.Call (.Name "enumerate" p) [e] [] pos) (iEnumA X.K ta) := by
  refine ⟨fun pins s σ H R I h => ?_⟩
  refine Call_ (ld_blt I hg hm boot_enumerate (PyProof.Rows.callWith_type1 (thn (ha.run pos pins s σ H _ I h) fun us s1 ⟨vs, H1, I1, r1, q1⟩ => ?_) hs rfl))
  obtain ⟨a, ex, q1⟩ := q1
  subst ex
  obtain ⟨u, rfl, ru⟩ := vals1 r1
  cases ru
  have new2 : ∀ b, b ∈ [s1.heap.objs.size + 1, s1.heap.objs.size] → FpOk X pins H1 b := fun b hb => by
    have le : s1.heap.objs.size ≤ b := by
      rcases List.mem_cons.mp hb with z | hb
      · rw [z]; exact Nat.le_add_right _ _
      · rw [List.mem_singleton.mp hb]; exact Nat.le_refl _
    exact I1.fpOk le (I1.hok.fresh le)
  rcases q1 with ⟨xs, hq, q⟩ | ⟨xs, hq, q⟩
  · obtain ⟨its, rv, p2, hz⟩ := I1.list hq
    refine call_enumerate_list p2.isList fun h2 he hit hsz old => wpAny_pyIter_enum he ?_
    have I2 : Inv X pins σ H1 { s1 with heap := h2 } := I1.kept (t' := s1.toks) old
    exact ⟨s1.heap.objs.size + 1, [s1.heap.objs.size + 1, s1.heap.objs.size], _, _, H1, rfl, I2, turn_enum a (s1.heap.objs.size + 1) s1.heap.objs.size, ⟨⟨.none, he⟩, hit, Nat.succ_ne_self _⟩, new2, q⟩
  · obtain ⟨its, rv, p2, hz⟩ := I1.tuple hq
    have isT : s1.heap.IsTuple a its.toArray := p2
    have al : a < s1.heap.objs.size := isT.elim fun o z => Heap.lt_size z.1
    refine call_enumT isT fun h2 he hit old => wpAny_pyIter_enum he ?_
    have I2 : Inv X pins σ H1 { s1 with heap := h2 } := I1.kept (t' := s1.toks) old
    exact ⟨s1.heap.objs.size + 1, [s1.heap.objs.size + 1, s1.heap.objs.size], _, _, H1, rfl, I2, turn_enumT a (s1.heap.objs.size + 1) s1.heap.objs.size (Nat.succ_ne_self _) (Nat.ne_of_lt al) (Nat.ne_of_gt (Nat.lt_succ_of_lt al)), ⟨⟨.none, he⟩, hit⟩, new2, q⟩
end DL
namespace DL
open PySem PySem.Spec PyProof.Rows L2 RZ
section
variable {X : Cx} {mg : Gm} {W W' : Wd} {H H' : Hp} {v x y : V}

section
variable {a b c : Expr} {pos : Pos} {op op' : CmpOp} {r r' : R2} {o o' : D → D → (R → Prop) → Prop} {ta' tb' tc' : TE} {ta tb tc : DTE}
end

def isNonD : D → Bool
  | .non => true
  | _ => false
theorem RelH.isNon {d : D} (h : RelH mg W H v d) : decide (v = .non) = isNonD d := by
  rcases h with h | ⟨a, vs, xs, rfl, rfl, _⟩
  · cases h <;> rfl
  · rfl
def oIsN (g : Bool → Bool) : D → D → (R → Prop) → Prop := fun x y P => match y with
  | .non => P (.im (.bl (g (isNonD x))))
  | _ => False
theorem do_notN : DO X (compareOp .IsNot) rNotN (oIsN not) := ⟨op_notN1, fun W H x y dx dy P Q w a b o k => by
  unfold oIsN at o
  split at o
  · refine ⟨b.non, ?_⟩
    rw [a.isNon]
    exact k W H _ (.im _) w (Ext.refl _ _) (Rel.bl _) o
  · exact o.elim⟩
def rngCD (lo c : Int) (n : Nat) : List D := (List.range n).map fun (i : Nat) => D.int (lo + (i : Int) * c)
theorem rngCD_get {lo c : Int} {n i : Nat} {d : D} (h : (rngCD lo c n)[i]? = some d) : i < n ∧ d = .int (lo + (i : Int) * c) := by
  unfold rngCD at h
  rw [List.getElem?_map] at h
  cases e : (List.range n)[i]? with
  | none => rw [e] at h; cases h
  | some j =>
    rw [e] at h
    obtain ⟨h1, h2⟩ := List.getElem?_eq_some_iff.mp e
    rw [List.getElem_range] at h2
    subst h2
    rw [List.length_range] at h1
    cases h
    exact ⟨h1, rfl⟩
theorem rngCD_len (lo c : Int) (n : Nat) : (rngCD lo c n).length = n := by unfold rngCD; rw [List.length_map, List.length_range]
theorem dw_rangeC {lo c : Int} {n : Nat} : DWalk mg W (Itc lo c n) (rngCD lo c n) := fun W1 H1 w l => by
  refine ⟨fun i d e => ?_, by rw [rngCD_len]; exact Nat.le_refl _⟩
  obtain ⟨h1, rfl⟩ := rngCD_get e
  refine ⟨h1, fun x H2 y => ?_⟩
  obtain ⟨rfl, rfl⟩ := y
  exact ⟨W1, w, Ext.refl _ _, .int _⟩
def dRng3 (ta : DTA) : DTI := fun ρ P => ta ρ fun ds ρ1 => match ds with
  | [.int i, .int j, .int c] => ∃ n, RgC i j c n ∧ P (rngCD i c n) ρ1
  | _ => False
theorem RelHL.three {xs : List V} {d e f : D} (h : RelHL mg W H xs [d, e, f]) : ∃ v u w, xs = [v, u, w] ∧ RelH mg W H v d ∧ RelH mg W H u e ∧ RelH mg W H w f := by
  cases h with
  | cons a b =>
    obtain ⟨u, w, rfl, b1, b2⟩ := b.two
    exact ⟨_, _, _, rfl, a, b1, b2⟩
theorem si_rng3 {ta' : TA} {ta : DTA} (h : SAh mg ta' ta) : SI mg (iRng3 ta') (dRng3 ta) := fun W0 H0 W H σ ρ P Q I q k =>
  h W0 H0 W H σ ρ _ _ I q fun W1 H1 vs ds ρ1 I1 u1 R1 h1 => by
    split at h1
    · obtain ⟨v, u, w, rfl, a, b, c⟩ := R1.three
      obtain ⟨n, hn, h1⟩ := h1
      exact ⟨_, _, _, n, by rw [a.int, b.int, c.int], hn, k W1 H1 _ _ ρ1 I1 u1 dw_rangeC h1⟩
    · exact h1.elim
theorem di_rng3 {tg a b c : Expr} {ta' : TA} {ta : DTA} {p pos : Pos} (hg : Gl X "range") (hm : X.mg "range" = none) (ha : DAh X [a, b, c] ta' ta) (hs : starEach [a, b, c] X.env = (false, eval a X.env) :: starEach [b, c] X.env := by rfl) (hpl : (backTo pos (starEach [b, c] X.env)).any (·.1) = false := by rfl) : DI X tg (.Call (.Name "range" p) [a, b, c] [] pos) (iRng3 ta') (dRng3 ta) := ⟨pi_range3 hg hm ha.p hs hpl, si_rng3 ha.s⟩

def enumD (ds : List D) : List D := ds.mapIdx fun i d => .tup [.int (i : Nat), d]
theorem enumD_len (ds : List D) : (enumD ds).length = ds.length := by unfold enumD; rw [List.length_mapIdx]
theorem enumD_get {ds : List D} {i : Nat} {d : D} (h : (enumD ds)[i]? = some d) : ∃ e, ds[i]? = some e ∧ d = .tup [.int (i : Nat), e] := by
  unfold enumD at h
  rw [List.getElem?_mapIdx] at h
  cases e : ds[i]? with
  | none => rw [e] at h; cases h
  | some j => rw [e] at h; cases h; exact ⟨j, rfl, rfl⟩
theorem dw_enum {K : PySem.W.Frag} {a : Addr} {vs : List V} {ds : List D} (h : W.F a = some (.lst vs)) (r : RelL mg W vs ds) : DWalk mg W (Ite K a) (enumD ds) := fun W1 H1 w l => by
  have q : SqL K H1 a vs := SqL.of (w.sub _ _ (l.mono _ _ h))
  refine ⟨fun i d e => ?_, vs, q, by rw [r.length, enumD_len]; exact Nat.le_refl _⟩
  obtain ⟨d1, e1, rfl⟩ := enumD_get e
  obtain ⟨v, hv, hr⟩ := r.get e1
  refine ⟨⟨vs, v, q, hv⟩, fun x H2 y => ?_⟩
  obtain ⟨T, u, rfl, hT, rfl, y⟩ := y
  have e2 := (y vs q).symm.trans hv
  cases e2
  obtain ⟨k1, k2, k3⟩ := rf_tup w hT (.cons (.int _) (.cons (hr.mono l) .nil))
  exact ⟨_, k1, k2, k3⟩
theorem dw_enumT {K : PySem.W.Frag} {a : Addr} {vs : List V} {ds : List D} (h : W.F a = some (.tup vs)) (r : RelL mg W vs ds) : DWalk mg W (IteT K a) (enumD ds) := fun W1 H1 w l => by
  have q : SqT K H1 a vs := SqT.of (w.sub _ _ (l.mono _ _ h))
  refine ⟨fun i d e => ?_, vs, q, by rw [r.length, enumD_len]⟩
  obtain ⟨d1, e1, rfl⟩ := enumD_get e
  obtain ⟨v, hv, hr⟩ := r.get e1
  refine ⟨⟨vs, v, q, hv⟩, fun x H2 y => ?_⟩
  obtain ⟨T, u, rfl, hT, rfl, y⟩ := y
  have e2 := (y vs q).symm.trans hv
  cases e2
  obtain ⟨k1, k2, k3⟩ := rf_tup w hT (.cons (.int _) (.cons (hr.mono l) .nil))
  exact ⟨_, k1, k2, k3⟩
def dEnum (ta : DTA) : DTI := fun ρ P => ta ρ fun ds ρ1 => match ds with
  | [.lst xs] => P (enumD xs) ρ1
  | [.tup xs] => P (enumD xs) ρ1
  | _ => False
theorem si_enum {K : PySem.W.Frag} {ta' : TA} {ta : DTA} (h : SA mg ta' ta) : SI mg (iEnumA K ta') (dEnum ta) := fun W0 H0 W H σ ρ P Q I q k =>
  h W0 H0 W H σ ρ _ _ I q fun W1 H1 vs ds ρ1 I1 u1 R1 h1 => by
    split at h1
    · cases R1 with
      | cons a b =>
        cases b
        cases a with
        | lst a r => exact ⟨_, rfl, .inl ⟨_, SqL.of (I1.wok.sub _ _ a), k W1 H1 _ _ ρ1 I1 u1 (dw_enum a r) h1⟩⟩
    · cases R1 with
      | cons a b =>
        cases b
        cases a with
        | tup a r => exact ⟨_, rfl, .inr ⟨_, SqT.of (I1.wok.sub _ _ a), k W1 H1 _ _ ρ1 I1 u1 (dw_enumT a r) h1⟩⟩
    · exact h1.elim
theorem di_enum {e : Expr} {ta' : TA} {ta : DTA} {p pos tpos : Pos} {elts : List Expr} {kk : Nat} (hg : Gl X "enumerate") (hm : X.mg "enumerate" = none) (ha : DA X [e] ta' ta) {K : PySem.W.Frag} (hK : X.K = K := by rfl) (hs : starEach [e] X.env = [(false, eval e X.env)] := by rfl) : DI X (.Tuple elts kk tpos) (.Call (.Name "enumerate" p) [e] [] pos) (iEnumA K ta') (dEnum ta) := by
  subst hK; exact ⟨pi_enumA hg hm ha.p hs, si_enum ha.s⟩
def zipD (xs ys : List D) : List D := List.zipWith (fun a b => .tup [a, b]) xs ys
theorem zipD_get {xs ys : List D} {i : Nat} {d : D} (h : (zipD xs ys)[i]? = some d) : ∃ e f, xs[i]? = some e ∧ ys[i]? = some f ∧ d = .tup [e, f] := by
  unfold zipD at h
  rw [List.getElem?_zipWith] at h
  cases e : xs[i]? with
  | none => rw [e] at h; cases h
  | some j =>
    cases e2 : ys[i]? with
    | none => rw [e, e2] at h; cases h
    | some l => rw [e, e2] at h; cases h; exact ⟨j, l, rfl, rfl, rfl⟩
theorem zipD_len (xs ys : List D) : (zipD xs ys).length = min xs.length ys.length := by unfold zipD; rw [List.length_zipWith]
theorem dw_zip {K : PySem.W.Frag} {a b : Addr} {vs us : List V} {ds es : List D} (h : W.F a = some (.lst vs)) (h2 : W.F b = some (.lst us)) (r : RelL mg W vs ds) (r2 : RelL mg W us es) : DWalk mg W (Itz K a b) (zipD ds es) := fun W1 H1 w l => by
  have q : SqL K H1 a vs := SqL.of (w.sub _ _ (l.mono _ _ h))
  have q2 : SqL K H1 b us := SqL.of (w.sub _ _ (l.mono _ _ h2))
  refine ⟨fun i d e => ?_, vs, us, q, q2, by rw [r.length, r2.length, zipD_len]; omega⟩
  obtain ⟨d1, d2, e1, e2, rfl⟩ := zipD_get e
  obtain ⟨v, hv, hr⟩ := r.get e1
  obtain ⟨u, hu, hr2⟩ := r2.get e2
  refine ⟨⟨vs, us, v, u, q, q2, hv, hu⟩, fun x H2 y => ?_⟩
  obtain ⟨T, x1, y1, rfl, hT, rfl, y, z⟩ := y
  have e3 := (y vs q).symm.trans hv
  cases e3
  have e4 := (z us q2).symm.trans hu
  cases e4
  obtain ⟨k1, k2, k3⟩ := rf_tup w hT (.cons (hr.mono l) (.cons (hr2.mono l) .nil))
  exact ⟨_, k1, k2, k3⟩
theorem dw_zipT {K : PySem.W.Frag} {a b : Addr} {vs us : List V} {ds es : List D} (h : W.F a = some (.tup vs)) (h2 : W.F b = some (.tup us)) (r : RelL mg W vs ds) (r2 : RelL mg W us es) : DWalk mg W (ItzT K a b) (zipD ds es) := fun W1 H1 w l => by
  have q : SqT K H1 a vs := SqT.of (w.sub _ _ (l.mono _ _ h))
  have q2 : SqT K H1 b us := SqT.of (w.sub _ _ (l.mono _ _ h2))
  refine ⟨fun i d e => ?_, vs, us, q, q2, by rw [r.length, r2.length, zipD_len]; omega⟩
  obtain ⟨d1, d2, e1, e2, rfl⟩ := zipD_get e
  obtain ⟨v, hv, hr⟩ := r.get e1
  obtain ⟨u, hu, hr2⟩ := r2.get e2
  refine ⟨⟨vs, us, v, u, q, q2, hv, hu⟩, fun x H2 y => ?_⟩
  obtain ⟨T, x1, y1, rfl, hT, rfl, y, z⟩ := y
  have e3 := (y vs q).symm.trans hv
  cases e3
  have e4 := (z us q2).symm.trans hu
  cases e4
  obtain ⟨k1, k2, k3⟩ := rf_tup w hT (.cons (hr.mono l) (.cons (hr2.mono l) .nil))
  exact ⟨_, k1, k2, k3⟩
def dZip (ta : DTA) : DTI := fun ρ P => ta ρ fun ds ρ1 => match ds with
  | [.lst xs, .lst ys] => P (zipD xs ys) ρ1
  | [.tup xs, .tup ys] => P (zipD xs ys) ρ1
  | _ => False
theorem si_zip {K : PySem.W.Frag} {ta' : TA} {ta : DTA} (h : SA mg ta' ta) : SI mg (iZipA K ta') (dZip ta) := fun W0 H0 W H σ ρ P Q I q k =>
  h W0 H0 W H σ ρ _ _ I q fun W1 H1 vs ds ρ1 I1 u1 R1 h1 => by
    split at h1
    · cases R1 with
      | cons a b =>
        cases b with
        | cons b c =>
          cases c
          cases a with
          | lst a r =>
            cases b with
            | lst b r2 => exact ⟨_, _, _, _, rfl, .inl ⟨SqL.of (I1.wok.sub _ _ a), SqL.of (I1.wok.sub _ _ b), k W1 H1 _ _ ρ1 I1 u1 (dw_zip a b r r2) h1⟩⟩
    · cases R1 with
      | cons a b =>
        cases b with
        | cons b c =>
          cases c
          cases a with
          | tup a r =>
            cases b with
            | tup b r2 => exact ⟨_, _, _, _, rfl, .inr ⟨SqT.of (I1.wok.sub _ _ a), SqT.of (I1.wok.sub _ _ b), k W1 H1 _ _ ρ1 I1 u1 (dw_zipT a b r r2) h1⟩⟩
    · exact h1.elim
theorem di_zip {e e2 : Expr} {ta' : TA} {ta : DTA} {p pos tpos : Pos} {elts : List Expr} {kk : Nat} (hg : Gl X "zip") (hm : X.mg "zip" = none) (ha : DA X [e, e2] ta' ta) {K : PySem.W.Frag} (hK : X.K = K := by rfl)
    (hs : starEach [e, e2] X.env = (false, eval e X.env) :: starEach [e2] X.env := by rfl) (hpl : (backTo pos (starEach [e2] X.env)).any (·.1) = false := by rfl) : DI X (.Tuple elts kk tpos) (.Call (.Name "zip" p) [e, e2] [] pos) (iZipA K ta') (dZip ta) := by
  subst hK; exact ⟨pi_zipA hg hm ha.p hs hpl, si_zip ha.s⟩

theorem rgV_rel (a b : Int) : RelL mg W (rgV a b) (rngD a (b - a).toNat) := by
  unfold rgV rngD
  have : ∀ l : List Nat, RelL mg W (l.map fun i => V.int (a + (i : Nat))) (l.map fun (i : Nat) => D.int (a + (i : Int))) := fun l => by
    induction l with
    | nil => exact .nil
    | cons x l ih => exact .cons (.int _) ih
  exact this _
def dLstR2 (te tf : DTE) : DTE := fun ρ P => te ρ fun r ρ1 => match r with
  | .im (.int i) => tf ρ1 fun s ρ2 => match s with
    | .im (.int j) => RgOk i j ∧ P (.fr (rngD i (j - i).toNat)) ρ2
    | _ => False
  | _ => False
section
variable {a b : Expr} {te' tf' : TE} {te tf : DTE} {p q pos pos' : Pos}
theorem de_lstR2 (hc : X.calm = true) (hg : Gl X "list") (hm : X.mg "list" = none) (hg2 : Gl X "range") (hm2 : X.mg "range" = none) (ha : DE X a te' te) (hb : DE X b tf' tf) (na : starEach [a, b] X.env = (false, eval a X.env) :: starEach [b] X.env := by rfl)
    (nb : starEach [b] X.env = (false, eval b X.env) :: starEach [] X.env := by rfl) (hp : (backTo pos' (starEach [b] X.env)).any (·.1) = false := by rfl)
    (nr : starEach [.Call (.Name "range" q) [a, b] [] pos'] X.env = (false, eval (.Call (.Name "range" q) [a, b] [] pos') X.env) :: starEach [] X.env := by rfl) : DE X (.Call (.Name "list" p) [.Call (.Name "range" q) [a, b] [] pos'] [] pos) (tLstRg (tRg2 te' tf')) (dLstR2 te tf) :=
  ⟨pe_listRg hc hg hm (prg_2 hg2 hm2 ha.p hb.p na nb hp) nr, fun W0 H0 W H σ ρ P Q I h k =>
  ha.s W0 H0 W H σ ρ _ _ I h fun W1 H1 v r ρ1 I1 u1 R1 h1 => by
    split at h1
    · rename_i n
      have R2 : Rel _ W1 v (.int n) := R1
      cases R2
      refine hb.s W0 H0 W1 H1 σ ρ1 _ _ I1 h1 fun W2 H2 w s ρ2 I2 u2 R2 h2 => ?_
      split at h2
      · rename_i m
        have R3 : Rel _ W2 w (.int m) := R2
        cases R3
        refine ⟨n, m, rfl, rfl, h2.1, fun q hq => ?_⟩
        obtain ⟨k1, k2, k3⟩ := rf_new (mg := gm X) I2.wok hq (rgV_rel n m)
        exact k _ _ _ (.fr _) ρ2 (I2.step k2 k1) ((u1.trans u2).trans k2.stp) ((RF.rr k3 I2).back (u1.trans u2).dom) h2.2
      · exact h2.elim
    · exact h1.elim⟩
end

section
variable {e : Expr} {te' : TE} {te : DTE} {pos : Pos} {apos cpos : Pos}
end

section
variable {k : Nat} {f : Addr} {fd : FuncData} {ps : List Str} {S : DSp} {x : Str} {p pos : Pos}
end
end
def startN (n : Nat) (ds : List D) : Rh := ds.map (fun d => some (.im d)) ++ List.replicate (n - ds.length) none
theorem toN {t : DTS} {P : R → Prop} {N : List Str} {n : Nat} {ds : List D} (h : runD t P (startN n ds)) (e : N.length = n := by rfl) : runD t P (startD N ds) := by subst e; exact h
theorem ok_none {P : Program} {w : World} {K : PySem.W.Frag} {mg : Str → Option Value} {base : Heap} {k : Nat} {f : Addr} {fd : FuncData} {ps : List Str} {gg : Gm} {S : DSp} (h : ∀ ds P, S ds P → False) : FnOk P w K mg base CX0 k f fd ps (spOf gg S) :=
  ⟨fun vs H Q E q => let ⟨_, ds, PP, _, _, hS, _⟩ := q; (h ds PP hS).elim, fun A outer s H args us vs Q E _ _ _ _ q => let ⟨_, ds, PP, _, _, hS, _⟩ := q; (h ds PP hS).elim⟩
end DL
namespace DL
open PySem PySem.Spec PyProof.Rows L2
section
variable {prog : Program} {w : World} {A : Around} {E : Value → Shared → Prop} {s : Shared}
end
section
variable {X : Cx} {mg : Gm}
end
end DL
namespace DL
open PySem PySem.Spec PyProof.Rows L2
mutual
def plainD : D → Bool
  | .tup xs => plainL xs
  | .lst xs => plainL xs
  | .dic es => plainK es
  | .obj _ _ => false
  | .scr _ => false
  | .dlk _ => false
  | .dlt _ _ => false
  | .exc _ => false
  | _ => true
def plainL : List D → Bool
  | [] => true
  | x :: xs => plainD x && plainL xs
def plainK : List (Key × D) → Bool
  | [] => true
  | (_, x) :: xs => plainD x && plainK xs
end
def plainS : Option Sl → Bool
  | some (.im d) => plainD d
  | some (.ow xs) => plainL xs
  | _ => true
def Wd.del (W : Wd) (x : Addr) : Wd := ⟨fun a => if a = x then none else W.F a, W.U⟩
section
variable {mg : Gm} {W W' : Wd} {H H' : Hp} {v : V} {d : D} {x : Addr}
theorem del_ne {a : Addr} {o : HO} (h : W.F a = some o) (n : a ≠ x) : (W.del x).F a = some o := by
  show (if a = x then none else W.F a) = some o
  rw [if_neg n]; exact h
theorem del_some {a : Addr} {o : HO} (h : (W.del x).F a = some o) : W.F a = some o ∧ a ≠ x := by
  by_cases e : a = x
  · have h2 : (if a = x then none else W.F a) = some o := h
    rw [if_pos e] at h2; cases h2
  · have h2 : (if a = x then none else W.F a) = some o := h
    rw [if_neg e] at h2; exact ⟨h2, e⟩
theorem del_self : (W.del x).F x = none := by show (if x = x then none else W.F x) = none; rw [if_pos rfl]
mutual
theorem Rel.thaw {C dx : Addr} {kvs : List (Str × V)} (hx : W.F x = some (.ins C dx kvs)) : ∀ {v : V} {d : D}, Rel mg W v d → plainD d = true → Rel mg (W.del x) v d
  | _, _, .non, _ => .non
  | _, _, .bl b, _ => .bl b
  | _, _, .int i, _ => .int i
  | _, _, .str z, _ => .str z
  | _, _, .tup h r, c => .tup (del_ne h fun e => by rw [e, hx] at h; cases h) (RelL.thaw hx r c)
  | _, _, .lst h r, c => .lst (del_ne h fun e => by rw [e, hx] at h; cases h) (RelL.thaw hx r c)
  | _, _, .dic h r, c => .dic (del_ne h fun e => by rw [e, hx] at h; cases h) (RelK.thaw hx r c)
  | _, _, .obj h e r, c => absurd c (by show ¬ (false = true); exact Bool.false_ne_true)
  | _, _, .purse h, _ => .purse h
  | _, _, .scr h r, c => absurd c (by show ¬ (false = true); exact Bool.false_ne_true)
  | _, _, .dlk h r, c => absurd c (by show ¬ (false = true); exact Bool.false_ne_true)
  | _, _, .dlt h e r, c => absurd c (by show ¬ (false = true); exact Bool.false_ne_true)
  | _, _, .exc m h, c => absurd c (by show ¬ (false = true); exact Bool.false_ne_true)
theorem RelL.thaw {C dx : Addr} {kvs : List (Str × V)} (hx : W.F x = some (.ins C dx kvs)) : ∀ {vs : List V} {ds : List D}, RelL mg W vs ds → plainL ds = true → RelL mg (W.del x) vs ds
  | _, _, .nil, _ => .nil
  | _, _, .cons (d := d) (ds := ds) h t, c => by
    have c2 : (plainD d && plainL ds) = true := c
    rw [Bool.and_eq_true] at c2
    exact .cons (Rel.thaw hx h c2.1) (RelL.thaw hx t c2.2)
theorem RelK.thaw {C dx : Addr} {kvs : List (Str × V)} (hx : W.F x = some (.ins C dx kvs)) : ∀ {vs : List (Key × V)} {ds : List (Key × D)}, RelK mg W vs ds → plainK ds = true → RelK mg (W.del x) vs ds
  | _, _, .nil, _ => .nil
  | _, _, .cons (d := d) (ds := ds) h t, c => by
    have c2 : (plainD d && plainK ds) = true := c
    rw [Bool.and_eq_true] at c2
    exact .cons (Rel.thaw hx h c2.1) (RelK.thaw hx t c2.2)
end
def putFD (f : Str) (d : D) : List (Str × D) → List (Str × D)
  | [] => [(f, d)]
  | (g, x) :: r => if g = f then (g, d) :: r else (g, x) :: putFD f d r
theorem RelA.put {f : Str} (h : Rel mg W v d) : ∀ {kvs : List (Str × V)} {fs : List (Str × D)}, RelA mg W kvs fs → RelA mg W (putF f v kvs) (putFD f d fs)
  | _, _, .nil => .cons h .nil
  | _, _, .cons (k := k) r t => by
    unfold putF putFD
    by_cases e : k = f
    · rw [if_pos e, if_pos e]; exact .cons h t
    · rw [if_neg e, if_neg e]; exact .cons r (RelA.put h t)
theorem RelA.len : ∀ {kvs : List (Str × V)} {fs : List (Str × D)}, RelA mg W kvs fs → kvs.length = fs.length
  | _, _, .nil => rfl
  | _, _, .cons _ t => by rw [List.length_cons, List.length_cons, RelA.len t]
end

structure IOk (mg : Gm) (W0 : Wd) (H0 : Hp) (W : Wd) (H : Hp) (σ : L2.St) (ρ : Rh) (x C dx : Addr) (kvs : List (Str × V)) (fs : List (Str × D)) (c : Str) : Prop where
  env : EnvOk mg W0 H0 W H σ ρ
  r0 : ρ[0]? = some none
  s0 : σ[0]? = some (some (.ref x))
  hx : H x = some (.ins C dx kvs)
  fx : W.F x = none
  px : NotP W x
  h0 : H0 x = none
  rel : RelA mg W kvs fs
  cls : mg.mg c = some (.ref C)
def fz (c : Str) (fs : List (Str × D)) (ρ : Rh) : Rh := ρ.set 0 (some (.im (.obj c fs)))
def thawR (ρ : Rh) : Bool := (ρ.drop 1).all plainS
section
variable {mg : Gm} {W0 W W1 : Wd} {H0 H H1 : Hp} {σ : L2.St} {ρ ρ1 : Rh} {x C dx : Addr} {kvs : List (Str × V)} {fs : List (Str × D)} {c : Str} {v : V} {r : R}
theorem IOk.lt (I : IOk mg W0 H0 W H σ ρ x C dx kvs fs c) : 0 < ρ.length := (List.getElem?_eq_some_iff.mp I.r0).1
theorem IOk.freeze (I : IOk mg W0 H0 W H σ ρ x C dx kvs fs c) : EnvOk mg W0 H0 (W.add x (.ins C dx kvs)) H σ (fz c fs ρ) := by
  have up : Up W H (W.add x (.ins C dx kvs)) H := freeze_up I.fx _
  refine ⟨I.env.wok.freeze I.hx I.px, ⟨I.env.ext.toUp.trans up, fun b o q n => ?_⟩, by unfold fz; rw [List.length_set]; exact I.env.len, fun j d q => ?_, fun j ys q => ?_, fun j k ys zs b hj hk => ?_⟩
  · by_cases e : b = x
    · subst e; exact I.h0
    · have q2 : upd W.F x (.ins C dx kvs) b = some o := q
      rw [upd_ne e] at q2
      exact I.env.ext.new b o q2 n
  · rcases get_set q with ⟨e, e2, _⟩ | ⟨e, q⟩
    · subst e
      cases e2
      exact ⟨_, I.s0, .obj upd_same I.cls (RelA.mono up.le I.rel)⟩
    · obtain ⟨v, e1, e2⟩ := I.env.im j d q
      exact ⟨v, e1, e2.mono up.le⟩
  · rcases get_set q with ⟨e, e2, _⟩ | ⟨e, q⟩
    · cases e2
    · obtain ⟨b, us, p1, p2, p3, p4, p5, p6⟩ := I.env.ow j ys q
      refine ⟨b, us, p1, p2, ?_, p4, p5, p6.mono up.le⟩
      show upd W.F x _ b = none
      rw [upd_ne (fun e => by rw [e, I.hx] at p2; cases p2)]
      exact p3
  · rcases get_set hj with ⟨_, e2, _⟩ | ⟨_, hj⟩
    · cases e2
    · rcases get_set hk with ⟨_, e2, _⟩ | ⟨_, hk⟩
      · cases e2
      · exact I.env.sep j k ys zs b hj hk
theorem thawR_get {i : Nat} {d : D} (h : thawR ρ = true) (q : ρ[i + 1]? = some (some (Sl.im d))) : plainD d = true := by
  have h2 := List.all_eq_true.mp h (some (.im d)) (List.mem_of_getElem? (i := i) (by rw [List.getElem?_drop, Nat.add_comm]; exact q))
  exact h2
theorem thawR_getO {i : Nat} {xs : List D} (h : thawR ρ = true) (q : ρ[i + 1]? = some (some (Sl.ow xs))) : plainL xs = true := by
  have h2 := List.all_eq_true.mp h (some (.ow xs)) (List.mem_of_getElem? (i := i) (by rw [List.getElem?_drop, Nat.add_comm]; exact q))
  exact h2
theorem IOk.thaw (I : IOk mg W0 H0 W H σ ρ x C dx kvs fs c) (I1 : EnvOk mg W0 H0 W1 H1 σ ρ1) (u : Stp σ (fz c fs ρ) (W.add x (.ins C dx kvs)) H ρ1 W1 H1) (hp : thawR ρ1 = true) (h0 : 0 < ρ1.length) :
    IOk mg W0 H0 (W1.del x) H1 σ (ρ1.set 0 none) x C dx kvs fs c ∧ (∀ {v d}, Rel mg W1 v d → plainD d = true → Rel mg (W1.del x) v d) := by
  have f1 : W1.F x = some (.ins C dx kvs) := u.mono x _ upd_same
  have n1 : NotP W1 x := I1.wok.notP_F f1
  have w0 : W0.F x = none := by
    cases q : W0.F x with
    | none => rfl
    | some o => have := I.env.ext.mono x o q; rw [I.fx] at this; cases this
  have le : Wle W (W1.del x) := ⟨fun a o q => del_ne (u.mono a o (by
      have hne : a ≠ x := fun e => by rw [e, I.fx] at q; cases q
      show upd W.F x _ a = some o
      rw [upd_ne hne]; exact q)) (fun e => by rw [e, I.fx] at q; cases q), fun y q => u.le.u y q⟩
  refine ⟨⟨⟨⟨fun a o q => I1.wok.sub a o (del_some q).1, fun a g q => ?_⟩, ⟨⟨fun a o q => del_ne (I1.ext.mono a o q) (fun e => by rw [e, w0] at q; cases q), I1.ext.keep, I1.ext.dom, I1.ext.u⟩, fun a o q n => I1.ext.new a o (del_some q).1 n⟩, by rw [List.length_set]; exact I1.len, fun i d q => ?_, fun i ys q => ?_, fun i j ys zs a hi hj => ?_⟩, ?_, I.s0, I1.wok.sub _ _ f1, del_self, n1, I.h0, RelA.mono le I.rel, I.cls⟩, fun hr hd => hr.thaw f1 hd⟩
  · have p := I1.wok.pu a g q
    refine ⟨?_, ?_, p.ne, p.here⟩
    · show (if a = x then none else W1.F a) = none
      rw [p.fa]; split <;> rfl
    · show (if g = x then none else W1.F g) = none
      rw [p.fg]; split <;> rfl
  · cases i with
    | zero => rw [List.getElem?_set_self h0] at q; cases q
    | succ i =>
      rw [List.getElem?_set_ne (by omega)] at q
      obtain ⟨v, e1, e2⟩ := I1.im (i + 1) d q
      exact ⟨v, e1, e2.thaw f1 (thawR_get hp q)⟩
  · cases i with
    | zero => rw [List.getElem?_set_self h0] at q; cases q
    | succ i =>
      rw [List.getElem?_set_ne (by omega)] at q
      obtain ⟨b, us, p1, p2, p3, p4, p5, p6⟩ := I1.ow (i + 1) ys q
      refine ⟨b, us, p1, p2, ?_, p4, p5, ?_⟩
      · show (if b = x then none else W1.F b) = none
        rw [p3]; split <;> rfl
      · exact p6.thaw f1 (thawR_getO hp q)
  · cases i with
    | zero => rw [List.getElem?_set_self h0] at hi; cases hi
    | succ i =>
      cases j with
      | zero => rw [List.getElem?_set_self h0] at hj; cases hj
      | succ j =>
        rw [List.getElem?_set_ne (by omega)] at hi hj
        exact I1.sep (i + 1) (j + 1) ys zs a hi hj
  · rw [List.getElem?_set_self h0]
end
end DL
namespace DL
open PySem PySem.Spec PyProof.Rows L2
abbrev ITS := (Rh → List (Str × D) → Prop) → Rh → List (Str × D) → Prop
def SIn (mg : Gm) (c : Str) (t' : TS) (t : ITS) : Prop := ∀ W0 H0 W H σ ρ x C dx kvs fs k (E : Ends), IOk mg W0 H0 W H σ ρ x C dx kvs fs c → t k ρ fs →
  (∀ W' H' σ' ρ' kvs' fs', IOk mg W0 H0 W' H' σ' ρ' x C dx kvs' fs' c → k ρ' fs' → E.nx σ' H') → t' E σ H
structure DIn (X : Cx) (c : Str) (st : Stmt) (t' : TS) (t : ITS) : Prop where
  p : PS X st t'
  s : SIn (gm X) c t' t
structure DIns (X : Cx) (c : Str) (sts : List Stmt) (t' : TS) (t : ITS) : Prop where
  p : PSs X sts t'
  s : SIn (gm X) c t' t
def iThen (t u : ITS) : ITS := fun k ρ fs => t (fun ρ' fs' => u k ρ' fs') ρ fs
section
variable {X : Cx} {c : Str}
section
variable {st : Stmt} {rest : List Stmt} {t' u' : TS} {t u : ITS}
theorem ins_cons (h : DIn X c st t' t) (g : DIns X c rest u' u) : DIns X c (st :: rest) (tSeq t' u') (iThen t u) := ⟨pss_cons h.p g.p, fun W0 H0 W H σ ρ x C dx kvs fs k E I q e =>
  h.s W0 H0 W H σ ρ x C dx kvs fs _ { E with nx := u' E } I q fun W' H' σ' ρ' kvs' fs' I' q' => g.s W0 H0 W' H' σ' ρ' x C dx kvs' fs' k E I' q' e⟩
theorem ins_one (h : DIn X c st t' t) : DIns X c [st] t' t := ⟨pss_one h.p, h.s⟩
end
def iPut (c f : Str) (te : DTE) : ITS := fun k ρ fs => te (fz c fs ρ) fun r ρ1 => thawR (frz r ρ1) = true ∧ 0 < (frz r ρ1).length ∧ plainD r.d = true ∧ fs.length < 1000 ∧ k ((frz r ρ1).set 0 none) (putFD f r.d fs)
def iLet (c : Str) (i : Nat) (te : DTE) : ITS := fun k ρ fs => te (fz c fs ρ) fun r ρ1 => thawR (frz r ρ1) = true ∧ 0 < (frz r ρ1).length ∧ plainD r.d = true ∧ k (((frz r ρ1).set 0 none).set (i + 1) (some (.im r.d))) fs
def iLoop (c : Str) (tc : DTT) (t : ITS) : ITS := fun k ρ fs => ∃ J : Nat → Rh → List (Str × D) → Prop, (∃ m, J m ρ fs) ∧ ∀ m ρ fs, J m ρ fs →
  tc (fz c fs ρ) fun b ρ1 => thawR ρ1 = true ∧ 0 < ρ1.length ∧ sw b (t (fun ρ' fs' => ∃ m', m' < m ∧ J m' ρ' fs') (ρ1.set 0 none) fs) (k (ρ1.set 0 none) fs)
theorem in_fld {e : Expr} {te' : TE} {te : DTE} {f : Str} {o : Str} {p1 pos pos' : Pos} (ho : DE X (.Name o p1) (tVar 0) (dVar 0)) (he : DE X e te' te) (ok : FldOk X.K X.mg c f)
    (hs : swapsWith e (some (.Attribute (.Name o p1) f pos')) pos.line X.env = pure false := by rfl) : DIn X c (.Assign [.Attribute (.Name o p1) f pos'] e pos) (sFld X.K (tVar 0) te' f) (iPut c f te) :=
  ⟨ps_fld ho.p he.p hs, fun W0 H0 W H σ ρ x C dx kvs fs k E I h q => by
    have I1 := I.freeze
    refine he.s W0 H0 _ H σ _ _ _ I1 h fun W2 H2 v r ρ2 I2 u2 R2 h2 => ?_
    obtain ⟨h3, h4, h5, h6, h7⟩ := h2
    obtain ⟨W3, I3, u3, r3⟩ := u2.settle I1 I2 R2
    obtain ⟨I4, th⟩ := I.thaw I3 u3 h3 h4
    obtain ⟨C', m, cl, na⟩ := ok.ex
    have e1 := I.cls.symm.trans m
    cases e1
    have rv := th r3 h5
    refine ⟨_, I.s0, x, C, dx, kvs, rfl, I4.hx, cl, na, by rw [I4.rel.len]; exact h6, ?_⟩
    have ns : ∀ (i : Nat) (ys : List D), ((frz r ρ2).set 0 none)[i]? = some (some (Sl.ow ys)) → σ[i]? ≠ some (some (V.ref x)) := fun i ys z s => by
      obtain ⟨b, us, p1, p2, _⟩ := I4.env.ow i ys z
      rw [s] at p1
      cases p1
      rw [I4.hx] at p2; cases p2
    refine q (W3.del x) _ σ _ _ _ ⟨I4.env.poke I4.fx I4.px I4.h0 ns _, I4.r0, I4.s0, upd_same, I4.fx, I4.px, I4.h0, I4.rel.put rv, I4.cls⟩ h7⟩
theorem in_set {i : Nat} {y : Str} {e : Expr} {te' : TE} {te : DTE} {pos pos' : Pos} (hN : X.N.Nodup) (hi : X.N[i + 1]? = some y) (hx : Loc X.env.scope y) (he : DE X e te' te) (hs : swapsWith e (some (.Name y pos')) pos.line X.env = pure false := by rfl) (hf : X.fn y = true ∨ X.env.scope.names.lookup y = some .local := by first | exact .inl rfl | exact .inr rfl | assumption) :
    DIn X c (.Assign [.Name y pos'] e pos) (tAsg te' (gName (i + 1))) (iLet c i te) :=
  ⟨ps_set hN hi hx he.p hs hf, fun W0 H0 W H σ ρ x C dx kvs fs k E I h q => by
    have I1 := I.freeze
    refine he.s W0 H0 _ H σ _ _ _ I1 h fun W2 H2 v r ρ2 I2 u2 R2 h2 => ?_
    obtain ⟨h3, h4, h5, h7⟩ := h2
    obtain ⟨W3, I3, u3, r3⟩ := u2.settle I1 I2 R2
    obtain ⟨I4, th⟩ := I.thaw I3 u3 h3 h4
    have rv := th r3 h5
    refine q (W3.del x) H2 _ _ _ _ ⟨I4.env.put_im (i + 1) rv, ?_, ?_, I4.hx, I4.fx, I4.px, I4.h0, I4.rel, I4.cls⟩ h7
    · rw [List.getElem?_set_ne (by omega)]; exact I4.r0
    · rw [List.getElem?_set_ne (by omega)]; exact I4.s0⟩
theorem in_while {cc : Expr} {body : List Stmt} {tc' : TT} {tc : DTT} {t' : TS} {t : ITS} {pos : Pos} (hp : PassesOwn (model X.prog X.w) X.A X.env X.xe) (hc : DT X cc tc' tc) (hb : DIns X c body t' t) : DIn X c (.While cc body [] pos) (tWhile tc' t') (iLoop c tc t) :=
  ⟨ps_while hp hc.p hb.p, fun W0 H0 W H σ ρ x C dx kvs fs k E I h q => by
    obtain ⟨J, ⟨m0, j0⟩, turn⟩ := h
    refine ⟨fun m σ H => ∃ W1 ρ1 kvs1 fs1, IOk (gm X) W0 H0 W1 H σ ρ1 x C dx kvs1 fs1 c ∧ J m ρ1 fs1, ⟨m0, W, ρ, kvs, fs, I, j0⟩, ?_⟩
    rintro m σ1 H1 ⟨W1, ρ1, kvs1, fs1, I1, j1⟩
    have If := I1.freeze
    refine hc.s W0 H0 _ H1 σ1 _ _ _ If (turn m ρ1 fs1 j1) fun W2 H2 b ρ2 I2 u2 h2 => ?_
    obtain ⟨h3, h4, h5⟩ := h2
    obtain ⟨I4, th⟩ := I1.thaw I2 u2 h3 h4
    cases b with
    | true =>
      replace h5 := h5.1 rfl; rw [if_pos rfl]
      refine ⟨fun σ' H' => ∃ m', m' < m ∧ ∃ W1 ρ1 kvs1 fs1, IOk (gm X) W0 H0 W1 H' σ' ρ1 x C dx kvs1 fs1 c ∧ J m' ρ1 fs1, fun _ _ z => z, ?_⟩
      exact hb.s W0 H0 _ H2 σ1 _ x C dx kvs1 fs1 _ _ I4 h5 fun W' H' σ' ρ' kvs' fs' I' ⟨m', lt, j⟩ => ⟨m', lt, W', ρ', kvs', fs', I', j⟩
    | false =>
      replace h5 := h5.2 rfl; rw [if_neg Bool.false_ne_true]
      exact q _ H2 σ1 _ kvs1 fs1 I4 h5⟩
end
def startI (N : List Str) (ds : List D) : Rh := none :: (ds.map (fun d => some (.im d)) ++ List.replicate (N.length - (ds.length + 1)) none)
section
variable {P : Program} {w : World} {K : PySem.W.Frag} {mg : Str → Option Value} {base : Heap}
theorem ok_init {c x qual : Str} {C : Addr} {params : Arguments} {body : List Stmt} {scope : Scope} {f : Addr} {fd : FuncData} {N ps : List Str} {k : Nat} {S : DSp} {t : ITS} (hC : mg c = some (.ref C)) (F : FunD K x qual params body scope [] [] f fd) (sc : FnScope N ps scope) (len : ∀ ds P, S ds P → ds.length + 1 = ps.length)
    (hbody : ∀ (cdv : Value) (A : Around) (outer : List Env) (s : Shared) (H : Hp) (E : XK), Room k (A.deeper (envOfC qual scope s.heap.objs.size f cdv)) → ∃ t', DIns (cxOf CX0 P w K mg base N qual scope f cdv A outer s H E).nox c body t' t)
    (ht : ∀ ds P, S ds P → t (fun ρ fs => P (.im (.obj c fs))) (startI N ds) []) : FnOk P w K mg base CX0 (k + 1) f fd ps (spInit ⟨mg, K⟩ C S) := by
  refine F.ok sc (fun vs H Q E h => ?_) (fun cdv A outer s H vs Q E hr h => ?_)
  · obtain ⟨W, Hb, ds, PP, y, dx, us, rfl, _, _, _, _, _, r, hS, _⟩ := h
    rw [List.length_cons, r.length]; exact len ds PP hS
  · obtain ⟨W, Hb, ds, PP, y, dx, us, rfl, hy, hdx, hne, rfl, wk, r, hS, q⟩ := h
    obtain ⟨t', h⟩ := hbody cdv A outer s _ E hr
    refine ⟨t', h.p.nox, ?_⟩
    have hl := r.length
    have w1 : WOk W (upd Hb dx (.own y)) := wk.new hdx _
    have e1 : Ext W Hb W (upd Hb dx (.own y)) := new_ext wk hdx _
    have hy1 : (upd Hb dx (.own y)) y = none := by rw [upd_ne (Ne.symm hne)]; exact hy
    have w2 : WOk W (upd (upd Hb dx (.own y)) y (.ins C dx [])) := w1.new hy1 _
    have e2 := e1.trans (new_ext w1 hy1 (.ins C dx []))
    have env : EnvOk (⟨mg, K⟩ : Gm) W Hb W (upd (upd Hb dx (.own y)) y (.ins C dx [])) (L2.start N (.ref y :: us)) (startI N ds) := by
      refine ⟨w2, e2, by unfold L2.start startI; simp [hl], fun i d q => ?_, fun i xs q => ?_, fun i j xs ys a hi => ?_⟩
      · cases i with
        | zero => cases q
        | succ i =>
          unfold startI at q
          rw [List.getElem?_cons_succ] at q
          by_cases h : i < ds.length
          · rw [List.getElem?_append_left (by simpa using h), List.getElem?_map] at q
            cases e : ds[i]? with
            | none => rw [e] at q; cases q
            | some d2 =>
              rw [e] at q
              cases q
              obtain ⟨v, h1, h2⟩ := r.get e
              refine ⟨v, ?_, h2⟩
              unfold L2.start
              rw [List.map_cons, List.cons_append, List.getElem?_cons_succ, List.getElem?_append_left (by rw [List.length_map, hl]; exact h), List.getElem?_map, h1]
              rfl
          · rw [List.getElem?_append_right (by simpa using h), List.getElem?_replicate] at q
            split at q <;> cases q
      · cases i with
        | zero => cases q
        | succ i =>
          unfold startI at q
          rw [List.getElem?_cons_succ] at q
          by_cases h : i < ds.length
          · rw [List.getElem?_append_left (by simpa using h), List.getElem?_map] at q
            cases e : ds[i]? with
            | none => rw [e] at q; cases q
            | some d2 => rw [e] at q; cases q
          · rw [List.getElem?_append_right (by simpa using h), List.getElem?_replicate] at q
            split at q <;> cases q
      · cases i with
        | zero => cases hi
        | succ i =>
          unfold startI at hi
          rw [List.getElem?_cons_succ] at hi
          by_cases h : i < ds.length
          · rw [List.getElem?_append_left (by simpa using h), List.getElem?_map] at hi
            cases e : ds[i]? with
            | none => rw [e] at hi; cases hi
            | some d2 => rw [e] at hi; cases hi
          · rw [List.getElem?_append_right (by simpa using h), List.getElem?_replicate] at hi
            split at hi <;> cases hi
    refine h.s W Hb W _ _ _ y C dx [] [] _ _ ⟨env, rfl, rfl, upd_same, wk.free hy, wk.notP_new hy, hy, .nil, hC⟩ (ht ds PP hS) fun W' H' σ' ρ' kvs' fs' I' p => ?_
    have up : Up W' H' (W'.add y (.ins C dx kvs')) H' := freeze_up I'.fx _
    refine q (W'.add y (.ins C dx kvs')) H' (.im (.obj c fs')) (I'.env.wok.freeze I'.hx I'.px) ⟨I'.env.ext.toUp.trans up, fun b o z n => ?_⟩ (Rel.obj upd_same hC (RelA.mono up.le I'.rel)) p
    by_cases e : b = y
    · subst e; exact hy
    · have z2 : upd W'.F y (.ins C dx kvs') b = some o := z
      rw [upd_ne e] at z2
      exact I'.env.ext.new b o z2 n
end
end DL
namespace DL
open PySem PySem.Spec PyProof.Rows L2
def pairsD : List D → Option (List (Key × D))
  | [] => some []
  | .tup [.int i, e] :: r => (pairsD r).map ((.inl i, e) :: ·)
  | .tup [.str x, e] :: r => (pairsD r).map ((.inr x, e) :: ·)
  | _ => none
section
variable {X : Cx} {mg : Gm} {W W' : Wd} {H H' : Hp}
theorem pairsD_rel {K : PySem.W.Frag} (w : WOk W H) : ∀ {vs : List V} {ds : List D} {es : List (Key × D)}, RelL mg W vs ds → pairsD ds = some es →
    ∃ (ps : List Addr) (kvs : List (Key × V)), vs = ps.map V.ref ∧ Paired (fun p kv => SqT K H p [kV kv.1, kv.2]) ps kvs ∧ RelK mg W kvs es
  | _, _, _, .nil, h => by cases h; exact ⟨[], [], rfl, .nil, .nil⟩
  | _, _, es, .cons (d := d) (ds := ds) a t, h => by
    unfold pairsD at h
    split at h
    · rename_i heq; cases heq
    · rename_i i e r heq
      cases heq
      cases q : pairsD ds with
      | none => rw [q] at h; cases h
      | some fs =>
        rw [q] at h
        cases h
        obtain ⟨ps, kvs, h1, h2, h3⟩ := pairsD_rel (K := K) w t q
        cases a with
        | tup f l =>
          cases l with
          | cons l1 l2 =>
            cases l2 with
            | cons l2 l3 =>
              cases l3
              cases l1
              exact ⟨_ :: ps, (.inl i, _) :: kvs, by rw [h1]; rfl, .cons (SqT.of (w.sub _ _ f)) h2, .cons l2 h3⟩
    · rename_i i e r heq
      cases heq
      cases q : pairsD ds with
      | none => rw [q] at h; cases h
      | some fs =>
        rw [q] at h
        cases h
        obtain ⟨ps, kvs, h1, h2, h3⟩ := pairsD_rel (K := K) w t q
        cases a with
        | tup f l =>
          cases l with
          | cons l1 l2 =>
            cases l2 with
            | cons l2 l3 =>
              cases l3
              cases l1
              exact ⟨_ :: ps, (.inr i, _) :: kvs, by rw [h1]; rfl, .cons (SqT.of (w.sub _ _ f)) h2, .cons l2 h3⟩
    · cases h
def oDictOf : List D → (R → Prop) → Prop := fun ds P => match ds with
  | [.lst xs] => ∃ es, pairsD xs = some es ∧ P (.im (.dic (mergeD [] es)))
  | _ => False
def rDictOf (K : PySem.W.Frag) : List V → Hp → VK → Prop := fun xs H Q => ∃ (a : Addr) (ps : List Addr) (kvs : List (Key × V)), xs = [.ref a] ∧ SqL K H a (ps.map V.ref) ∧ Paired (fun p kv => SqT K H p [kV kv.1, kv.2]) ps kvs ∧
    ∀ p, H p = none → Q (.ref p) (upd H p (.dK (mergeK [] kvs)))
theorem dc_dict0 (hc : X.calm = true) : DC X (.type "dict") (rDictOf X.K) oDictOf := ⟨call_dictP hc, fun W H xs ds P Q w a o k => by
  unfold oDictOf at o
  split at o
  · obtain ⟨es, e, o⟩ := o
    obtain ⟨v, rfl, a1⟩ := a.one
    obtain ⟨p, vs, rfl, h1, n1, r1⟩ := a1.lst w
    obtain ⟨ps, kvs, rfl, h2, h3⟩ := pairsD_rel (K := X.K) w r1 e
    refine ⟨p, ps, kvs, rfl, SqL.of h1, h2, fun q hq => ?_⟩
    obtain ⟨k1, k2, k3⟩ := rf_dic w hq (h3.merge .nil)
    exact k _ _ _ (.im _) k1 k2 k3 o
  · exact o.elim⟩
theorem dc_dict (hc : X.calm = true) {K : PySem.W.Frag} (hK : X.K = K := by rfl) : DC X (.type "dict") (rDictOf K) oDictOf := by subst hK; exact dc_dict0 hc
end
def cbody : Stmt → List Stmt
  | .ClassDef _ _ _ b _ _ _ _ _ _ _ => b
  | _ => []
end DL
namespace DL
open PySem PySem.Spec PyProof.Rows L2
structure FnG (P : Program) (w : World) (K : PySem.W.Frag) (mg : Str → Option Value) (base : Heap) (CX : CXT) (k : Nat) (f : Addr) (fd : FuncData) (ps : List Str) (sp : Sp) : Prop where
  many : ∀ vs H Q E, sp vs H Q E → vs.length = ps.length
  go : ∀ (A : Around) (outer : List Env) (s : Shared) (H : Hp) (args : Args) (us : List Value) (vs : List V) (Q : VK) (E : XK), A.guards = some [] → Room k A → Env0 P w K mg base A outer s H → BindsTo s fd args (ps.zip us) → Vals vs us → sp vs H Q E →
    codeAny (model P w) A (.call (.ref f) args) (CR CX outer P w H s Q E) s
section
variable {P : Program} {w : World} {K : PySem.W.Frag} {mg : Str → Option Value} {base : Heap} {CX : CXT} {k : Nat} {f : Addr} {fd : FuncData} {ps : List Str} {sp : Sp}
theorem FnG.of (F : FnOk P w K mg base CX k f fd ps sp) : FnG P w K mg base CX k f fd ps sp := ⟨F.len, fun A outer s H args us vs Q E _ => F.run A outer s H args us vs Q E⟩
theorem FnG.mono {j : Nat} (F : FnG P w K mg base CX j f fd ps sp) (h : j ≤ k) : FnG P w K mg base CX k f fd ps sp := ⟨F.many, fun A outer s H args us vs Q E g r => F.go A outer s H args us vs Q E g (r.mono h)⟩
theorem okG {x qual : Str} {params : Arguments} {body : List Stmt} {scope : Scope} {dvs : List V} {kws : List (Str × V)} {N : List Str} (F : FunD K x qual params body scope dvs kws f fd) (sc : FnScope N ps scope) (many : ∀ vs H Q E, sp vs H Q E → vs.length = ps.length)
    (reading : ∀ (cdv : Value) (A : Around) (outer : List Env) (s : Shared) (H : Hp) (vs : List V) (Q : VK) (E : XK), A.guards = some [] → Room k (A.deeper (envOfC qual scope s.heap.objs.size f cdv)) → sp vs H Q E →
      ∃ t, PSs (cxOf CX P w K mg base N qual scope f cdv A outer s H E) body t ∧ t { nx := fun _ H' => Q .non H', rt := Q } (L2.start N vs) H) : FnG P w K mg base CX (k + 1) f fd ps sp := by
  obtain ⟨oc, od, dV, kV, doc, pm, an, cdv, ct, osl, rfl, found, code, _, _⟩ := F.ex
  refine ⟨many, fun A outer s H args us vs Q E grd room env bound vals want => ?_⟩
  have same : ∀ b o, base.get? b = some o → s.heap.get? b = some o := fun b o e => (env.bs b o e).1
  have inK := env.mod.kin.keeps same
  have free := env.mod.nolimit.keeps same
  refine codeAny_call_function room.depth (inK _ _ found) rfl sc.co sc.gen rfl (PySem.W.codeRec_of inK code) (bound _ _ _ _ ?_)
  refine wpAny_newFunctionEnv_cells sc.kind (fun ⟨n, v⟩ hy => (sc.par n (List.of_mem_zip hy).1).imp id fun q => ⟨q, PySem.W.cellsFrom_some _ _ _ (.inl q)⟩) fun e0 he s1 x => ?_
  cases he
  obtain ⟨t, ht, hq⟩ := reading cdv A outer s H vs Q E grd (room.deeper _) want
  have I := inv_start (CX := CX) (E := E) sc room.hd env (many _ _ _ _ want) vals x
  refine ⟨free.keeps x.toInCall.keep, codeAny_func (wpAny_mono (ht.run [] s1 (L2.start N vs) H _ I hq) (fun fl s' hs => ?_) fun _ _ z => z)⟩
  cases fl with
  | ret u =>
    obtain ⟨v, σ', H', J, rv, q⟩ := hs
    exact ⟨v, H', J.os, J.bare, J.base, J.hok, rv, q⟩
  | next =>
    obtain ⟨σ', H', J, q⟩ := hs
    exact ⟨V.non, H', J.os, J.bare, J.base, J.hok, rfl, q⟩
  | brk => exact hs.elim fun _ z => z.elim fun _ z => z.2.elim
  | cont => exact hs.elim fun _ z => z.elim fun _ z => z.2.elim
end
section
variable {X : Cx} {k : Nat} {f : Addr} {fd : FuncData} {ps : List Str} {S : DSp} {x : Str} {p pos : Pos} {e : Expr} {es : List Expr} {t' : TA} {t : DTA}
end

section
variable {P : Program} {w : World} {K : PySem.W.Frag} {mg : Str → Option Value} {base : Heap}
theorem ok_lawG {x qual : Str} {st : Stmt} {f : Addr} {fd : FuncData} {N : List Str} {k : Nat} {t : DTS} (F : FunD K x qual (defArgs st) (defBody st) (defScope st) [] [] f fd) (sc : FnScope N ["_law_script"] (defScope st)) (hN : 2 ≤ N.length)
    (body : ∀ (cdv : Value) (A : Around) (outer : List Env) (s : Shared) (H : Hp) (E : XK), A.guards = some [] → Room k (A.deeper (envOfC qual (defScope st) s.heap.objs.size f cdv)) → ∃ t', PSs (cxOf CX0 P w K mg base N qual (defScope st) f cdv A outer s H E).nox (defBody st) (tSeq (tPurseCall K) t') ∧ SS ⟨mg, K⟩ t' t)
    (ht : ∀ ns : List Int, ns.length ≤ 63 → runD t (fun r => r = .im (.bl true)) (lawRho N ns)) : FnG P w K mg base CX0 (k + 1) f fd ["_law_script"] (spLaw K) := by
  refine okG F sc (fun vs H Q E h => by obtain ⟨a, ns, rfl, _⟩ := h; rfl) (fun cdv A outer s H vs Q E hg hr h => ?_)
  obtain ⟨t', h1, h2⟩ := body cdv A outer s H E hg hr
  exact ⟨_, h1.nox, law_run hN h2 ht h⟩
end
theorem topcallG {P : Program} {w : World} {K : PySem.W.Frag} {mg mb : Str → Option Value} {k : Nat} {fa a : Addr} {fd : FuncData} {x : Str} {sp : Sp} {S : Shared} {vs : List Value} {ns : List Int}
    (inK : K.In S.heap) (names : S.heap.Ns mainGlobals mg) (bn : S.heap.Ns builtinsNs mb) (bb : ∀ x : Str, x ≠ "__name__" → mb x = bootBuiltins x) (free : S.heap.NoLimit) (bare : S.gens = #[])
    (scr : S.heap.get? a = some { cls := .type "list", data := .seq vs.toArray }) (its : IntsAre vs ns) (few : ns.length ≤ sizeLine) (room : Room k callerA)
    (F : ∀ base : Heap, K.In base → base.Ns mainGlobals mg → FnG P w K mg base CX0 k fa fd [x] sp) (bound : ∀ (s : Shared) (u : Value), BindsTo s fd ⟨[u], []⟩ [(x, u)])
    (want : ∀ H : Hp, Only H → SqL K H a (ns.map V.int) → sp [.ref a] H (fun v _ => v = .bl true) fun _ _ _ => False) :
    codeAny (model P w) callerA (.call (.ref fa) ⟨[.ref a], []⟩) (fun r s' => r = .ok (.ret (.bool true)) ∧ OldK S.heap s'.heap ∧ s'.os = S.os ∧ AllBare s'.gens) S := by
  have rel := vals_ints its
  have many := its.length
  have run : ∀ H : Hp, Only H → SqL K H a (ns.map V.int) → HOk P w H S.heap → (∀ b, H b ≠ none → b = a) → (H a ≠ none → K.lookup a = none) →
      codeAny (model P w) callerA (.call (.ref fa) ⟨[.ref a], []⟩) (fun r s' => r = .ok (.ret (.bool true)) ∧ OldK S.heap s'.heap ∧ s'.os = S.os ∧ AllBare s'.gens) S := fun H only lst ok one kept => by
    have off : ∀ {b : Addr}, b ≠ a → H b = none := fun {b} n => Classical.byContradiction fun z => n (one b z)
    have still : ∀ {b : Addr} {m : Str → Option Value}, S.heap.Ns b m → (hidT S.heap H).Ns b m := fun {b m} ⟨o, es, ep, e, d, r⟩ => ⟨o, es, ep, hidT_get e (off fun z => by
      subst z
      rw [scr] at e
      cases e
      have d2 : Data.seq vs.toArray _ = Data.dict es ep := d
      cases d2), d, r⟩
    have inB : K.In (hidT S.heap H) := fun b o e => hidT_get (inK b o e) (Classical.byContradiction fun z => by
      have e2 := one b z
      subst e2
      rw [kept z] at e
      cases e)
    obtain ⟨mc, c1, c2⟩ := free
    have env : Env0 P w K mg (hidT S.heap H) callerA [] S H := ⟨rfl, ⟨inB, still names, ⟨mb, still bn, bb⟩, mc, still c1, c2⟩, fun b o e => of_hidT e, Nat.le_of_eq (hidT_size _ _), trivial, (fun b hb => nomatch hb), ok, .of_eq bare⟩
    refine codeAny_mono ((F _ inB (still names)).go callerA [] S H ⟨[.ref a], []⟩ [.ref a] [.ref a] _ _ rfl room env (bound S (.ref a)) (.cons rfl .nil) (want H only lst)) fun r s' h => ?_
    match r, h with
    | .error e, h => exact h.elim
    | .ok .next, h => exact h.elim
    | .ok .brk, h => exact h.elim
    | .ok .cont, h => exact h.elim
    | .ok (.ret u), ⟨v, H', os, br, un, ok2, rv, (q : v = .bl true)⟩ =>
      subst q
      have eu : u = Value.bool true := rv
      subst eu
      refine ⟨rfl, OldK.of_keep fun b o e => ?_, os, br⟩
      rcases only b with z | ⟨ob, xs, z⟩
      · exact un.keep b o e z (fun m => nomatch m) (by simp)
      · have z2 := un.frzs b ob _ z
        have e1 := (ok b _ z).1
        rw [e] at e1
        cases e1
        exact (ok2 b _ z2).1
  cases hk : K.lookup a with
  | some o =>
    have e := inK a o hk
    rw [scr] at e
    cases e
    exact run (fun _ => none) (fun _ => .inl rfl) (.inr ⟨_, vs.toArray, _, hk, rfl, rfl, rfl, by rw [List.size_toArray, many]; exact few, by simpa using rel⟩) (fun b u z => nomatch z) (fun b z => absurd rfl z) fun z => absurd rfl z
  | none =>
    let H1 : Hp := fun b => if b = a then some (.frz { cls := .type "list", data := .seq vs.toArray } (.lst (ns.map V.int))) else none
    have at1 : H1 a = some (.frz { cls := .type "list", data := .seq vs.toArray } (.lst (ns.map V.int))) := if_pos rfl
    have at2 : ∀ {b}, b ≠ a → H1 b = none := fun n => if_neg n
    refine run H1 (fun b => ?_) (.inl (.inr ⟨_, at1⟩)) (fun b u z => ?_) (fun b z => Classical.byContradiction fun n => z (at2 n)) fun _ => hk
    · by_cases e : b = a
      · exact .inr ⟨_, _, if_pos e⟩
      · exact .inl (at2 e)
    · by_cases e : b = a
      · subst e
        rw [at1] at z
        cases z
        exact ⟨scr, by rw [List.length_map]; exact few, vs, _, rel, scr⟩
      · rw [at2 e] at z
        cases z
theorem walkG {l : PySem.W.OpenLaw} {n k : Nat} {q : Program} {loose : List Str} {XP : (Str → Option Value) → Heap → Prop} {YP : World → Heap → Prop} {d : DefRec} {x : Str}
    (hn : l.most = some n) (hn2 : n ≤ sizeLine) (hdf : d.params.defaults = []) (room : Room k callerA)
    (F : ∀ (w : World) (mg : Str → Option Value) (fa : Addr) (h : Heap), YP w h → h.Ns mainGlobals mg → mg d.name = some (.ref fa) →
      ∃ (K : PySem.W.Frag) (fd : FuncData) (sp : Sp), K.In h ∧ (∀ (s : Shared) (u : Value), BindsTo s fd ⟨[u], []⟩ [(x, u)]) ∧
        (∀ (H : Hp) (a : Addr) (ns : List Int), ns.length ≤ n → Only H → SqL K H a (ns.map V.int) → sp [.ref a] H (fun v _ => v = .bl true) fun _ _ _ => False) ∧
        ∀ base : Heap, K.In base → base.Ns mainGlobals mg → FnG l.prog w K mg base CX0 k fa fd [x] sp) :
    PySem.W.WalkO q loose XP YP l.row.toRowW d [] (fun f vs => PySem.call f vs) :=
  Att.attach_call hn hdf fun w s0 S mg mb fa o pm cd doc a vs ns G Y ho hd hcd hmg scr its few bare => by
    obtain ⟨K, fd, sp, inK, bound, want, hF⟩ := F w mg fa _ Y G.T.g hmg
    exact topcallG inK G.T.g G.T.b G.T.builtins G.T.nolimit bare scr its (Nat.le_trans few hn2) room hF bound fun H hO hS => want H a ns few hO hS
end DL
namespace DL
open PySem PySem.Spec PyProof.Rows L2
theorem nodup_len {α : Type} [DecidableEq α] : ∀ (l m : List α), l.Nodup → (∀ x, x ∈ l → x ∈ m) → l.length ≤ m.length
  | [], _, _, _ => Nat.zero_le _
  | x :: l, m, nd, h => by
    obtain ⟨n1, n2⟩ := List.nodup_cons.mp nd
    have hx := h x (List.mem_cons_self ..)
    have ih := nodup_len l (m.erase x) n2 fun y hy => (List.mem_erase_of_ne fun e => n1 (by rw [e] at hy; exact hy)).mpr (h y (List.mem_cons_of_mem _ hy))
    rw [List.length_erase_of_mem hx] at ih
    have := List.length_pos_of_mem hx
    rw [List.length_cons]; omega
section
variable {P : Program} {w : World} {A : Around} {E : Value → Shared → Prop} {s : Shared}
end
section
variable {X : Cx} {mg : Gm} {W W' : Wd} {H H' : Hp} {v x y : V}
end
end DL
namespace DL
open PySem PySem.Spec PyProof.Rows L2
end DL
namespace DL
open PySem PySem.Spec PyProof.Rows L2
end DL
namespace FM
def sm (n : Nat) (f : Nat → Int) : Int := match n with
  | 0 => 0
  | n + 1 => sm n f + f n
theorem sm_congr {n : Nat} {f g : Nat → Int} (h : ∀ k, k < n → f k = g k) : sm n f = sm n g := by
  induction n with
  | zero => rfl
  | succ n ih => unfold sm; rw [ih fun k hk => h k (by omega), h n (by omega)]
theorem sm_add (n : Nat) (f g : Nat → Int) : sm n (fun k => f k + g k) = sm n f + sm n g := by
  induction n with
  | zero => rfl
  | succ n ih => unfold sm; rw [ih]; omega
theorem sm_mul (n : Nat) (c : Int) (f : Nat → Int) : sm n (fun k => c * f k) = c * sm n f := by
  induction n with
  | zero => unfold sm; omega
  | succ n ih => unfold sm; rw [ih, Int.mul_add]
theorem sm_zero (n : Nat) : sm n (fun _ => 0) = 0 := by
  induction n with
  | zero => rfl
  | succ n ih => unfold sm; rw [ih]; rfl
theorem sm_swap (n m : Nat) (f : Nat → Nat → Int) : sm n (fun i => sm m fun j => f i j) = sm m fun j => sm n fun i => f i j := by
  induction n with
  | zero => exact (sm_zero m).symm
  | succ n ih =>
    show sm n (fun i => sm m fun j => f i j) + sm m (fun j => f n j) = sm m fun j => sm n (fun i => f i j) + f n j
    rw [ih, ← sm_add]
theorem sm_one (n i : Nat) (h : i < n) (f : Nat → Int) (hz : ∀ k, k < n → k ≠ i → f k = 0) : sm n f = f i := by
  induction n with
  | zero => omega
  | succ n ih =>
    unfold sm
    by_cases e : i = n
    · subst e
      rw [sm_congr (g := fun _ => 0) fun k hk => hz k (by omega) (by omega), sm_zero]
      omega
    · rw [ih (by omega) fun k hk => hz k (by omega), hz n (by omega) (by omega)]
      omega
theorem sm_head (n : Nat) (f : Nat → Int) : sm (n + 1) f = f 0 + sm n fun k => f (k + 1) := by
  induction n with
  | zero => unfold sm; unfold sm; omega
  | succ n ih =>
    show sm (n + 1) f + f (n + 1) = f 0 + (sm n (fun k => f (k + 1)) + f (n + 1))
    rw [ih]; omega
theorem sm_dvd (p : Int) (n : Nat) (f g : Nat → Int) (h : ∀ k, k < n → p ∣ f k - g k) : p ∣ sm n f - sm n g := by
  induction n with
  | zero => exact ⟨0, by unfold sm; omega⟩
  | succ n ih =>
    have a := ih fun k hk => h k (by omega)
    have b := h n (by omega)
    have e : sm (n + 1) f - sm (n + 1) g = (sm n f - sm n g) + (f n - g n) := by
      show sm n f + f n - (sm n g + g n) = _
      omega
    rw [e]; exact Int.dvd_add a b

section
variable (m : Nat) (t : Nat → Int)
def L (f : Nat → Int) : Nat → Int := fun k => (if k = 0 then 0 else f (k - 1)) + f (m - 1) * t k
def E : Nat → Nat → Int
  | 0 => fun k => if k = 0 then 1 else 0
  | n + 1 => L m t (E n)
def pr (a b : Nat → Int) : Nat → Int := fun k => sm m fun i => sm m fun j => a i * b j * E m t (i + j) k
end
section
variable {m : Nat} {t : Nat → Int}
theorem L_add (f g : Nat → Int) (k : Nat) : L m t (fun k => f k + g k) k = L m t f k + L m t g k := by
  show (if k = 0 then 0 else f (k - 1) + g (k - 1)) + (f (m - 1) + g (m - 1)) * t k = ((if k = 0 then 0 else f (k - 1)) + f (m - 1) * t k) + ((if k = 0 then 0 else g (k - 1)) + g (m - 1) * t k)
  rw [Int.add_mul]
  by_cases h : k = 0
  · rw [if_pos h, if_pos h, if_pos h]; omega
  · rw [if_neg h, if_neg h, if_neg h]; omega
theorem L_mul (c : Int) (f : Nat → Int) (k : Nat) : L m t (fun k => c * f k) k = c * L m t f k := by
  show (if k = 0 then 0 else c * f (k - 1)) + c * f (m - 1) * t k = c * ((if k = 0 then 0 else f (k - 1)) + f (m - 1) * t k)
  rw [Int.mul_add, Int.mul_assoc]
  by_cases h : k = 0
  · rw [if_pos h, if_pos h]; omega
  · rw [if_neg h, if_neg h]
theorem L_sm (n : Nat) (F : Nat → Nat → Int) (k : Nat) : L m t (fun k => sm n fun i => F i k) k = sm n fun i => L m t (F i) k := by
  induction n with
  | zero =>
    show (if k = 0 then 0 else 0) + 0 * t k = (0 : Int)
    split <;> omega
  | succ n ih =>
    show L m t (fun k => sm n (fun i => F i k) + F n k) k = sm n (fun i => L m t (F i) k) + L m t (F n) k
    rw [L_add, ih]
theorem L_congr {f g : Nat → Int} (hm : 0 < m) (h : ∀ k, k < m → f k = g k) (k : Nat) (hk : k < m) : L m t f k = L m t g k := by
  unfold L
  rw [h (m - 1) (by omega)]
  by_cases e : k = 0
  · rw [if_pos e, if_pos e]
  · rw [if_neg e, if_neg e, h (k - 1) (by omega)]
theorem E_low (n : Nat) (h : n < m) (k : Nat) (hk : k < m) : E m t n k = if k = n then 1 else 0 := by
  induction n generalizing k with
  | zero => rfl
  | succ n ih =>
    show L m t (E m t n) k = _
    unfold L
    rw [ih (by omega) (m - 1) (by omega), if_neg (show ¬ m - 1 = n by omega), Int.zero_mul, Int.add_zero]
    by_cases e : k = 0
    · rw [if_pos e, if_neg (by omega)]
    · rw [if_neg e, ih (by omega) (k - 1) (by omega)]
      by_cases e2 : k = n + 1
      · rw [if_pos (by omega), if_pos e2]
      · rw [if_neg (by omega), if_neg e2]
theorem E_m (hm : 0 < m) (k : Nat) (hk : k < m) : E m t m k = t k := by
  obtain ⟨n, rfl⟩ : ∃ n, m = n + 1 := ⟨m - 1, by omega⟩
  show L (n + 1) t (E (n + 1) t n) k = t k
  unfold L
  rw [E_low n (by omega) (n + 1 - 1) (by omega), if_pos (show n + 1 - 1 = n by omega), Int.one_mul]
  by_cases e : k = 0
  · rw [if_pos e, Int.zero_add]
  · rw [if_neg e, E_low n (by omega) (k - 1) (by omega), if_neg (by omega), Int.zero_add]
theorem E_rec (hm : 0 < m) (n k : Nat) (hk : k < m) : E m t (m + n) k = sm m fun i => t i * E m t (i + n) k := by
  induction n generalizing k with
  | zero =>
    rw [Nat.add_zero, E_m hm k hk]
    rw [sm_one m k hk]
    · rw [Nat.add_zero, E_low k hk k hk, if_pos rfl, Int.mul_one]
    · intro i hi hne
      rw [Nat.add_zero, E_low i hi k hk, if_neg (by omega), Int.mul_zero]
  | succ n ih =>
    show L m t (E m t (m + n)) k = _
    rw [L_congr hm (g := fun k => sm m fun i => t i * E m t (i + n) k) (fun k hk => ih k hk) k hk, L_sm]
    exact sm_congr fun i _ => L_mul _ _ _
def G (m : Nat) (t : Nat → Int) (c : Nat → Int) (n : Nat) : Nat → Int := fun k => sm m fun l => c l * E m t (n + l) k
theorem G_succ (c : Nat → Int) (n k : Nat) : G m t c (n + 1) k = L m t (G m t c n) k := by
  unfold G
  rw [L_sm]
  refine sm_congr fun l _ => ?_
  rw [L_mul]
  rw [show n + 1 + l = n + l + 1 by omega]
  rfl
theorem G_m (hm : 0 < m) (c : Nat → Int) (n k : Nat) (hk : k < m) : G m t c (m + n) k = sm m fun i => t i * G m t c (i + n) k := by
  unfold G
  rw [sm_congr (g := fun l => sm m fun i => t i * (c l * E m t (i + n + l) k))]
  · rw [sm_swap]
    exact sm_congr fun i _ => sm_mul m (t i) _
  · intro l _
    rw [show m + n + l = m + (n + l) by omega, E_rec hm (n + l) k hk, ← sm_mul]
    refine sm_congr fun i _ => ?_
    rw [show i + (n + l) = i + n + l by omega, ← Int.mul_assoc, ← Int.mul_assoc, Int.mul_comm (c l)]
theorem pr_G (a b : Nat → Int) (k : Nat) : pr m t a b k = sm m fun i => a i * G m t b i k := by
  unfold pr G
  refine sm_congr fun i _ => ?_
  rw [← sm_mul]
  exact sm_congr fun j _ => Int.mul_assoc _ _ _
theorem pr_L (hm : 0 < m) (a b : Nat → Int) (k : Nat) (hk : k < m) : pr m t (L m t a) b k = L m t (pr m t a b) k := by
  have e1 : L m t (pr m t a b) k = sm m fun i => a i * G m t b (i + 1) k := by
    rw [L_congr hm (g := fun k => sm m fun i => a i * G m t b i k) (fun k _ => pr_G a b k) k hk, L_sm]
    refine sm_congr fun i _ => ?_
    rw [L_mul, G_succ]
  rw [e1, pr_G]
  obtain ⟨n, rfl⟩ : ∃ n, m = n + 1 := ⟨m - 1, by omega⟩
  have e2 : sm (n + 1) (fun i => L (n + 1) t a i * G (n + 1) t b i k) = sm (n + 1) (fun i => (if i = 0 then 0 else a (i - 1)) * G (n + 1) t b i k) + a n * sm (n + 1) (fun i => t i * G (n + 1) t b i k) := by
    rw [← sm_mul, ← sm_add]
    refine sm_congr fun i _ => ?_
    show ((if i = 0 then 0 else a (i - 1)) + a (n + 1 - 1) * t i) * _ = _
    rw [Int.add_mul, Nat.add_sub_cancel, Int.mul_assoc]
  have e3 := G_m (t := t) hm b 0 k hk
  simp only [Nat.add_zero] at e3
  rw [e2, ← e3, sm_head]
  show (if (0 : Nat) = 0 then (0 : Int) else a (0 - 1)) * _ + sm n (fun i => (if i + 1 = 0 then 0 else a (i + 1 - 1)) * G (n + 1) t b (i + 1) k) + _ = sm n (fun i => a i * G (n + 1) t b (i + 1) k) + a n * G (n + 1) t b (n + 1) k
  rw [if_pos rfl, Int.zero_mul, Int.zero_add]
  rw [sm_congr (n := n) (g := fun i => a i * G (n + 1) t b (i + 1) k) fun i _ => by rw [if_neg (by omega), Nat.add_sub_cancel]]
theorem pr_congr {a a' b b' : Nat → Int} (ha : ∀ k, k < m → a k = a' k) (hb : ∀ k, k < m → b k = b' k) (k : Nat) : pr m t a b k = pr m t a' b' k := by
  unfold pr
  refine sm_congr fun i hi => sm_congr fun j hj => ?_
  rw [ha i hi, hb j hj]
theorem pr_comm (a b : Nat → Int) (k : Nat) : pr m t a b k = pr m t b a k := by
  unfold pr
  rw [sm_swap]
  refine sm_congr fun i _ => sm_congr fun j _ => ?_
  rw [Nat.add_comm j i, Int.mul_comm (a j)]
theorem pr_add (a b c : Nat → Int) (k : Nat) : pr m t a (fun k => b k + c k) k = pr m t a b k + pr m t a c k := by
  unfold pr
  rw [← sm_add]
  refine sm_congr fun i _ => ?_
  rw [← sm_add]
  refine sm_congr fun j _ => ?_
  rw [Int.mul_add, Int.add_mul]
theorem pr_mul (c : Int) (a b : Nat → Int) (k : Nat) : pr m t a (fun k => c * b k) k = c * pr m t a b k := by
  unfold pr
  rw [← sm_mul]
  refine sm_congr fun i _ => ?_
  rw [← sm_mul]
  refine sm_congr fun j _ => ?_
  rw [← Int.mul_assoc, ← Int.mul_assoc, ← Int.mul_assoc, Int.mul_comm (a i) c]
theorem pr_sm (n : Nat) (a : Nat → Int) (F : Nat → Nat → Int) (k : Nat) : pr m t a (fun k => sm n fun i => F i k) k = sm n fun i => pr m t a (F i) k := by
  induction n with
  | zero =>
    show pr m t a (fun _ => 0) k = 0
    unfold pr
    rw [sm_congr (g := fun _ => 0), sm_zero]
    intro i _
    rw [sm_congr (g := fun _ => 0), sm_zero]
    intro j _
    rw [Int.mul_zero, Int.zero_mul]
  | succ n ih =>
    show pr m t a (fun k => sm n (fun i => F i k) + F n k) k = sm n (fun i => pr m t a (F i) k) + pr m t a (F n) k
    rw [pr_add, ih]
theorem pr_E (hm : 0 < m) (n : Nat) (b : Nat → Int) (k : Nat) (hk : k < m) : pr m t (E m t n) b k = G m t b n k := by
  induction n generalizing k with
  | zero =>
    rw [pr_G, sm_one m 0 hm]
    · show (if (0 : Nat) = 0 then (1 : Int) else 0) * _ = _
      rw [if_pos rfl, Int.one_mul]
    · intro i hi hne
      show (if i = 0 then (1 : Int) else 0) * _ = _
      rw [if_neg hne, Int.zero_mul]
  | succ n ih =>
    show pr m t (L m t (E m t n)) b k = _
    rw [pr_L hm _ _ k hk, G_succ]
    exact L_congr hm (fun k hk => ih k hk) k hk
theorem pr_one (hm : 0 < m) (b : Nat → Int) (k : Nat) (hk : k < m) : pr m t (E m t 0) b k = b k := by
  rw [pr_E hm 0 b k hk]
  unfold G
  rw [sm_one m k hk]
  · rw [Nat.zero_add, E_low k hk k hk, if_pos rfl, Int.mul_one]
  · intro i hi hne
    rw [Nat.zero_add, E_low i hi k hk, if_neg (by omega), Int.mul_zero]
theorem pr_assoc (hm : 0 < m) (a b c : Nat → Int) (k : Nat) (hk : k < m) : pr m t (pr m t a b) c k = pr m t a (pr m t b c) k := by
  -- both are the sum of a i * b j * (x ^ (i + j) times c)
  have e1 : pr m t (pr m t a b) c k = sm m fun i => sm m fun j => a i * b j * G m t c (i + j) k := by
    rw [pr_comm]
    rw [show pr m t c (pr m t a b) k = pr m t c (fun k => sm m fun i => sm m fun j => a i * b j * E m t (i + j) k) k from rfl]
    rw [pr_sm]
    refine sm_congr fun i _ => ?_
    rw [pr_sm]
    refine sm_congr fun j _ => ?_
    rw [pr_mul, pr_comm, pr_E hm _ _ k hk]
  rw [e1]
  have e2 : pr m t a (pr m t b c) k = sm m fun j => b j * pr m t a (G m t c j) k := by
    rw [pr_congr (a' := a) (b' := fun k => sm m fun j => b j * G m t c j k) (fun _ _ => rfl) (fun k _ => pr_G b c k), pr_sm]
    exact sm_congr fun j _ => pr_mul _ _ _ _
  rw [e2, sm_swap]
  refine sm_congr fun j _ => ?_
  rw [pr_G, ← sm_mul]
  refine sm_congr fun i hi => ?_
  -- G of a moved one is a moved one
  have e3 : ∀ n k, k < m → G m t (G m t c j) n k = G m t c (n + j) k := fun n => by
    induction n with
    | zero =>
      intro k hk
      rw [Nat.zero_add]
      show sm m (fun l => G m t c j l * E m t (0 + l) k) = _
      rw [sm_one m k hk]
      · rw [Nat.zero_add, E_low k hk k hk, if_pos rfl, Int.mul_one]
      · intro l hl hne
        rw [Nat.zero_add, E_low l hl k hk, if_neg (by omega), Int.mul_zero]
    | succ n ih =>
      intro k hk
      rw [G_succ, L_congr hm (fun k hk => ih k hk) k hk, ← G_succ, show n + j + 1 = n + 1 + j by omega]
  rw [e3 i k hk, ← Int.mul_assoc, Int.mul_comm (b j)]
end
end FM
namespace FM
def dg (p a k : Nat) : Nat := a / p ^ k % p
def vec (p a : Nat) : Nat → Int := fun k => (dg p a k : Int)
def ofD (p : Nat) (f : Nat → Int) : Nat → Nat
  | 0 => 0
  | n + 1 => ofD p f n + (f n % (p : Int)).toNat * p ^ n
def cg (p : Nat) (x y : Int) : Prop := (p : Int) ∣ x - y
section
variable {p : Nat} {f g : Nat → Int} {n k a b : Nat} {x y z w : Int}
theorem cg.refl (x : Int) : cg p x x := ⟨0, by omega⟩
theorem cg.symm (h : cg p x y) : cg p y x := by
  obtain ⟨c, h⟩ := h
  exact ⟨-c, by rw [Int.mul_neg, ← h]; omega⟩
theorem cg.trans (h : cg p x y) (q : cg p y z) : cg p x z := by
  have e : x - z = (x - y) + (y - z) := by omega
  unfold cg
  rw [e]; exact Int.dvd_add h q
theorem cg.add (h : cg p x y) (q : cg p z w) : cg p (x + z) (y + w) := by
  have e : x + z - (y + w) = (x - y) + (z - w) := by omega
  unfold cg
  rw [e]; exact Int.dvd_add h q
theorem cg.neg (h : cg p x y) : cg p (-x) (-y) := by
  obtain ⟨c, h⟩ := h
  exact ⟨-c, by rw [Int.mul_neg, ← h]; omega⟩
theorem cg.sub (h : cg p x y) (q : cg p z w) : cg p (x - z) (y - w) := by
  rw [Int.sub_eq_add_neg, Int.sub_eq_add_neg]; exact h.add q.neg
theorem cg.mul (h : cg p x y) (q : cg p z w) : cg p (x * z) (y * w) := by
  have e : x * z - y * w = (x - y) * z + y * (z - w) := by
    rw [Int.sub_mul, Int.mul_sub]; omega
  unfold cg
  rw [e]; exact Int.dvd_add (Int.dvd_mul_of_dvd_left h) (Int.dvd_mul_of_dvd_right q)
theorem cg.emod (h : cg p x y) : x % (p : Int) = y % (p : Int) := by
  obtain ⟨k, hk⟩ := h
  have e : x = y + (p : Int) * k := by omega
  rw [e, Int.add_mul_emod_self_left]
theorem cg_emod (x : Int) : cg p (x % (p : Int)) x := ⟨-(x / p), by
  have := Int.mul_ediv_add_emod x p
  rw [Int.mul_neg]; omega⟩
theorem cg_sm (n : Nat) (h : ∀ k, k < n → cg p (f k) (g k)) : cg p (sm n f) (sm n g) := sm_dvd p n f g h
theorem toNat_lt (hp : 0 < p) (x : Int) : (x % (p : Int)).toNat < p := by
  have h1 := Int.emod_nonneg x (show (p : Int) ≠ 0 by omega)
  have h2 := Int.emod_lt_of_pos x (show (0 : Int) < p by omega)
  omega
theorem ofD_lt (hp : 0 < p) (f : Nat → Int) (n : Nat) : ofD p f n < p ^ n := by
  induction n with
  | zero => show 0 < p ^ 0; exact Nat.one_pos
  | succ n ih =>
    show ofD p f n + (f n % (p : Int)).toNat * p ^ n < p ^ (n + 1)
    have h := toNat_lt hp (f n)
    have h2 : ((f n % (p : Int)).toNat + 1) * p ^ n ≤ p * p ^ n := Nat.mul_le_mul_right _ h
    rw [Nat.add_mul, Nat.one_mul] at h2
    rw [Nat.pow_succ, Nat.mul_comm (p ^ n)]
    omega
theorem ofD_congr (h : ∀ k, k < n → cg p (f k) (g k)) : ofD p f n = ofD p g n := by
  induction n with
  | zero => rfl
  | succ n ih =>
    show ofD p f n + _ = ofD p g n + _
    rw [ih fun k hk => h k (by omega), (h n (by omega)).emod]
theorem dg_lt (hp : 0 < p) (a k : Nat) : dg p a k < p := Nat.mod_lt _ hp
theorem dg_big (h : a < p ^ k) : dg p a k = 0 := by unfold dg; rw [Nat.div_eq_of_lt h, Nat.zero_mod]
theorem ofD_vec (hp : 0 < p) (a n : Nat) : ofD p (vec p a) n = a % p ^ n := by
  induction n with
  | zero => show 0 = a % p ^ 0; rw [Nat.pow_zero, Nat.mod_one]
  | succ n ih =>
    show ofD p (vec p a) n + (vec p a n % (p : Int)).toNat * p ^ n = _
    rw [ih, Nat.mod_pow_succ]
    have h := dg_lt hp a n
    have e : (vec p a n % (p : Int)).toNat = a / p ^ n % p := by
      unfold vec
      rw [Int.emod_eq_of_lt (by omega) (by omega)]
      rfl
    rw [e, Nat.mul_comm]
theorem ofD_self (hp : 0 < p) (h : a < p ^ n) : ofD p (vec p a) n = a := by rw [ofD_vec hp, Nat.mod_eq_of_lt h]
theorem dg_ofD (hp : 0 < p) (f : Nat → Int) (hk : k < n) : dg p (ofD p f n) k = (f k % (p : Int)).toNat := by
  induction n with
  | zero => omega
  | succ n ih =>
    unfold dg at ih ⊢
    show (ofD p f n + (f n % (p : Int)).toNat * p ^ n) / p ^ k % p = _
    have hpk : 0 < p ^ k := Nat.pow_pos hp
    by_cases e : k = n
    · subst e
      rw [Nat.add_mul_div_right _ _ hpk, Nat.div_eq_of_lt (ofD_lt hp f k), Nat.zero_add, Nat.mod_eq_of_lt (toNat_lt hp _)]
    · have hk2 : k < n := by omega
      obtain ⟨j, rfl⟩ : ∃ j, n = k + 1 + j := ⟨n - (k + 1), by omega⟩
      rw [show p ^ (k + 1 + j) = p ^ j * p * p ^ k by rw [Nat.pow_add, Nat.pow_add, Nat.pow_one, Nat.mul_comm (p ^ k), Nat.mul_comm (p * p ^ k), Nat.mul_assoc]]
      rw [← Nat.mul_assoc, Nat.add_mul_div_right _ _ hpk, ← Nat.mul_assoc, Nat.add_mul_mod_self_right]
      exact ih hk2
theorem vec_ofD (hp : 0 < p) (f : Nat → Int) (hk : k < n) : cg p (vec p (ofD p f n) k) (f k) := by
  unfold vec
  rw [dg_ofD hp f hk]
  have h := Int.emod_nonneg (f k) (show (p : Int) ≠ 0 by omega)
  rw [Int.toNat_of_nonneg h]
  exact cg_emod _
theorem num_ext (hp : 0 < p) (ha : a < p ^ n) (hb : b < p ^ n) (h : ∀ k, k < n → dg p a k = dg p b k) : a = b := by
  rw [← ofD_self hp ha, ← ofD_self hp hb]
  refine ofD_congr fun k hk => ?_
  unfold vec
  rw [h k hk]; exact cg.refl _
theorem vec_zero (p k : Nat) : vec p 0 k = 0 := by unfold vec dg; rw [Nat.zero_div, Nat.zero_mod]; rfl
theorem vec_one (hp : 1 < p) (k : Nat) : vec p 1 k = if k = 0 then 1 else 0 := by
  unfold vec dg
  by_cases e : k = 0
  · subst e
    rw [if_pos rfl, Nat.pow_zero, Nat.div_one, Nat.mod_eq_of_lt hp]; rfl
  · rw [if_neg e, Nat.div_eq_of_lt, Nat.zero_mod]
    · rfl
    · exact Nat.one_lt_pow e hp
end

structure Pm (p m top : Nat) : Prop where
  p2 : 2 ≤ p
  m1 : 1 ≤ m
  top : top < p ^ m
section
variable (p m top : Nat)
def add (a b : Nat) : Nat := ofD p (fun k => vec p a k + vec p b k) m
def sub (a b : Nat) : Nat := ofD p (fun k => vec p a k - vec p b k) m
def smul (c a : Nat) : Nat := ofD p (fun k => (c : Int) * vec p a k) m
def mul (a b : Nat) : Nat := ofD p (pr m (vec p top) (vec p a) (vec p b)) m
def lift (a : Nat) : Nat := ofD p (L m (vec p top) (vec p a)) m
def liftN (n b : Nat) : Nat := ofD p (G m (vec p top) (vec p b) n) m
end
section
variable {p m top : Nat} (F : Pm p m top) {a b c n k : Nat}
theorem Pm.p0 (F : Pm p m top) : 0 < p := Nat.lt_of_lt_of_le (by decide) F.p2
theorem Pm.one_lt (F : Pm p m top) : 1 < p ^ m := Nat.one_lt_pow (by have := F.m1; omega) F.p2
include F
theorem add_lt (a b : Nat) : add p m a b < p ^ m := ofD_lt F.p0 _ _
theorem sub_lt (a b : Nat) : sub p m a b < p ^ m := ofD_lt F.p0 _ _
theorem mul_lt (a b : Nat) : mul p m top a b < p ^ m := ofD_lt F.p0 _ _
theorem smul_lt (a b : Nat) : smul p m a b < p ^ m := ofD_lt F.p0 _ _
theorem vec_add (hk : k < m) : cg p (vec p (add p m a b) k) (vec p a k + vec p b k) := vec_ofD F.p0 _ hk
theorem vec_sub (hk : k < m) : cg p (vec p (sub p m a b) k) (vec p a k - vec p b k) := vec_ofD F.p0 _ hk
theorem vec_mul (hk : k < m) : cg p (vec p (mul p m top a b) k) (pr m (vec p top) (vec p a) (vec p b) k) := vec_ofD F.p0 _ hk
theorem pr_cg {f f' g g' : Nat → Int} {t : Nat → Int} (h : ∀ k, k < m → cg p (f k) (f' k)) (h2 : ∀ k, k < m → cg p (g k) (g' k)) (k : Nat) : cg p (pr m t f g k) (pr m t f' g' k) :=
  cg_sm m fun i hi => cg_sm m fun j hj => ((h i hi).mul (h2 j hj)).mul (cg.refl _)
theorem add_comm (a b : Nat) : add p m a b = add p m b a := ofD_congr fun k _ => by rw [Int.add_comm]; exact cg.refl _
theorem add_assoc (a b c : Nat) : add p m (add p m a b) c = add p m a (add p m b c) := ofD_congr fun k hk => by
  refine ((vec_add F hk).add (cg.refl _)).trans ?_
  refine cg.trans ?_ ((cg.refl _).add (vec_add F hk)).symm
  rw [Int.add_assoc]; exact cg.refl _
theorem add_zero (ha : a < p ^ m) : add p m a 0 = a := by
  have e : add p m a 0 = ofD p (vec p a) m := ofD_congr fun k _ => by rw [vec_zero, Int.add_zero]; exact cg.refl _
  rw [e, ofD_self F.p0 ha]
theorem zero_add (ha : a < p ^ m) : add p m 0 a = a := by rw [add_comm F, add_zero F ha]
theorem sub_add (ha : a < p ^ m) (b : Nat) : add p m (sub p m a b) b = a := by
  have e : add p m (sub p m a b) b = ofD p (vec p a) m := ofD_congr fun k hk => by
    refine ((vec_sub F hk).add (cg.refl _)).trans ?_
    rw [Int.sub_add_cancel]; exact cg.refl _
  rw [e, ofD_self F.p0 ha]
theorem add_sub (ha : a < p ^ m) (b : Nat) : sub p m (add p m a b) b = a := by
  have e : sub p m (add p m a b) b = ofD p (vec p a) m := ofD_congr fun k hk => by
    refine ((vec_add F hk).sub (cg.refl _)).trans ?_
    rw [Int.add_sub_cancel]; exact cg.refl _
  rw [e, ofD_self F.p0 ha]
theorem sub_self (a : Nat) : sub p m a a = 0 := by
  have e : sub p m a a = ofD p (vec p 0) m := ofD_congr fun k hk => by rw [vec_zero, Int.sub_self]; exact cg.refl _
  rw [e, ofD_self F.p0 (Nat.lt_trans Nat.one_pos F.one_lt)]
theorem add_cancel (ha : a < p ^ m) (hb : b < p ^ m) (h : add p m a c = add p m b c) : a = b := by
  rw [← add_sub F ha c, h, add_sub F hb]
theorem mul_comm (a b : Nat) : mul p m top a b = mul p m top b a := ofD_congr fun k _ => by rw [pr_comm]; exact cg.refl _
theorem mul_assoc (a b c : Nat) : mul p m top (mul p m top a b) c = mul p m top a (mul p m top b c) := ofD_congr fun k hk => by
  refine (pr_cg F (fun k hk => vec_mul F hk) (fun k _ => cg.refl _) k).trans ?_
  refine cg.trans ?_ (pr_cg F (fun k _ => cg.refl _) (fun k hk => vec_mul F hk) k).symm
  rw [pr_assoc (by have := F.m1; omega) _ _ _ _ hk]; exact cg.refl _
theorem mul_add (a b c : Nat) : mul p m top a (add p m b c) = add p m (mul p m top a b) (mul p m top a c) := ofD_congr fun k hk => by
  refine (pr_cg F (fun k _ => cg.refl _) (fun k hk => vec_add F hk) k).trans ?_
  refine cg.trans ?_ ((vec_mul F hk).add (vec_mul F hk)).symm
  rw [pr_add]; exact cg.refl _
theorem add_mul (a b c : Nat) : mul p m top (add p m a b) c = add p m (mul p m top a c) (mul p m top b c) := by
  rw [mul_comm F, mul_add F, mul_comm F c, mul_comm F c]
theorem one_mul (ha : a < p ^ m) : mul p m top 1 a = a := by
  have e : mul p m top 1 a = ofD p (vec p a) m := ofD_congr fun k hk => by
    rw [pr_congr (a' := E m (vec p top) 0) (b' := vec p a) (fun k _ => vec_one F.p2 k) (fun _ _ => rfl), pr_one (by have := F.m1; omega) _ _ hk]; exact cg.refl _
  rw [e, ofD_self F.p0 ha]
theorem mul_one (ha : a < p ^ m) : mul p m top a 1 = a := by rw [mul_comm F, one_mul F ha]
theorem mul_zero (a : Nat) : mul p m top a 0 = 0 := by
  have h := mul_add F a 0 0
  rw [add_zero F (Nat.lt_trans Nat.one_pos F.one_lt)] at h
  have h2 : add p m (mul p m top a 0) 0 = add p m (mul p m top a 0) (mul p m top a 0) := by rw [add_zero F (mul_lt F a 0)]; exact h
  have h3 := add_cancel F (Nat.lt_trans Nat.one_pos F.one_lt) (mul_lt F a 0) (c := mul p m top a 0) (by rw [add_comm F 0]; exact h2)
  exact h3.symm
theorem zero_mul (a : Nat) : mul p m top 0 a = 0 := by rw [mul_comm F, mul_zero F]
theorem mul_sub (a b c : Nat) (hb : b < p ^ m) : mul p m top a (sub p m b c) = sub p m (mul p m top a b) (mul p m top a c) := by
  have h := mul_add F a (sub p m b c) c
  rw [sub_add F hb] at h
  rw [h, add_sub F (mul_lt F _ _)]
theorem sub_eq (a b : Nat) : sub p m a b = add p m a (smul p m (p - 1) b) := ofD_congr fun k hk => by
  refine cg.trans ?_ ((cg.refl _).add (vec_ofD F.p0 _ hk)).symm
  refine ⟨-vec p b k, ?_⟩
  have hp := F.p2
  have e : ((p - 1 : Nat) : Int) = (p : Int) - 1 := by omega
  rw [e, Int.sub_mul, Int.mul_neg, Int.one_mul]
  omega
end
end FM
namespace FM
section
variable {p m top : Nat} (F : Pm p m top) {a b c n k i : Nat}
def addS (p a b k : Nat) : Nat := ofD p (fun k => vec p a k + vec p b k) k
theorem addS_succ (hp : 0 < p) (a b k : Nat) : addS p a b (k + 1) = addS p a b k + (a / p ^ k + b / p ^ k) % p * p ^ k := by
  show ofD p _ k + ((vec p a k + vec p b k) % (p : Int)).toNat * p ^ k = _
  have e : ((vec p a k + vec p b k) % (p : Int)).toNat = (a / p ^ k + b / p ^ k) % p := by
    unfold vec dg
    have : ((((a / p ^ k % p : Nat) : Int) + ((b / p ^ k % p : Nat) : Int)) % (p : Int)) = (((a / p ^ k + b / p ^ k) % p : Nat) : Int) := by
      rw [← Int.natCast_add, ← Int.natCast_emod, ← Nat.add_mod]
    rw [this]; rfl
  rw [e]; rfl
theorem ofD_pad (f : Nat → Int) {k n : Nat} (h : k ≤ n) (hz : ∀ j, k ≤ j → j < n → f j = 0) : ofD p f n = ofD p f k := by
  induction n with
  | zero => have : k = 0 := by omega
            subst this; rfl
  | succ n ih =>
    by_cases e : k = n + 1
    · subst e; rfl
    · show ofD p f n + _ = _
      rw [ih (by omega) fun j h1 h2 => hz j h1 (by omega), hz n (by omega) (by omega)]
      simp
theorem vec_high (h : a < p ^ k) (hp : 0 < p) (hj : k ≤ n) : vec p a n = 0 := by
  unfold vec
  rw [dg_big (Nat.lt_of_lt_of_le h (Nat.pow_le_pow_right hp hj))]; rfl
theorem addS_stop (hp : 0 < p) (ha : a < p ^ k) (hb : b < p ^ k) (hk : k ≤ m) : add p m a b = addS p a b k := ofD_pad _ hk fun j h1 _ => by
  show vec p a j + vec p b j = 0
  rw [vec_high ha hp h1, vec_high hb hp h1]; rfl
theorem add_xor (ha : a < 2 ^ m) (hb : b < 2 ^ m) : add 2 m a b = a ^^^ b := by
  refine num_ext (p := 2) (n := m) (by decide) (ofD_lt (by decide) _ _) (Nat.xor_lt_two_pow ha hb) fun k hk => ?_
  unfold add
  rw [dg_ofD (by decide) _ hk]
  have e : (((vec 2 a k + vec 2 b k) % ((2 : Nat) : Int)).toNat) = (dg 2 a k + dg 2 b k) % 2 := by
    unfold vec
    rw [← Int.natCast_add, ← Int.natCast_emod]; rfl
  rw [e]
  have t : ∀ x : Nat, dg 2 x k = (x.testBit k).toNat := fun x => by
    unfold dg
    rw [Nat.testBit_eq_decide_div_mod_eq]
    have := Nat.mod_two_eq_zero_or_one (x / 2 ^ k)
    rcases this with h | h <;> rw [h] <;> rfl
  rw [t, t, t, Nat.testBit_xor]
  cases a.testBit k <;> cases b.testBit k <;> rfl
theorem smul_zero (a : Nat) : smul p m 0 a = 0 := by
  have : smul p m 0 a = ofD p (fun _ => 0) 0 := ofD_pad _ (Nat.zero_le _) (fun j _ _ => by show ((0 : Nat) : Int) * _ = 0; simp) |>.trans rfl
  rw [this]; rfl
include F
theorem smul_succ (i a : Nat) : smul p m (i + 1) a = add p m (smul p m i a) a := ofD_congr fun k hk => by
  refine cg.trans ?_ ((vec_ofD F.p0 _ hk).add (cg.refl _)).symm
  have e : ((i + 1 : Nat) : Int) = (i : Int) + 1 := by omega
  rw [e, Int.add_mul, Int.one_mul]
  exact cg.refl _
theorem pow_m : p ^ m = p ^ (m - 1) * p := by
  have h := F.m1
  rw [← Nat.pow_succ, Nat.succ_eq_add_one, show m - 1 + 1 = m by omega]
theorem lift_low (a : Nat) : a % p ^ (m - 1) * p < p ^ m := by
  rw [pow_m F]
  exact Nat.mul_lt_mul_of_pos_right (Nat.mod_lt _ (Nat.pow_pos F.p0)) F.p0
theorem vec_low (a : Nat) (hk : k < m) : vec p (a % p ^ (m - 1) * p) k = if k = 0 then 0 else vec p a (k - 1) := by
  unfold vec dg
  by_cases e : k = 0
  · subst e
    rw [if_pos rfl, Nat.pow_zero, Nat.div_one, Nat.mul_mod_left]; rfl
  · obtain ⟨j, rfl⟩ : ∃ j, k = j + 1 := ⟨k - 1, by omega⟩
    rw [if_neg e, Nat.add_sub_cancel, Nat.pow_succ, Nat.mul_div_mul_right _ _ F.p0]
    have hj : j < m - 1 := by omega
    have e2 : p ^ (m - 1) = p ^ j * p ^ (m - 1 - j) := by rw [← Nat.pow_add, show j + (m - 1 - j) = m - 1 by omega]
    rw [e2, Nat.mod_mul_right_div_self, Nat.mod_mod_of_dvd]
    exact ⟨p ^ (m - 1 - j - 1), by rw [show m - 1 - j = (m - 1 - j - 1) + 1 by omega, Nat.pow_succ, Nat.mul_comm, Nat.add_sub_cancel]⟩
theorem lift_eq (ha : a < p ^ m) : lift p m top a = add p m (a % p ^ (m - 1) * p) (smul p m (a / p ^ (m - 1)) top) := ofD_congr fun k hk => by
  refine cg.trans ?_ ((cg.refl _).add (vec_ofD F.p0 _ hk)).symm
  show cg p (L m (vec p top) (vec p a) k) _
  unfold L
  rw [vec_low F a hk]
  have e : vec p a (m - 1) = ((a / p ^ (m - 1) : Nat) : Int) := by
    unfold vec dg
    rw [Nat.mod_eq_of_lt]
    rw [Nat.div_lt_iff_lt_mul (Nat.pow_pos F.p0), Nat.mul_comm, ← pow_m F]; exact ha
  rw [e]
  exact cg.refl _
theorem lift_high_lt (ha : a < p ^ m) : a / p ^ (m - 1) < p := by
  rw [Nat.div_lt_iff_lt_mul (Nat.pow_pos F.p0), Nat.mul_comm, ← pow_m F]; exact ha
theorem liftN_lt (n a : Nat) : liftN p m top n a < p ^ m := ofD_lt F.p0 _ _
theorem liftN_zero (hb : b < p ^ m) : liftN p m top 0 b = b := by
  have e : liftN p m top 0 b = ofD p (vec p b) m := ofD_congr fun k hk => by
    unfold G
    rw [sm_one m k hk]
    · rw [Nat.zero_add, E_low k hk k hk, if_pos rfl, Int.mul_one]; exact cg.refl _
    · intro i hi hne
      rw [Nat.zero_add, E_low i hi k hk, if_neg (by omega), Int.mul_zero]
  rw [e, ofD_self F.p0 hb]
theorem L_cg {f g t : Nat → Int} (h : ∀ k, k < m → cg p (f k) (g k)) (hk : k < m) : cg p (L m t f k) (L m t g k) := by
  unfold L
  refine cg.add ?_ ((h (m - 1) (by omega)).mul (cg.refl _))
  by_cases e : k = 0
  · rw [if_pos e, if_pos e]; exact cg.refl _
  · rw [if_neg e, if_neg e]; exact h (k - 1) (by omega)
theorem liftN_succ (n b : Nat) : liftN p m top (n + 1) b = lift p m top (liftN p m top n b) := ofD_congr fun k hk => by
  rw [G_succ]
  exact L_cg F (fun k hk => (vec_ofD F.p0 _ hk).symm) hk
omit F
def mulS (p m top a b i : Nat) : Nat := ofD p (fun k => sm i fun j => vec p a j * G m (vec p top) (vec p b) j k) m
theorem mulS_zero (a b : Nat) : mulS p m top a b 0 = 0 := by
  have : mulS p m top a b 0 = ofD p (fun k => sm 0 fun j => vec p a j * G m (vec p top) (vec p b) j k) 0 := ofD_pad _ (Nat.zero_le _) (fun j _ _ => rfl)
  rw [this]; rfl
include F
theorem mulS_lt (a b i : Nat) : mulS p m top a b i < p ^ m := ofD_lt F.p0 _ _
theorem mulS_succ (a b i : Nat) : mulS p m top a b (i + 1) = add p m (mulS p m top a b i) (smul p m (a / p ^ i % p) (liftN p m top i b)) := ofD_congr fun k hk => by
  refine cg.trans ?_ ((vec_ofD F.p0 _ hk).add ((vec_ofD F.p0 _ hk).trans ((cg.refl _).mul (vec_ofD F.p0 _ hk)))).symm
  exact cg.refl _
theorem mulS_stop (ha : a < p ^ i) (hi : i ≤ m) : mul p m top a b = mulS p m top a b i := ofD_congr fun k hk => by
  rw [pr_G]
  have : ∀ n, i ≤ n → sm n (fun j => vec p a j * G m (vec p top) (vec p b) j k) = sm i fun j => vec p a j * G m (vec p top) (vec p b) j k := fun n => by
    induction n with
    | zero => intro h; have : i = 0 := by omega
              subst this; rfl
    | succ n ih =>
      intro h
      by_cases e : i = n + 1
      · subst e; rfl
      · show sm n _ + _ = _
        rw [ih (by omega)]
        show _ + vec p a n * _ = _
        rw [vec_high ha F.p0 (show i ≤ n by omega), Int.zero_mul, Int.add_zero]
  rw [this m hi]; exact cg.refl _
omit F
def num (p : Nat) (xs : List Int) : Int := xs.foldr (fun d acc => acc * (p : Int) + d) 0
theorem num_ofD (hp : 0 < p) (f : Nat → Int) : ∀ (n j : Nat), (∀ k, k < n → 0 ≤ f (j + k) ∧ f (j + k) < p) → num p ((List.range n).map fun k => f (j + k)) = ((ofD p (fun k => f (j + k)) n : Nat) : Int)
  | 0, j, _ => rfl
  | n + 1, j, h => by
    have ih := num_ofD hp f n (j + 1) fun k hk => by
      have := h (k + 1) (by omega)
      rw [show j + 1 + k = j + (k + 1) by omega]; exact this
    have e1 : (List.range (n + 1)).map (fun k => f (j + k)) = f j :: (List.range n).map (fun k => f (j + 1 + k)) := by
      rw [List.range_succ_eq_map, List.map_cons, List.map_map]
      congr 1
      refine List.map_congr_left fun k _ => ?_
      show f (j + (k + 1)) = _
      rw [show j + 1 + k = j + (k + 1) by omega]
    rw [e1]
    show num p _ * (p : Int) + f j = _
    rw [ih]
    have e2 : ∀ n, ofD p (fun k => f (j + k)) (n + 1) = (f j % (p : Int)).toNat + p * ofD p (fun k => f (j + 1 + k)) n := fun n => by
      induction n with
      | zero => show 0 + (f (j + 0) % (p : Int)).toNat * p ^ 0 = _ + p * 0; simp
      | succ n ih2 =>
        show ofD p (fun k => f (j + k)) (n + 1) + (f (j + (n + 1)) % (p : Int)).toNat * p ^ (n + 1) = _ + p * (ofD p (fun k => f (j + 1 + k)) n + (f (j + 1 + n) % (p : Int)).toNat * p ^ n)
        rw [ih2, Nat.mul_add, show j + 1 + n = j + (n + 1) by omega, Nat.pow_succ, Nat.add_assoc]
        congr 2
        rw [Nat.mul_comm (p ^ n), ← Nat.mul_assoc, ← Nat.mul_assoc, Nat.mul_comm p]
    rw [e2 n]
    have h0 := h 0 (by omega)
    rw [Nat.add_zero] at h0
    rw [Int.emod_eq_of_lt h0.1 h0.2, Int.natCast_add, Int.toNat_of_nonneg h0.1, Int.natCast_mul, Int.mul_comm]
    omega
def rw' (n : Nat) (r : Nat → Int) : List Int := (List.range n).map r
theorem rw_len (n : Nat) (r : Nat → Int) : (rw' n r).length = n := by unfold rw'; rw [List.length_map, List.length_range]
theorem rw_get {n i : Nat} (r : Nat → Int) (h : i < n) : (rw' n r)[i]? = some (r i) := by
  unfold rw'
  rw [List.getElem?_map, List.getElem?_range h]; rfl
def ch (r : Nat → Int) (i : Nat) (v : Int) : Nat → Int := fun k => if k = i then v else r k
theorem rw_set (n : Nat) (r : Nat → Int) (i : Nat) (v : Int) : (rw' n r).set i v = rw' n (ch r i v) := by
  refine List.ext_getElem? fun k => ?_
  by_cases hk : k < n
  · rw [rw_get _ hk]
    by_cases e : i = k
    · subst e
      rw [List.getElem?_set_self (by rw [rw_len]; exact hk)]
      unfold ch; rw [if_pos rfl]
    · rw [List.getElem?_set_ne e, rw_get _ hk]
      unfold ch; rw [if_neg (Ne.symm e)]
  · rw [List.getElem?_eq_none (by rw [List.length_set, rw_len]; omega), List.getElem?_eq_none (by rw [rw_len]; omega)]
theorem rw_take (n k : Nat) (r : Nat → Int) (h : k ≤ n) : (rw' n r).take k = rw' k r := by
  unfold rw'
  rw [← List.map_take, List.take_range, Nat.min_eq_left h]
def wo (m : Nat) (t : Nat → Int) (n : Nat) (r : Nat → Int) (k : Nat) : Int := sm n fun l => r l * E m t l k
theorem wo_ch (m : Nat) (t : Nat → Int) (n : Nat) (r : Nat → Int) (i : Nat) (v : Int) (k : Nat) (h : i < n) : wo m t n (ch r i v) k = wo m t n r k + (v - r i) * E m t i k := by
  unfold wo
  have : (fun l => ch r i v l * E m t l k) = fun l => r l * E m t l k + (if l = i then (v - r i) * E m t i k else 0) := by
    funext l
    unfold ch
    by_cases e : l = i
    · subst e; rw [if_pos rfl, if_pos rfl, Int.sub_mul]; omega
    · rw [if_neg e, if_neg e]; omega
  rw [this, sm_add, sm_one n i h (fun l => if l = i then (v - r i) * E m t i k else 0) (fun l _ hl => if_neg hl), if_pos rfl]
theorem wo_low (r : Nat → Int) (t : Nat → Int) (hk : k < m) : wo m t m r k = r k := by
  unfold wo
  rw [sm_one m k hk]
  · rw [E_low k hk k hk, if_pos rfl, Int.mul_one]
  · intro i hi hne
    rw [E_low i hi k hk, if_neg (by omega), Int.mul_zero]
end
end FM
namespace PF
open PySem PySem.Spec PyProof.Rows L2 DL FM
structure Sz (p m : Nat) : Prop where
  p2 : 2 ≤ p
  m1 : 1 ≤ m
  few : p ^ m ≤ 64
theorem Sz.p0 {p m : Nat} (s : Sz p m) : 0 < p := Nat.lt_of_lt_of_le (by decide) s.p2
theorem Sz.pm {p m top : Nat} (s : Sz p m) (h : top < p ^ m) : Pm p m top := ⟨s.p2, s.m1, h⟩
theorem Sz.pm0 {p m : Nat} (s : Sz p m) : Pm p m 0 := s.pm (Nat.pow_pos s.p0)
theorem Sz.pk {p m k : Nat} (s : Sz p m) (h : k ≤ m) : p ^ k ≤ 64 := Nat.le_trans (Nat.pow_le_pow_right s.p0 h) s.few
theorem Sz.p64 {p m : Nat} (s : Sz p m) : p ≤ 64 := by have := s.pk s.m1; rwa [Nat.pow_one] at this
theorem Sz.m6 {p m : Nat} (s : Sz p m) : m ≤ 6 := by
  have h1 : 2 ^ m ≤ 2 ^ 6 := Nat.le_trans (Nat.pow_le_pow_left s.p2 m) s.few
  exact (Nat.pow_le_pow_iff_right (by decide)).mp h1
def fld (p m top : Nat) : D := .tup [.int p, .int m, .int top]
theorem cdiv64 {i : Int} {p : Nat} (h0 : 0 < p) (h : p ≤ 64) : CDivW i (p : Int) := wide_div (b := 32) (by omega) (by omega) (by decide) (by decide)
theorem cmul64 {i : Int} {p : Nat} (h : p ≤ 64) : CMulA i (p : Int) := .inl (.inr ⟨by omega, by omega⟩)
def rD (n : Nat) (r : Nat → Int) : List D := (rw' n r).map D.int
theorem rD_len (n : Nat) (r : Nat → Int) : (rD n r).length = n := by unfold rD; rw [List.length_map, rw_len]
theorem rD_get {n i : Nat} (r : Nat → Int) (h : i < n) : (rD n r)[i]? = some (.int (r i)) := by unfold rD; rw [List.getElem?_map, rw_get _ h]; rfl
theorem rD_set (n : Nat) (r : Nat → Int) (i : Nat) (v : Int) : (rD n r).set i (.int v) = rD n (ch r i v) := by unfold rD; rw [← rw_set, List.map_set]
theorem rD_at {n i : Nat} (r : Nat → Int) (h : i < n) : atI (rD n r) (i : Int) = some (.int (r i)) := atI_nat (rD_get r h)
theorem rD_ix {n i : Nat} (r : Nat → Int) (h : i < n) : ixN (rD n r).length (i : Int) = some i := by
  rw [rD_len]
  unfold ixN
  rw [if_pos (by omega), if_pos (by omega)]; rfl
theorem rD_cut {n k : Nat} (r : Nat → Int) (h : k ≤ n) : cutA (rD n r) none (some (k : Int)) = rD k r := by
  unfold cutA
  rw [HT.sIx_nat, rD_len, Nat.min_eq_left h]
  show ((rD n r).drop 0).take (k - 0) = _
  rw [List.drop_zero, Nat.sub_zero]
  unfold rD
  rw [← List.map_take, rw_take _ _ _ h]
theorem rD_snoc (n : Nat) (r : Nat → Int) : rD n r ++ [.int (r n)] = rD (n + 1) r := by
  unfold rD rw'
  rw [List.range_succ, List.map_append, List.map_append]; rfl
theorem rD_zero (n : Nat) : (List.replicate n [D.int 0]).flatten = rD n fun _ => 0 := by
  refine List.ext_getElem? fun k => ?_
  rw [List.flatten_replicate_singleton]
  by_cases h : k < n
  · rw [rD_get _ h, List.getElem?_replicate, if_pos h]
  · rw [List.getElem?_eq_none (by rw [List.length_replicate]; omega), List.getElem?_eq_none (by rw [rD_len]; omega)]
theorem enum_rD {n i : Nat} {r : Nat → Int} {d : D} (h : (enumD (rD n r))[i]? = some d) : i < n ∧ d = .tup [.int (i : Nat), .int (r i)] := by
  obtain ⟨e, h1, rfl⟩ := enumD_get h
  have hi : i < n := by have := (List.getElem?_eq_some_iff.mp h1).1; rwa [rD_len] at this
  rw [rD_get r hi] at h1
  cases h1
  exact ⟨hi, rfl⟩
def sp_raised : DSp := fun ds P => ∃ a n : Nat, ds = [.int a, .int n] ∧ 1 ≤ a ∧ n < 2 ^ 60 ∧ (a ^ n < 2 ^ 60 ∨ a < 2 ^ 60) ∧ P (.im (.int ((a ^ n : Nat) : Int)))
theorem len_raised {ds P} (h : sp_raised ds P) : ds.length = 2 := by obtain ⟨_, _, rfl, _⟩ := h; rfl
def t_raised : DTS := (dSeq (dAsg (dC (.int 1)) (gNm 2))
    (dSeq (dFor (dRng1 (dConsH (dVar 1) dNil)) (gNm 3) (dAsg (dOp oMul (dVar 2) (dVar 0)) (gNm 2)))
    (dRet (dVar 2))))
theorem pure_raised (ds : List D) (P : R → Prop) (h : sp_raised ds P) : runD t_raised P (startN 4 ds) := by
  obtain ⟨a, n, rfl, h1, hn, hb, h⟩ := h
  refine ⟨⟨by omega, by omega⟩, fun i ρ => ∃ x, ρ = [some (.im (.int a)), some (.im (.int n)), some (.im (.int ((a ^ i : Nat) : Int))), x], ⟨_, rfl⟩, ?_, ?_⟩
  · rintro i d _ hd ⟨x, rfl⟩
    obtain ⟨hi, rfl⟩ := rngD_get hd
    have hle : a ^ i ≤ a ^ n := Nat.pow_le_pow_right h1 (by omega)
    have hle0 : 1 ≤ a ^ i := Nat.one_le_pow _ _ h1
    refine ⟨?_, ?_⟩
    · rcases hb with hb | hb
      · exact .inl (.inl ⟨by omega, by omega⟩)
      · exact .inl (.inr ⟨by omega, by omega⟩)
    exact ⟨_, by rw [Nat.pow_succ, Int.natCast_mul]; rfl⟩
  · rintro _ ⟨x, rfl⟩
    rw [rngD_len]
    exact h
def sp_put_together : DSp := fun ds P => ∃ p m a b : Nat, ds = [.int p, .int a, .int b] ∧ Sz p m ∧ a < p ^ m ∧ b < p ^ m ∧ P (.im (.int (add p m a b : Nat)))
theorem len_put_together {ds P} (h : sp_put_together ds P) : ds.length = 3 := by obtain ⟨_, _, _, _, rfl, _⟩ := h; rfl
def t_put_together : DTS := (dSeq (dIf (dTest (dOp (oEq) (dVar 0) (dC (.int 2)))) (dRet (dOp oXor (dVar 1) (dVar 2))) dNext)
    (dSeq (dAsg (dC (.int 0)) (gNm 3))
    (dSeq (dAsg (dC (.int 1)) (gNm 4))
    (dSeq (dWhile (dOr (dTest (dOp (oGt) (dVar 1) (dC (.int 0)))) (dTest (dOp (oGt) (dVar 2) (dC (.int 0))))) (dSeq (dAsg (dOp oAdd (dVar 3) (dOp oMul (dOp oMod (dOp oAdd (dVar 1) (dVar 2)) (dVar 0)) (dVar 4))) (gNm 3))
    (dSeq (dPar 1 2 (dOp oDiv (dVar 1) (dVar 0)) (dOp oDiv (dVar 2) (dVar 0)))
    (dAsg (dOp oMul (dVar 4) (dVar 0)) (gNm 4)))))
    (dRet (dVar 3))))))
theorem pure_put_together (ds : List D) (P : R → Prop) (h : sp_put_together ds P) : runD t_put_together P (startN 5 ds) := by
  obtain ⟨p, m, a, b, rfl, hs, ha, hb, h⟩ := h
  have hp := hs.p0
  refine ⟨fun h2 => ?_, fun _ => ?_⟩
  · have e : p = 2 := by
      have : (p : Int) = 2 := of_decide_eq_true h2
      omega
    subst e
    show P (.im (.int (Builtin.bitXor (a : Int) (b : Int))))
    rw [Bits.bitXor_pp (by omega) (by omega)]
    rw [add_xor ha hb] at h
    exact h
  · refine ⟨fun i ρ => ∃ k, k ≤ m ∧ i = m - k ∧ ρ = [some (.im (.int p)), some (.im (.int ((a / p ^ k : Nat) : Int))), some (.im (.int ((b / p ^ k : Nat) : Int))), some (.im (.int (addS p a b k : Nat))), some (.im (.int ((p ^ k : Nat) : Int)))], ⟨m, 0, Nat.zero_le _, rfl, by rw [Nat.pow_zero, Nat.div_one, Nat.div_one]; rfl⟩, ?_⟩
    rintro i _ ⟨k, hk, rfl, rfl⟩
    have step : 0 < ((a / p ^ k : Nat) : Int) ∨ 0 < ((b / p ^ k : Nat) : Int) → k < m := fun hh => by
      refine Nat.lt_of_le_of_ne hk fun e => ?_
      subst e
      rw [Nat.div_eq_of_lt ha, Nat.div_eq_of_lt hb] at hh
      omega
    refine ⟨fun h1 => ⟨fun _ => ?a, fun h => (nomatch h)⟩, fun h1 => ⟨fun h2 => ?b, fun h2 => ?c⟩⟩
    case' a => have hkm := step (.inl (of_decide_eq_true h1))
    case' b => have hkm := step (.inr (of_decide_eq_true h2))
    case c =>
      have z1 : ¬ 0 < ((a / p ^ k : Nat) : Int) := of_decide_eq_false h1
      have z2 : ¬ 0 < ((b / p ^ k : Nat) : Int) := of_decide_eq_false h2
      have la : a < p ^ k := by
        refine Nat.lt_of_not_le fun q => ?_
        have := Nat.div_pos q (Nat.pow_pos hp)
        omega
      have lb : b < p ^ k := by
        refine Nat.lt_of_not_le fun q => ?_
        have := Nat.div_pos q (Nat.pow_pos hp)
        omega
      rw [addS_stop hp la lb hk] at h
      exact h
    all_goals
      have hpk := hs.pk hk
      have e1 : ((a / p ^ (k + 1) : Nat) : Int) = ((a / p ^ k : Nat) : Int) / (p : Int) := by rw [Nat.pow_succ, ← Nat.div_div_eq_div_mul]; rfl
      have e2 : ((b / p ^ (k + 1) : Nat) : Int) = ((b / p ^ k : Nat) : Int) / (p : Int) := by rw [Nat.pow_succ, ← Nat.div_div_eq_div_mul]; rfl
      have e3 : ((addS p a b (k + 1) : Nat) : Int) = (addS p a b k : Nat) + (((a / p ^ k : Nat) : Int) + ((b / p ^ k : Nat) : Int)) % (p : Int) * ((p ^ k : Nat) : Int) := by rw [addS_succ hp]; simp
      have e4 : ((p ^ (k + 1) : Nat) : Int) = ((p ^ k : Nat) : Int) * (p : Int) := by rw [Nat.pow_succ, Int.natCast_mul]
      refine ⟨by omega, .inl (.inr ⟨by omega, by omega⟩), cdiv64 hp hs.p64, cdiv64 hp hs.p64, cmul64 hs.p64, ?_⟩
      exact ⟨m - (k + 1), by omega, k + 1, hkm, rfl, by rw [e1, e2, e3, e4]; rfl⟩
def sp_so_many : DSp := fun ds P => ∃ p m c a : Nat, ds = [.int p, .int c, .int a] ∧ Sz p m ∧ c ≤ 64 ∧ a < p ^ m ∧ P (.im (.int (smul p m c a : Nat)))
theorem len_so_many {ds P} (h : sp_so_many ds P) : ds.length = 3 := by obtain ⟨_, _, _, _, rfl, _⟩ := h; rfl
def t_so_many : DTS := (dSeq (dAsg (dC (.int 0)) (gNm 3))
    (dSeq (dFor (dRng1 (dConsH (dVar 1) dNil)) (gNm 4) (dAsg (dCall sp_put_together (dCons (dVar 0) (dCons (dVar 3) (dCons (dVar 2) dNil)))) (gNm 3)))
    (dRet (dVar 3))))
theorem pure_so_many (ds : List D) (P : R → Prop) (h : sp_so_many ds P) : runD t_so_many P (startN 5 ds) := by
  obtain ⟨p, m, c, a, rfl, hs, hc, ha, h⟩ := h
  refine ⟨⟨by omega, by omega⟩, fun i ρ => ∃ x, ρ = [some (.im (.int p)), some (.im (.int c)), some (.im (.int a)), some (.im (.int (smul p m i a : Nat))), x], ⟨_, by rw [smul_zero]; rfl⟩, ?_, ?_⟩
  · rintro i d _ hd ⟨x, rfl⟩
    obtain ⟨hi, rfl⟩ := rngD_get hd
    refine ⟨p, m, _, _, rfl, hs, smul_lt hs.pm0 _ _, ha, ?_⟩
    exact ⟨_, by rw [smul_succ hs.pm0]; rfl⟩
  · rintro _ ⟨x, rfl⟩
    rw [rngD_len]
    exact h
def sp_lifted : DSp := fun ds P => ∃ p m top a : Nat, ds = [fld p m top, .int a] ∧ Sz p m ∧ top < p ^ m ∧ a < p ^ m ∧ P (.im (.int (lift p m top a : Nat)))
theorem len_lifted {ds P} (h : sp_lifted ds P) : ds.length = 2 := by obtain ⟨_, _, _, _, rfl, _⟩ := h; rfl
def t_lifted : DTS := (dSeq (dAsg (dVar 0) (gTu 3 (gCo (gNm 2) (gCo (gNm 3) (gCo (gNm 4) gNi)))))
    (dSeq (dAsg (dCall sp_raised (dCons (dVar 2) (dCons (dOp oSub (dVar 3) (dC (.int 1))) dNil))) (gNm 5))
    (dRet (dCall sp_put_together (dCons (dVar 2) (dCons (dOp oMul (dOp oMod (dVar 1) (dVar 5)) (dVar 2)) (dCons (dCall sp_so_many (dCons (dVar 2) (dCons (dOp oDiv (dVar 1) (dVar 5)) (dCons (dVar 4) dNil)))) dNil)))))))
theorem pure_lifted (ds : List D) (P : R → Prop) (h : sp_lifted ds P) : runD t_lifted P (startN 6 ds) := by
  obtain ⟨p, m, top, a, rfl, hs, ht, ha, h⟩ := h
  have hp := hs.p0
  have F := hs.pm ht
  have hpk : p ^ (m - 1) ≤ 64 := hs.pk (by omega)
  have hp1 : 0 < p ^ (m - 1) := Nat.pow_pos hp
  have hm := hs.m6
  have hm1 := hs.m1
  have hl := lift_high_lt F ha
  refine ⟨rfl, rfl, p, m - 1, by show [D.int p, D.int ((m : Int) - 1)] = _; rw [Int.ofNat_sub hm1]; rfl, by omega, by omega, by omega, ?_⟩
  refine ⟨by omega, cmul64 hs.p64, cdiv64 hp1 hpk, p, m, a / p ^ (m - 1), top, rfl, hs, by have := hs.p64; omega, ht, ?_⟩
  refine ⟨p, m, a % p ^ (m - 1) * p, _, rfl, hs, lift_low F a, smul_lt F _ _, ?_⟩
  rw [lift_eq F ha] at h
  exact h
def sp_plain_times : DSp := fun ds P => ∃ p m top a b : Nat, ds = [fld p m top, .int a, .int b] ∧ Sz p m ∧ top < p ^ m ∧ a < p ^ m ∧ b < p ^ m ∧ P (.im (.int (mul p m top a b : Nat)))
theorem len_plain_times {ds P} (h : sp_plain_times ds P) : ds.length = 3 := by obtain ⟨_, _, _, _, _, rfl, _⟩ := h; rfl
def t_plain_times : DTS := (dSeq (dAsg (dC (.int 0)) (gNm 3))
    (dSeq (dWhile (dTest (dOp (oGt) (dVar 1) (dC (.int 0)))) (dSeq (dAsg (dCall sp_put_together (dCons (dOp oIx (dVar 0) (dC (.int 0))) (dCons (dVar 3) (dCons (dCall sp_so_many (dCons (dOp oIx (dVar 0) (dC (.int 0))) (dCons (dOp oMod (dVar 1) (dOp oIx (dVar 0) (dC (.int 0)))) (dCons (dVar 2) dNil)))) dNil)))) (gNm 3))
    (dSeq (dAsg (dOp oDiv (dVar 1) (dOp oIx (dVar 0) (dC (.int 0)))) (gNm 1))
    (dIf (dTest (dOp (oGt) (dVar 1) (dC (.int 0)))) (dAsg (dCall sp_lifted (dCons (dVar 0) (dCons (dVar 2) dNil))) (gNm 2)) dNext))))
    (dRet (dVar 3))))
theorem pure_plain_times (ds : List D) (P : R → Prop) (h : sp_plain_times ds P) : runD t_plain_times P (startN 4 ds) := by
  obtain ⟨p, m, top, a, b, rfl, hs, ht, ha, hb, h⟩ := h
  have hp := hs.p0
  have F := hs.pm ht
  refine ⟨fun i ρ => ∃ k c, k ≤ m ∧ i = m - k ∧ (0 < a / p ^ k → c = liftN p m top k b) ∧ ρ = [some (.im (fld p m top)), some (.im (.int ((a / p ^ k : Nat) : Int))), some (.im (.int (c : Nat))), some (.im (.int (mulS p m top a b k : Nat)))], ⟨m, 0, b, Nat.zero_le _, rfl, fun _ => (liftN_zero F hb).symm, by rw [Nat.pow_zero, Nat.div_one, mulS_zero]; rfl⟩, ?_⟩
  rintro i _ ⟨k, c, hk, rfl, hc, rfl⟩
  refine ⟨fun h1 => ?_, fun h1 => ?_⟩
  · have h1' : 0 < ((a / p ^ k : Nat) : Int) := of_decide_eq_true h1
    have h2 : 0 < a / p ^ k := by omega
    have hkm : k < m := by
      refine Nat.lt_of_le_of_ne hk fun e => ?_
      subst e
      rw [Nat.div_eq_of_lt ha] at h2
      omega
    have ec := hc h2
    subst ec
    have hl : a / p ^ k % p < p := Nat.mod_lt _ hp
    have hp64 := hs.p64
    refine ⟨_, rfl, _, rfl, _, rfl, by show (0 : Int) < p; omega, p, m, a / p ^ k % p, liftN p m top k b, rfl, hs, by omega, liftN_lt F _ _, ?_⟩
    refine ⟨p, m, _, _, rfl, hs, mulS_lt F _ _ _, smul_lt F _ _, ?_⟩
    refine ⟨_, rfl, cdiv64 hp hs.p64, ?_⟩
    have e1 : ((a / p ^ (k + 1) : Nat) : Int) = ((a / p ^ k : Nat) : Int) / (p : Int) := by rw [Nat.pow_succ, ← Nat.div_div_eq_div_mul]; rfl
    refine ⟨fun h3 => ?_, fun h3 => ?_⟩
    · refine ⟨p, m, top, _, rfl, hs, ht, liftN_lt F _ _, ?_⟩
      exact ⟨m - (k + 1), by omega, k + 1, lift p m top (liftN p m top k b), hkm, rfl, fun _ => (liftN_succ F k b).symm, by rw [e1, mulS_succ F]; rfl⟩
    · have h4 : ¬ 0 < ((a / p ^ k : Nat) : Int) / (p : Int) := of_decide_eq_false h3
      refine ⟨m - (k + 1), by omega, k + 1, liftN p m top k b, hkm, rfl, fun h5 => ?_, by rw [e1, mulS_succ F]; rfl⟩
      rw [← e1] at h4
      omega
  · have h1' : ¬ 0 < ((a / p ^ k : Nat) : Int) := of_decide_eq_false h1
    have la : a < p ^ k := by
      refine Nat.lt_of_not_le fun q => ?_
      have := Nat.div_pos q (Nat.pow_pos hp)
      omega
    rw [mulS_stop F la hk] at h
    exact h
end PF
namespace PF
open PySem PySem.Spec PyProof.Rows L2 DL FM
def goodAt (p m top a : Nat) : Bool := (List.range (p ^ m - 1)).all fun j => decide (0 < mul p m top a (1 + j))
def goodB (p m top : Nat) : Bool := (List.range (min (p ^ m) (p ^ (m / 2 + 1)) - 1)).all fun i => goodAt p m top (1 + i)
theorem min2 (a b : Nat) : (if ((b : Nat) : Int) < ((a : Nat) : Int) then ((b : Nat) : Int) else ((a : Nat) : Int)) = ((min a b : Nat) : Int) := by
  split <;> omega
def pms : List (Nat × Nat) := [(2, 1), (2, 2), (2, 3), (2, 4), (3, 1), (3, 2), (3, 3), (5, 1), (5, 2), (7, 1), (11, 1), (13, 1), (2, 5), (2, 6), (7, 2), (61, 1), (17, 1), (19, 1), (23, 1), (29, 1), (31, 1), (37, 1), (41, 1), (43, 1), (47, 1), (53, 1), (59, 1)]
theorem pms_sz {p m : Nat} (h : (p, m) ∈ pms) : Sz p m := by
  have : pms.all (fun x => decide (2 ≤ x.1) && decide (1 ≤ x.2) && decide (x.1 ^ x.2 ≤ 64)) = true := by decide +kernel
  have q := List.all_eq_true.mp this _ h
  simp only [Bool.and_eq_true, decide_eq_true_eq] at q
  exact ⟨q.1.1, q.1.2, q.2⟩
structure Fl (p m top : Nat) : Prop where
  pm : (p, m) ∈ pms
  tp : top < p ^ m
  good : m = 1 ∨ goodB p m top = true
theorem Fl.sz {p m top : Nat} (f : Fl p m top) : Sz p m := pms_sz f.pm
def IT : Nat → D → Prop
  | 0 => fun _ => False
  | n + 1 => fun d => match d with
    | .int _ => True
    | .tup xs => xs.length ≤ 1000000 ∧ ∀ x, x ∈ xs → IT n x
    | _ => False
def sp__law_raised : DSp := fun ds P => ∃ a n : Nat, ds = [.int a, .int n] ∧ 1 ≤ a ∧ n < 2 ^ 60 ∧ (a ^ n < 2 ^ 60 ∨ a < 2 ^ 60) ∧ P (.im (.int ((a ^ n : Nat) : Int)))
theorem len__law_raised {ds P} (h : sp__law_raised ds P) : ds.length = 2 := by obtain ⟨_, _, rfl, _⟩ := h; rfl
def t__law_raised : DTS := (dSeq (dAsg (dC (.int 1)) (gNm 2))
    (dSeq (dFor (dRng1 (dConsH (dVar 1) dNil)) (gNm 3) (dAsg (dOp oMul (dVar 2) (dVar 0)) (gNm 2)))
    (dRet (dVar 2))))
theorem pure__law_raised (ds : List D) (P : R → Prop) (h : sp__law_raised ds P) : runD t__law_raised P (startN 4 ds) := pure_raised ds P h
def sp__law_digits : DSp := fun ds P => ∃ p m top a : Nat, ds = [fld p m top, .int a] ∧ Sz p m ∧ P (.fr (rD m (vec p a)))
theorem len__law_digits {ds P} (h : sp__law_digits ds P) : ds.length = 2 := by obtain ⟨_, _, _, _, rfl, _⟩ := h; rfl
def t__law_digits : DTS := (dSeq (dAsg (dLst dNil) (gNm 2))
    (dSeq (dFor (dRng1 (dConsH (dOp oIx (dVar 0) (dC (.int 1))) dNil)) (gNm 3) (dSeq (dAppend 2 (dOp oMod (dVar 1) (dOp oIx (dVar 0) (dC (.int 0)))))
    (dAsg (dOp oDiv (dVar 1) (dOp oIx (dVar 0) (dC (.int 0)))) (gNm 1))))
    (dRet (dVar 2))))
theorem pure__law_digits (ds : List D) (P : R → Prop) (h : sp__law_digits ds P) : runD t__law_digits P (startN 4 ds) := by
  obtain ⟨p, m, top, a, rfl, hs, h⟩ := h
  have hp := hs.p0
  have hp64 := hs.p64
  have hm := hs.m6
  refine ⟨Nat.zero_le _, _, rfl, ⟨by omega, by omega⟩, fun i ρ => ∃ x, ρ = [some (.im (fld p m top)), some (.im (.int ((a / p ^ i : Nat) : Int))), some (.ow (rD i (vec p a))), x], ⟨_, by rw [Nat.pow_zero, Nat.div_one]; rfl⟩, ?_, ?_⟩
  · rintro i d _ hd ⟨x, rfl⟩
    obtain ⟨hi, rfl⟩ := rngD_get hd
    have hi2 : i < m := by omega
    refine ⟨_, rfl, by omega, by rw [rD_len]; exact Nat.lt_of_lt_of_le (show i < 7 by omega) (by decide), _, rfl, cdiv64 hp hp64, ?_⟩
    have e1 : ((a / p ^ (i + 1) : Nat) : Int) = ((a / p ^ i : Nat) : Int) / (p : Int) := by rw [Nat.pow_succ, ← Nat.div_div_eq_div_mul]; rfl
    exact ⟨_, by rw [e1, ← rD_snoc]; rfl⟩
  · rintro _ ⟨x, rfl⟩
    rw [rngD_len]
    exact h
def sp__law_number : DSp := fun ds P => ∃ (p m top n : Nat) (r : Nat → Int), ds = [fld p m top, .lst (rD n r)] ∧ Sz p m ∧ (∀ k, k < n → 0 ≤ r k ∧ r k < p) ∧ P (.im (.int (ofD p r n : Nat)))
theorem len__law_number {ds P} (h : sp__law_number ds P) : ds.length = 2 := by obtain ⟨_, _, _, _, _, rfl, _⟩ := h; rfl
theorem take_succ_get {α : Type} {l : List α} {i : Nat} {x : α} (h : l[i]? = some x) : l.take (i + 1) = l.take i ++ [x] := by
  rw [List.take_succ, h]; rfl
def t__law_number : DTS := (dSeq (dAsg (dC (.int 0)) (gNm 2))
    (dSeq (dFor (dSeqI (dRevL (dVar 1))) (gNm 3) (dAsg (dOp oAdd (dOp oMul (dVar 2) (dOp oIx (dVar 0) (dC (.int 0)))) (dVar 3)) (gNm 2)))
    (dRet (dVar 2))))
theorem pure__law_number (ds : List D) (P : R → Prop) (h : sp__law_number ds P) : runD t__law_number P (startN 4 ds) := by
  obtain ⟨p, m, top, n, r, rfl, hs, hr, h⟩ := h
  have hp := hs.p0
  have hp64 := hs.p64
  refine ⟨fun i ρ => ∃ x, ρ = [some (.im (fld p m top)), some (.im (.lst (rD n r))), some (.im (.int (((rw' n r).reverse.take i).foldl (fun acc d => acc * (p : Int) + d) 0))), x], ⟨_, rfl⟩, ?_, ?_⟩
  · rintro i d _ hd ⟨x, rfl⟩
    unfold rD at hd
    rw [← List.map_reverse, List.getElem?_map] at hd
    cases e : (rw' n r).reverse[i]? with
    | none => rw [e] at hd; cases hd
    | some y =>
      rw [e] at hd
      cases hd
      refine ⟨_, rfl, cmul64 hp64, ?_⟩
      exact ⟨_, by rw [take_succ_get e, List.foldl_append]; rfl⟩
  · rintro _ ⟨x, rfl⟩
    have e1 : ((rw' n r).reverse.take (rD n r).reverse.length).foldl (fun acc d => acc * (p : Int) + d) 0 = (ofD p r n : Nat) := by
      rw [List.take_of_length_le (by rw [List.length_reverse, List.length_reverse, rD_len, rw_len]; exact Nat.le_refl _), List.foldl_reverse]
      have q := num_ofD hp r n 0 (fun k hk => by rw [Nat.zero_add]; exact hr k hk)
      simp only [Nat.zero_add] at q
      exact q
    rw [e1]
    exact h
def sp__law_product : DSp := fun ds P => ∃ p m top a b : Nat, ds = [fld p m top, .int a, .int b] ∧ Sz p m ∧ P (.im (.int (mul p m top a b : Nat)))
theorem len__law_product {ds P} (h : sp__law_product ds P) : ds.length = 3 := by obtain ⟨_, _, _, _, _, rfl, _⟩ := h; rfl
theorem ch_bd {p : Nat} {r : Nat → Int} (hp : 0 < p) (h : ∀ l, 0 ≤ r l ∧ r l < p) (i : Nat) (v : Int) : ∀ l, 0 ≤ ch r i (v % (p : Int)) l ∧ ch r i (v % (p : Int)) l < p := fun l => by
  unfold ch
  split
  · exact ⟨Int.emod_nonneg _ (by omega), Int.emod_lt_of_pos _ (by omega)⟩
  · exact h l
theorem wo_step {p m n : Nat} {t r : Nat → Int} {i k : Nat} {x z : Int} (hi : i < n) (hc : cg p (wo m t n r k) z) : cg p (wo m t n (ch r i ((r i + x) % (p : Int))) k) (z + x * E m t i k) := by
  rw [wo_ch m t n r i _ k hi]
  refine cg.add hc ((cg.mul ?_ (cg.refl _)))
  have q := (cg_emod (p := p) (r i + x)).sub (cg.refl (r i))
  rw [show r i + x - r i = x by omega] at q
  exact q
def t__law_product : DTS := (dSeq (dAsg (dVar 0) (gTu 3 (gCo (gNm 3) (gCo (gNm 4) (gCo (gNm 5) gNi)))))
    (dSeq (dAsg (dOp oMul (dLst (dCons (dC (.int 0)) dNil)) (dOp oSub (dOp oMul (dC (.int 2)) (dVar 4)) (dC (.int 1)))) (gNm 6))
    (dSeq (dFor (dEnum (dCons (dCall sp__law_digits (dCons (dVar 0) (dCons (dVar 1) dNil))) dNil)) (gTu 2 (gCo (gNm 7) (gCo (gNm 8) gNi))) (dFor (dEnum (dCons (dCall sp__law_digits (dCons (dVar 0) (dCons (dVar 2) dNil))) dNil)) (gTu 2 (gCo (gNm 9) (gCo (gNm 10) gNi))) (dSetIx 6 (dOp oMod (dOp oAdd (dOp oIx (dVar 6) (dOp oAdd (dVar 7) (dVar 9))) (dOp oMul (dVar 8) (dVar 10))) (dVar 3)) (dOp oAdd (dVar 7) (dVar 9)))))
    (dSeq (dFor (dRng3 (dConsH (dOp oSub (dOp oMul (dC (.int 2)) (dVar 4)) (dC (.int 2))) (dConsH (dOp oSub (dVar 4) (dC (.int 1))) (dConsH (dUn oNeg (dC (.int 1))) dNil)))) (gNm 11) (dFor (dEnum (dCons (dCall sp__law_digits (dCons (dVar 0) (dCons (dVar 5) dNil))) dNil)) (gTu 2 (gCo (gNm 9) (gCo (gNm 8) gNi))) (dSeq (dAsg (dOp oAdd (dOp oSub (dVar 11) (dVar 4)) (dVar 9)) (gNm 12))
    (dSetIx 6 (dOp oMod (dOp oAdd (dOp oIx (dVar 6) (dVar 12)) (dOp oMul (dOp oIx (dVar 6) (dVar 11)) (dVar 8))) (dVar 3)) (dVar 12)))))
    (dRet (dCall sp__law_number (dCons (dVar 0) (dCons (dSl (dVar 6) dNoPart (dPart (dVar 4))) dNil))))))))
theorem pure__law_product (ds : List D) (P : R → Prop) (h : sp__law_product ds P) : runD t__law_product P (startN 13 ds) := by
  obtain ⟨p, m, top, a, b, rfl, hs, h⟩ := h
  have hp := hs.p0
  have hp64 := hs.p64
  have hm := hs.m6
  have hm1 := hs.m1
  have hN : ((2 : Int) * (m : Int) - 1).toNat = 2 * m - 1 := by omega
  have sz : ∀ k : Nat, k ≤ 20 → k ≤ sizeLine := fun k hk => Nat.le_trans hk (by decide)
  refine ⟨rfl, rfl, sz _ (by decide), .inl (.inl ⟨by decide, by decide⟩), by omega, by omega, by rw [hN]; exact sz _ (by simp; omega), ?_⟩
  rw [hN]
  let t := vec p top
  let N := 2 * m - 1
  let A := vec p a
  let B := vec p b
  refine ⟨p, m, top, a, rfl, hs, fun j ρ => ∃ (r : Nat → Int) (x7 x8 x9 x10 : Option Sl), (∀ l, 0 ≤ r l ∧ r l < p) ∧ (∀ k, k < m → cg p (wo m t N r k) (sm j fun i => sm m fun l => A i * B l * E m t (i + l) k)) ∧
    ρ = [some (.im (fld p m top)), some (.im (.int a)), some (.im (.int b)), some (.im (.int p)), some (.im (.int m)), some (.im (.int top)), some (.ow (rD N r)), x7, x8, x9, x10, none, none], ⟨fun _ => 0, _, _, _, _, fun _ => ⟨Int.le_refl _, by show (0 : Int) < p; omega⟩, fun k _ => ?_, by rw [← rD_zero]; rfl⟩, ?_, ?_⟩
  · show cg p (sm N fun l => 0 * E m t l k) 0
    rw [sm_congr (g := fun _ => 0) fun l _ => Int.zero_mul _, sm_zero]; exact cg.refl _
  · rintro j d _ hd ⟨r, x7, x8, x9, x10, hr, hc, rfl⟩
    obtain ⟨hj, rfl⟩ := enum_rD hd
    refine ⟨rfl, rfl, p, m, top, b, rfl, hs, fun l ρ => ∃ (r : Nat → Int) (x9 x10 : Option Sl), (∀ l, 0 ≤ r l ∧ r l < p) ∧ (∀ k, k < m → cg p (wo m t N r k) ((sm j fun i => sm m fun l => A i * B l * E m t (i + l) k) + sm l fun l => A j * B l * E m t (j + l) k)) ∧
      ρ = [some (.im (fld p m top)), some (.im (.int a)), some (.im (.int b)), some (.im (.int p)), some (.im (.int m)), some (.im (.int top)), some (.ow (rD N r)), some (.im (.int (j : Nat))), some (.im (.int (A j))), x9, x10, none, none], ⟨r, _, _, hr, fun k hk => ?_, rfl⟩, ?_, ?_⟩
    · show cg p _ (_ + 0)
      rw [Int.add_zero]; exact hc k hk
    · rintro l d _ hd ⟨r, x9, x10, hr, hc, rfl⟩
      obtain ⟨hl, rfl⟩ := enum_rD hd
      have hjl : j + l < N := by show j + l < 2 * m - 1; omega
      have e1 : ((j : Nat) : Int) + ((l : Nat) : Int) = ((j + l : Nat) : Int) := by omega
      have vb : vec p b l < p := by unfold vec; have := dg_lt hp b l; omega
      have vb0 : 0 ≤ vec p b l := by unfold vec; omega
      refine ⟨rfl, rfl, .int (r (j + l)), by rw [e1]; exact rD_at r hjl, .inl (.inr ⟨by omega, by omega⟩), by omega, j + l, by rw [e1]; exact rD_ix r hjl, ?_⟩
      refine ⟨ch r (j + l) ((r (j + l) + A j * B l) % (p : Int)), _, _, ch_bd hp hr _ _, fun k hk => ?_, by rw [← rD_set]; rfl⟩
      show cg p _ (_ + (sm l _ + _))
      rw [← Int.add_assoc]
      exact wo_step hjl (hc k hk)
    · rintro _ ⟨r, x9, x10, hr, hc, rfl⟩
      rw [enumD_len, rD_len] at hc
      exact ⟨r, _, _, _, _, hr, hc, rfl⟩
  · rintro _ ⟨r, x7, x8, x9, x10, hr, hc, rfl⟩
    rw [enumD_len, rD_len] at hc
    have hc2 : ∀ k, k < m → cg p (wo m t N r k) (pr m t A B k) := hc
    clear hc
    refine ⟨.inl (.inl ⟨by decide, by decide⟩), m - 1, by
      have q := RgC.neg (i := 2 * (m : Int) - 2) (j := (m : Int) - 1) (by omega) (by omega) (by omega) (by omega)
      rw [show (2 * (m : Int) - 2 - ((m : Int) - 1)).toNat = m - 1 by omega] at q
      exact q, fun i ρ => ∃ (r : Nat → Int) (x7 x8 x9 x10 x11 x12 : Option Sl), (∀ l, 0 ≤ r l ∧ r l < p) ∧ (∀ k, k < m → cg p (wo m t (N - i) r k) (pr m t A B k)) ∧
      ρ = [some (.im (fld p m top)), some (.im (.int a)), some (.im (.int b)), some (.im (.int p)), some (.im (.int m)), some (.im (.int top)), some (.ow (rD N r)), x7, x8, x9, x10, x11, x12], ⟨r, _, _, _, _, _, _, hr, hc2, rfl⟩, ?_, ?_⟩
    · rintro i d _ hd ⟨r, x7, x8, x9, x10, x11, x12, hr, hc, rfl⟩
      obtain ⟨hi, rfl⟩ := rngCD_get hd
      have hn : ∃ n, n = N - i - 1 := ⟨_, rfl⟩
      obtain ⟨n, hn⟩ := hn
      have hnN : n = 2 * m - 2 - i := by show n = _; rw [hn]; show 2 * m - 1 - i - 1 = _; omega
      have hmn : m ≤ n := by omega
      have hnN2 : n < N := by show n < 2 * m - 1; omega
      have hNi : N - i = n + 1 := by show 2 * m - 1 - i = _; omega
      rw [hNi] at hc
      have ep : 2 * (m : Int) - 2 + (i : Int) * (-1) = (n : Int) := by omega
      have hE : ∀ k, k < m → E m t n k = sm m fun l => t l * E m t (n - m + l) k := fun k hk => by
        have q := E_rec (m := m) (t := t) (by omega) (n - m) k hk
        rw [show m + (n - m) = n by omega] at q
        rw [q]
        exact sm_congr fun l _ => by rw [Nat.add_comm]
      refine ⟨p, m, top, top, rfl, hs, fun l ρ => ∃ (r : Nat → Int) (x8 x9 x12 : Option Sl), (∀ l, 0 ≤ r l ∧ r l < p) ∧ (∀ k, k < m → cg p (wo m t n r k + r n * (E m t n k - sm l fun l => t l * E m t (n - m + l) k)) (pr m t A B k)) ∧
        ρ = [some (.im (fld p m top)), some (.im (.int a)), some (.im (.int b)), some (.im (.int p)), some (.im (.int m)), some (.im (.int top)), some (.ow (rD N r)), x7, x8, x9, x10, some (.im (.int (n : Nat))), x12], ⟨r, _, _, _, hr, fun k hk => ?_, by rw [← ep]; rfl⟩, ?_, ?_⟩
      · show cg p (wo m t n r k + r n * (E m t n k - 0)) _
        rw [Int.sub_zero]
        exact hc k hk
      · rintro l d _ hd ⟨r, x8, x9, x12, hr, hc, rfl⟩
        obtain ⟨hl, rfl⟩ := enum_rD hd
        have e1 : ((n : Nat) : Int) - (m : Int) + ((l : Nat) : Int) = ((n - m + l : Nat) : Int) := by omega
        have hat : n - m + l < n := by omega
        have hatN : n - m + l < N := by omega
        have vt : vec p top l < p := by unfold vec; have := dg_lt hp top l; omega
        have vt0 : 0 ≤ vec p top l := by unfold vec; omega
        refine ⟨rfl, rfl, .int (r (n - m + l)), by rw [e1]; exact rD_at r hatN, .int (r n), rD_at r hnN2, .inl (.inr ⟨by omega, by omega⟩), by omega, n - m + l, by rw [e1]; exact rD_ix r hatN, ?_⟩
        refine ⟨ch r (n - m + l) ((r (n - m + l) + r n * t l) % (p : Int)), _, _, _, ch_bd hp hr _ _, fun k hk => ?_, by rw [← rD_set]; rfl⟩
        have en : ch r (n - m + l) ((r (n - m + l) + r n * t l) % (p : Int)) n = r n := by unfold ch; rw [if_neg (by omega)]
        rw [en]
        have q := wo_step (p := p) (m := m) (t := t) (r := r) (i := n - m + l) (n := n) (k := k) (x := r n * t l) hat (cg.refl _)
        refine (q.add (cg.refl _)).trans ?_
        have e3 : wo m t n r k + r n * t l * E m t (n - m + l) k + r n * (E m t n k - sm (l + 1) fun l => t l * E m t (n - m + l) k) = wo m t n r k + r n * (E m t n k - sm l fun l => t l * E m t (n - m + l) k) := by
          show _ + r n * (E m t n k - (sm l (fun l => t l * E m t (n - m + l) k) + t l * E m t (n - m + l) k)) = _
          rw [Int.mul_assoc, Int.mul_sub, Int.mul_sub, Int.mul_add]
          omega
        rw [e3]
        exact hc k hk
      · rintro _ ⟨r, x8, x9, x12, hr, hc, rfl⟩
        rw [enumD_len, rD_len] at hc
        refine ⟨r, _, _, _, _, _, _, hr, fun k hk => ?_, rfl⟩
        have q := hc k hk
        rw [← hE k hk, Int.sub_self, Int.mul_zero, Int.add_zero] at q
        rw [show N - (i + 1) = n by omega]
        exact q
    · rintro _ ⟨r, x7, x8, x9, x10, x11, x12, hr, hc, rfl⟩
      rw [rngCD_len, show N - (m - 1) = m by show 2 * m - 1 - (m - 1) = m; omega] at hc
      refine ⟨p, m, top, m, r, by rw [← rD_cut r (show m ≤ N by show m ≤ 2 * m - 1; omega)]; rfl, hs, fun k _ => hr k, ?_⟩
      have e : ofD p r m = mul p m top a b := ofD_congr fun k hk => by
        have q := hc k hk
        rw [wo_low r t hk] at q
        exact q
      rw [e]
      exact h

end PF
namespace PF
open PySem PySem.Spec PyProof.Rows L2 DL FM
theorem fm_rng {lo : Int} {f : D → Option D} {g : Nat → D} : ∀ {n : Nat}, (∀ j, j < n → f (.int (lo + (j : Int))) = some (g j)) → (rngD lo n).filterMap f = (List.range n).map g := fun {n} h => by
  unfold rngD
  rw [List.filterMap_map]
  have : ∀ l : List Nat, (∀ j, j ∈ l → j < n) → l.filterMap (f ∘ fun i => D.int (lo + (i : Nat))) = l.map g := fun l => by
    induction l with
    | nil => intro _; rfl
    | cons x l ih =>
      intro hl
      have hx : (f ∘ fun i => D.int (lo + (i : Nat))) x = some (g x) := h x (hl x (List.mem_cons_self ..))
      rw [List.filterMap_cons_some hx, List.map_cons, ih fun j hj => hl j (List.mem_cons_of_mem _ hj)]
  exact this _ fun j hj => List.mem_range.mp hj
theorem rngD_mem {lo : Int} {n : Nat} {d : D} (h : d ∈ rngD lo n) : ∃ i, i < n ∧ d = .int (lo + (i : Int)) := by
  obtain ⟨i, h⟩ := List.mem_iff_getElem?.mp h
  obtain ⟨h1, h2⟩ := rngD_get h
  exact ⟨i, h1, h2⟩
theorem bls_range (b : Nat → Bool) (n : Nat) : blsOf ((List.range n).map fun j => D.bl (b j)) = some ((List.range n).map b) := by
  have : (List.range n).map (fun j => D.bl (b j)) = ((List.range n).map b).map D.bl := by rw [List.map_map]; rfl
  rw [this, blsOf_bls]
theorem all_range (b : Nat → Bool) (n : Nat) : ((List.range n).map b).all id = (List.range n).all b := by rw [List.all_map]; rfl
def isF (f : Nat → Bool) : D → Option D
  | .int x => some (.bl (f x.toNat))
  | _ => none
theorem isF_rng (f : Nat → Bool) (lo : Nat) (n : Nat) : (rngD (lo : Int) n).filterMap (isF f) = (List.range n).map fun j => D.bl (f (lo + j)) := fm_rng fun j _ => by
  show some (D.bl (f ((lo : Int) + (j : Int)).toNat)) = _
  rw [show ((lo : Int) + (j : Int)).toNat = lo + j by omega]
theorem sz1 {n : Nat} (h : n ≤ 1000) : n ≤ sizeLine := Nat.le_trans h (by decide)
theorem goodB_false {p m top i : Nat} (h1 : i < min (p ^ m) (p ^ (m / 2 + 1)) - 1) (h : goodAt p m top (1 + i) = false) : goodB p m top = false := by
  cases q : goodB p m top with
  | false => rfl
  | true =>
    have q2 := List.all_eq_true.mp q i (List.mem_range.mpr h1)
    rw [h] at q2; cases q2
theorem half_pow {p m : Nat} (s : Sz p m) : p ^ (m / 2 + 1) ≤ 64 := s.pk (by have := s.m1; omega)
def pmD (x : Nat × Nat) : D := .tup [.int x.1, .int x.2]
theorem pms_one {p m : Nat} (h : (p, m) ∈ pms) : (p, 1) ∈ pms := by
  have : pms.all (fun x => decide ((x.1, 1) ∈ pms)) = true := by decide +kernel
  exact of_decide_eq_true (List.all_eq_true.mp this _ h)
def sp__law_is_good : DSp := fun ds P => ∃ p m top : Nat, ds = [fld p m top] ∧ Sz p m ∧ top < p ^ m ∧ P (.im (.bl (goodB p m top)))
theorem len__law_is_good {ds P} (h : sp__law_is_good ds P) : ds.length = 1 := by obtain ⟨_, _, _, rfl, _⟩ := h; rfl
def t__law_is_good : DTS := (dSeq (dAsg (dVar 0) (gTu 3 (gCo (gNm 1) (gCo (gNm 2) (gCo (gNm 3) gNi)))))
    (dSeq (dAsg (dCall sp__law_raised (dCons (dVar 1) (dCons (dVar 2) dNil))) (gNm 4))
    (dSeq (dFor (dRng2 (dConsH (dC (.int 1)) (dConsH (dCB oMin2 (dConsH (dVar 4) (dConsH (dCall sp__law_raised (dCons (dVar 1) (dCons (dOp oAdd (dOp oDiv (dVar 2) (dC (.int 2))) (dC (.int 1))) dNil))) dNil))) dNil))) (gNm 5) (dIf (dNot (dTru (dCB oAll (dConsH (dLc (dRng2 (dConsH (dC (.int 1)) (dConsH (dVar 4) dNil))) (gNm 6) tYesD (dOp (oGt) (dCall sp__law_product (dCons (dVar 0) (dCons (dVar 5) (dCons (dVar 6) dNil)))) (dC (.int 0))) [6]) dNil)))) (dRet (dC (.bl false))) dNext))
    (dRet (dC (.bl true))))))
theorem pure__law_is_good (ds : List D) (P : R → Prop) (h : sp__law_is_good ds P) : runD t__law_is_good P (startN 7 ds) := by
  obtain ⟨p, m, top, rfl, hs, ht, h⟩ := h
  have hp := hs.p0
  have hp2 := hs.p2
  have hp64 := hs.p64
  have hm := hs.m6
  have hm1 := hs.m1
  have hN := hs.few
  have hH := half_pow hs
  have e1 : (m : Int) / 2 + 1 = ((m / 2 + 1 : Nat) : Int) := by omega
  refine ⟨rfl, rfl, p, m, rfl, by omega, by omega, by omega, cdiv64 (p := 2) (by decide) (by decide), p, m / 2 + 1, by rw [← e1]; rfl, by omega, by omega, by omega, ⟨by decide, by decide⟩, ?_, fun i ρ => ∃ x5 : Option Sl, (∀ i', i' < i → goodAt p m top (1 + i') = true) ∧ ρ = [some (.im (fld p m top)), some (.im (.int p)), some (.im (.int m)), some (.im (.int top)), some (.im (.int ((p ^ m : Nat) : Int))), x5, none], ⟨_, fun i' hi => by omega, rfl⟩, ?_, ?_⟩
  · show okR (if ((p ^ (m / 2 + 1) : Nat) : Int) < ((p ^ m : Nat) : Int) then ((p ^ (m / 2 + 1) : Nat) : Int) else ((p ^ m : Nat) : Int))
    rw [min2]
    exact ⟨by omega, by omega⟩
  · rintro i d _ hd ⟨x5, hall, rfl⟩
    obtain ⟨hi, rfl⟩ := rngD_get hd
    dsimp only at hi
    rw [min2] at hi
    have hi2 : i < min (p ^ m) (p ^ (m / 2 + 1)) - 1 := by omega
    have e2 : (1 : Int) + (i : Int) = ((1 + i : Nat) : Int) := by omega
    refine ⟨⟨by decide, by decide⟩, ⟨by omega, by omega⟩, rfl, lcL_fn (isF fun b => decide (0 < mul p m top (1 + i) b)) _ [] _ (by rw [rngD_len]; show 0 + _ ≤ _; omega) (fun d hd C hC => ?_) ?_⟩
    · obtain ⟨j, hj, rfl⟩ := rngD_mem hd
      have e3 : (1 : Int) + (j : Int) = ((1 + j : Nat) : Int) := by omega
      refine ⟨fun _ => ⟨p, m, top, 1 + i, 1 + j, by rw [← e2, ← e3]; rfl, hs, rfl, ?_⟩, fun h => (nomatch h)⟩
      have q : C (some (.bl (decide (0 < mul p m top (1 + i) ((1 : Int) + (j : Int)).toNat)))) := hC
      rw [show ((1 : Int) + (j : Int)).toNat = 1 + j by omega] at q
      have e4 : decide ((0 : Int) < ((mul p m top (1 + i) (1 + j) : Nat) : Int)) = decide (0 < mul p m top (1 + i) (1 + j)) := by
        by_cases z : 0 < mul p m top (1 + i) (1 + j)
        · rw [decide_eq_true z, decide_eq_true (by omega)]
        · rw [decide_eq_false z, decide_eq_false (by omega)]
      show C (some (.bl (decide ((0 : Int) < ((mul p m top (1 + i) (1 + j) : Nat) : Int)))))
      rw [e4]; exact q
    · rw [List.nil_append]
      have e5 : (rngD 1 (((p ^ m : Nat) : Int) - 1).toNat).filterMap (isF fun b => decide (0 < mul p m top (1 + i) b)) = (List.range (p ^ m - 1)).map fun j => D.bl (decide (0 < mul p m top (1 + i) (1 + j))) := by
        rw [show (((p ^ m : Nat) : Int) - 1).toNat = p ^ m - 1 by omega]
        exact isF_rng _ 1 _
      refine ⟨_, by rw [e5]; exact bls_range _ _, ?_⟩
      refine ⟨fun h1 => ?_, fun h1 => ?_⟩
      · have g : goodAt p m top (1 + i) = false := by
          unfold goodAt
          have h2 : (!(((List.range (p ^ m - 1)).map fun j => decide (0 < mul p m top (1 + i) (1 + j))).all id)) = true := h1
          rw [all_range] at h2
          simpa using h2
        rw [goodB_false hi2 g] at h
        exact h
      · refine ⟨_, fun i' hi' => ?_, rfl⟩
        by_cases e : i' = i
        · subst e
          unfold goodAt
          have h2 : (!(((List.range (p ^ m - 1)).map fun j => decide (0 < mul p m top (1 + i') (1 + j))).all id)) = false := h1
          rw [all_range] at h2
          simpa using h2
        · exact hall i' (by omega)
  · rintro _ ⟨x5, hall, rfl⟩
    rw [rngD_len] at hall
    dsimp only at hall
    rw [min2] at hall
    have g : goodB p m top = true := List.all_eq_true.mpr fun i hi => hall i (by have := List.mem_range.mp hi; omega)
    rw [g] at h
    exact h
def sp__law_field : DSp := fun ds P => ds = [.purse] ∧ ∀ p m top : Nat, Fl p m top → P (.im (fld p m top))
theorem len__law_field {ds P} (h : sp__law_field ds P) : ds.length = 1 := by obtain ⟨rfl, _⟩ := h; rfl
def v__law_field_0 : DTS := (dAsg (dLst (dCons (dTup (dCons (dC (.int 2)) (dCons (dC (.int 1)) dNil))) (dCons (dTup (dCons (dC (.int 2)) (dCons (dC (.int 2)) dNil))) (dCons (dTup (dCons (dC (.int 2)) (dCons (dC (.int 3)) dNil))) (dCons (dTup (dCons (dC (.int 2)) (dCons (dC (.int 4)) dNil))) (dCons (dTup (dCons (dC (.int 3)) (dCons (dC (.int 1)) dNil))) (dCons (dTup (dCons (dC (.int 3)) (dCons (dC (.int 2)) dNil))) (dCons (dTup (dCons (dC (.int 3)) (dCons (dC (.int 3)) dNil))) (dCons (dTup (dCons (dC (.int 5)) (dCons (dC (.int 1)) dNil))) (dCons (dTup (dCons (dC (.int 5)) (dCons (dC (.int 2)) dNil))) (dCons (dTup (dCons (dC (.int 7)) (dCons (dC (.int 1)) dNil))) (dCons (dTup (dCons (dC (.int 11)) (dCons (dC (.int 1)) dNil))) (dCons (dTup (dCons (dC (.int 13)) (dCons (dC (.int 1)) dNil))) dNil))))))))))))) (gNm 1))
def v__law_field_1 : DTS := (dAsg (dCall sp__law_pick (dCons (dVar 0) (dCons (dC (.int 8)) dNil))) (gNm 2))
def v__law_field_2 : DTS := (dIf (dTest (dOp (oEq) (dVar 2) (dC (.int 7)))) (dAsg (dLst (dCons (dTup (dCons (dC (.int 2)) (dCons (dC (.int 5)) dNil))) (dCons (dTup (dCons (dC (.int 2)) (dCons (dC (.int 6)) dNil))) (dCons (dTup (dCons (dC (.int 7)) (dCons (dC (.int 2)) dNil))) (dCons (dTup (dCons (dC (.int 61)) (dCons (dC (.int 1)) dNil))) dNil))))) (gNm 1)) dNext)
def v__law_field_3 : DTS := (dIf (dTest (dOp (oEq) (dVar 2) (dC (.int 6)))) (dAsg (dLc (dSeqI (dLst (dCons (dC (.int 17)) (dCons (dC (.int 19)) (dCons (dC (.int 23)) (dCons (dC (.int 29)) (dCons (dC (.int 31)) (dCons (dC (.int 37)) (dCons (dC (.int 41)) (dCons (dC (.int 43)) (dCons (dC (.int 47)) (dCons (dC (.int 53)) (dCons (dC (.int 59)) dNil))))))))))))) (gNm 3) tYesD (dTup (dCons (dVar 3) (dCons (dC (.int 1)) dNil))) [3]) (gNm 1)) dNext)
def v__law_field_4 : DTS := (dAsg (dOp oIx (dVar 1) (dCall sp__law_pick (dCons (dVar 0) (dCons (dCB oLen (dConsH (dVar 1) dNil)) dNil)))) (gTu 2 (gCo (gNm 3) (gCo (gNm 4) gNi))))
def v__law_field_5 : DTS := (dAsg (dCall sp__law_raised (dCons (dVar 3) (dCons (dVar 4) dNil))) (gNm 5))
def v__law_field_6 : DTS := (dAsg (dCall sp__law_pick (dCons (dVar 0) (dCons (dVar 5) dNil))) (gNm 6))
def v__law_field_7 : DTS := (dFor (dRng1 (dConsH (dVar 5) dNil)) (gNm 7) (dSeq (dAsg (dTup (dCons (dVar 3) (dCons (dVar 4) (dCons (dOp oMod (dOp oAdd (dVar 6) (dVar 7)) (dVar 5)) dNil)))) (gNm 8))
    (dIf (dOr (dTest (dOp (oEq) (dVar 4) (dC (.int 1)))) (dTru (dCall sp__law_is_good (dCons (dVar 8) dNil)))) (dRet (dVar 8)) dNext)))
def v__law_field_8 : DTS := (dRet (dTup (dCons (dVar 3) (dCons (dC (.int 1)) (dCons (dC (.int 0)) dNil)))))
def u__law_field_8 : DTS := v__law_field_8
def u__law_field_7 : DTS := dSeq v__law_field_7 u__law_field_8
def u__law_field_6 : DTS := dSeq v__law_field_6 u__law_field_7
def u__law_field_5 : DTS := dSeq v__law_field_5 u__law_field_6
def u__law_field_4 : DTS := dSeq v__law_field_4 u__law_field_5
def u__law_field_3 : DTS := dSeq v__law_field_3 u__law_field_4
def u__law_field_2 : DTS := dSeq v__law_field_2 u__law_field_3
def u__law_field_1 : DTS := dSeq v__law_field_1 u__law_field_2
def u__law_field_0 : DTS := dSeq v__law_field_0 u__law_field_1
def t__law_field : DTS := u__law_field_0
theorem field_rest (P : R → Prop) (h : ∀ p m top : Nat, Fl p m top → P (.im (fld p m top))) (l : List (Nat × Nat)) (hl : ∀ x, x ∈ l → x ∈ pms) (h0 : 0 < l.length) (h9 : l.length ≤ 64) (x2 x3 x4 x5 x6 x7 x8 : Option Sl) :
    u__law_field_4 (fun _ => P (.im .non)) P (fun _ => False) (fun _ => False) [some (.im .purse), some (.ow (l.map pmD)), x2, x3, x4, x5, x6, x7, x8] := by
  refine ⟨((l.map pmD).length : Int), rfl, by rw [List.length_map]; omega, by rw [List.length_map]; omega, fun w hw0 hw1 => ?_⟩
  rw [List.length_map] at hw1
  obtain ⟨j, rfl⟩ : ∃ j : Nat, w = (j : Int) := ⟨w.toNat, by omega⟩
  have hj : j < l.length := by omega
  obtain ⟨⟨p, m⟩, hpm⟩ : ∃ x, l[j]? = some x := ⟨_, List.getElem?_eq_getElem hj⟩
  have hin : (p, m) ∈ pms := hl _ (List.mem_of_getElem? hpm)
  have hs := pms_sz hin
  have hp := hs.p0
  have hp64 := hs.p64
  have hm := hs.m6
  have hN := hs.few
  have hN0 : 0 < p ^ m := Nat.pow_pos hp
  refine ⟨pmD (p, m), atI_nat (by rw [List.getElem?_map, hpm]; rfl), rfl, rfl, p, m, rfl, by omega, by omega, by omega, ?_⟩
  refine ⟨((p ^ m : Nat) : Int), rfl, by omega, by omega, fun st hs0 hs1 => ?_⟩
  obtain ⟨s, rfl⟩ : ∃ s : Nat, st = (s : Int) := ⟨st.toNat, by omega⟩
  refine ⟨⟨by omega, by omega⟩, fun i ρ => ∃ x7 x8 : Option Sl, ρ = [some (.im .purse), some (.ow (l.map pmD)), x2, some (.im (.int p)), some (.im (.int m)), some (.im (.int ((p ^ m : Nat) : Int))), some (.im (.int (s : Int))), x7, x8], ⟨_, _, rfl⟩, ?_, ?_⟩
  · rintro i d _ hd ⟨x7, x8, rfl⟩
    obtain ⟨hi, rfl⟩ := rngD_get hd
    have e1 : ((s : Int) + (0 + (i : Int))) % ((p ^ m : Nat) : Int) = (((s + i) % p ^ m : Nat) : Int) := by
      rw [Int.zero_add, ← Int.natCast_add, ← Int.natCast_emod]
    have ht : (s + i) % p ^ m < p ^ m := Nat.mod_lt _ hN0
    refine ⟨by omega, sz1 (show 3 ≤ 1000 by decide), fun h1 => ⟨fun _ => ?_, fun h => (nomatch h)⟩, fun h1 => ?_⟩
    · have em : m = 1 := by
        have : (m : Int) = 1 := of_decide_eq_true h1
        omega
      have q := h p m ((s + i) % p ^ m) ⟨hin, ht, .inl em⟩
      unfold fld at q
      rw [← e1] at q
      exact q
    · refine ⟨p, m, (s + i) % p ^ m, by unfold fld; rw [← e1]; rfl, hs, ht, fun g => ?_, fun g => ?_⟩
      · have q := h p m ((s + i) % p ^ m) ⟨hin, ht, .inr g⟩
        unfold fld at q
        rw [← e1] at q
        exact q
      · exact ⟨_, _, rfl⟩
  · rintro _ ⟨x7, x8, rfl⟩
    refine ⟨sz1 (show 3 ≤ 1000 by decide), ?_⟩
    exact h p 1 0 ⟨pms_one hin, by rw [Nat.pow_one]; exact hp, .inl rfl⟩
theorem pure__law_field (ds : List D) (P : R → Prop) (h : sp__law_field ds P) : runD t__law_field P (startN 9 ds) := by
  obtain ⟨rfl, h⟩ := h
  have z2 : (2 : Nat) ≤ sizeLine := sz1 (by decide)
  refine ⟨z2, z2, z2, z2, z2, z2, z2, z2, z2, z2, z2, z2, sz1 (show 12 ≤ 1000 by decide), 8, rfl, by decide, by decide, fun size h0 h1 => ?_⟩
  have two : ∀ (l : List (Nat × Nat)) (hl : ∀ x, x ∈ l → x ∈ pms) (h0 : 0 < l.length) (h9 : l.length ≤ 64), u__law_field_3 (fun _ => P (.im .non)) P (fun _ => False) (fun _ => False) [some (.im .purse), some (.ow (l.map pmD)), some (.im (.int size)), none, none, none, none, none, none] := fun l hl h0 h9 => by
    refine ⟨fun _ => ?_, fun _ => field_rest P h l hl h0 h9 _ _ _ _ _ _ _⟩
    refine ⟨sz1 (show 11 ≤ 1000 by decide), rfl, lcL_ints (fun i => some (.tup [.int i, .int 1])) [17, 19, 23, 29, 31, 37, 41, 43, 47, 53, 59] [] _ (by decide) (fun d hd C hC => ?_) ?_⟩
    · exact ⟨fun _ => ⟨z2, rfl, hC⟩, fun h => (nomatch h)⟩
    · exact field_rest P h [(17, 1), (19, 1), (23, 1), (29, 1), (31, 1), (37, 1), (41, 1), (43, 1), (47, 1), (53, 1), (59, 1)] (by decide) (by decide) (by decide) _ _ _ _ _ _ _
  refine ⟨fun _ => ?_, fun _ => ?_⟩
  · refine ⟨z2, z2, z2, z2, sz1 (show 4 ≤ 1000 by decide), ?_⟩
    exact two [(2, 5), (2, 6), (7, 2), (61, 1)] (by decide) (by decide) (by decide)
  · exact two [(2, 1), (2, 2), (2, 3), (2, 4), (3, 1), (3, 2), (3, 3), (5, 1), (5, 2), (7, 1), (11, 1), (13, 1)] (by decide) (by decide) (by decide)

def sp__law_same (n : Nat) : DSp := fun ds P => ∃ d, ds = [d, d] ∧ IT n d ∧ P (.im (.bl true))
theorem len__law_same {n ds P} (h : sp__law_same n ds P) : ds.length = 2 := by obtain ⟨_, rfl, _⟩ := h; rfl
theorem sp0__law_same {ds P} (h : sp__law_same 0 ds P) : False := by obtain ⟨_, _, h, _⟩ := h; exact h
theorem trues_bls : ∀ n : Nat, blsOf (List.replicate n (D.bl true)) = some (List.replicate n true) := fun n => by
  have : List.replicate n (D.bl true) = (List.replicate n true).map D.bl := by rw [List.map_replicate]
  rw [this, blsOf_bls]
theorem trues_all (n : Nat) : (List.replicate n true).all id = true := by
  rw [List.all_eq_true]
  intro x hx
  exact (List.mem_replicate.mp hx).2
theorem fm_const {α β : Type} (b : β) : ∀ l : List α, l.filterMap (fun _ => some b) = List.replicate l.length b
  | [] => rfl
  | x :: l => by
    show b :: l.filterMap (fun _ => some b) = _
    rw [fm_const b l]; rfl
def t__law_same (n : Nat) : DTS := (dSeq (dIf (dTru (dIsi "tuple" (dVar 1))) (dSeq (dIf (dOr (dNot (dTru (dIsi "tuple" (dVar 0)))) (dTest (dOp (oNe) (dCB oLen (dConsH (dVar 0) dNil)) (dCB oLen (dConsH (dVar 1) dNil))))) (dRet (dC (.bl false))) dNext)
    (dRet (dCB oAll (dConsH (dLc (dZip (dCons (dVar 0) (dCons (dVar 1) dNil))) (gTu 2 (gCo (gNm 2) (gCo (gNm 3) gNi))) tYesD (dCall (sp__law_same n) (dCons (dVar 2) (dCons (dVar 3) dNil))) [2, 3]) dNil)))) dNext)
    (dRet (dAndV (dIsi "int" (dVar 0)) (dAndV (dNotV (dIsi "bool" (dVar 0))) (dOp (oEq) (dVar 0) (dVar 1))))))
theorem pure__law_same (n : Nat) (ds : List D) (P : R → Prop) (h : sp__law_same (n + 1) ds P) : runD (t__law_same n) P (startN 4 ds) := by
  obtain ⟨d, rfl, hI, h⟩ := h
  unfold IT at hI
  split at hI
  · rename_i i
    refine ⟨fun h => absurd h (by decide), fun _ => ?_⟩
    refine ⟨fun _ => ⟨fun _ => ?_, fun h => absurd h (by decide)⟩, fun h => absurd h (by decide)⟩
    show P (.im (.bl (decide (i = i))))
    rw [decide_eq_true rfl]; exact h
  · rename_i xs
    obtain ⟨hl, hx⟩ := hI
    refine ⟨fun _ => ?_, fun h => absurd h (by decide)⟩
    refine ⟨fun h => absurd h (by decide), fun _ => ?_⟩
    refine ⟨fun h => absurd h (by simp), fun _ => ?_⟩
    refine ⟨rfl, lcL_fn (fun _ => some (.bl true)) _ [] _ (by rw [zipD_len]; show 0 + _ ≤ _; omega) (fun d hd C hC => ?_) ?_⟩
    · obtain ⟨i, hi⟩ := List.mem_iff_getElem?.mp hd
      obtain ⟨e, f, h1, h2, rfl⟩ := zipD_get hi
      rw [h1] at h2
      cases h2
      exact ⟨rfl, rfl, fun _ => ⟨e, rfl, hx e (List.mem_of_getElem? h1), rfl, hC⟩, fun h => (nomatch h)⟩
    · rw [List.nil_append, fm_const]
      refine ⟨_, trues_bls _, ?_⟩
      show P (.im (.bl ((List.replicate _ true).all id)))
      rw [trues_all]
      exact h
  · exact hI.elim
end PF
namespace FM
open PF
def addD (p : Nat) : Nat → Nat → Nat → Nat
  | 0, _, _ => 0
  | n + 1, a, b => (a + b) % p + p * addD p n (a / p) (b / p)
def smulD (p c : Nat) : Nat → Nat → Nat
  | 0, _ => 0
  | n + 1, a => c * a % p + p * smulD p c n (a / p)
def addQ (p m a b : Nat) : Nat := bif Nat.beq p 2 then Nat.xor a b else addD p m a b
def smulQ (p m c a : Nat) : Nat := bif Nat.beq p 2 then (bif Nat.beq (c % 2) 0 then 0 else a) else smulD p c m a
def liftQ (p m top a : Nat) : Nat := addQ p m (a % p ^ (m - 1) * p) (smulQ p m (a / p ^ (m - 1)) top)
def mulL (p m top : Nat) : Nat → Nat → Nat → Nat → Nat
  | 0, _, _, acc => acc
  | n + 1, a, cur, acc => mulL p m top n (a / p) (liftQ p m top cur) (addQ p m acc (smulQ p m (a % p) cur))
theorem ofD_head (p : Nat) (f : Nat → Int) (n : Nat) : ofD p f (n + 1) = (f 0 % (p : Int)).toNat + p * ofD p (fun k => f (k + 1)) n := by
  induction n with
  | zero => show 0 + (f 0 % (p : Int)).toNat * p ^ 0 = _ + p * 0; simp
  | succ n ih =>
    show ofD p f (n + 1) + (f (n + 1) % (p : Int)).toNat * p ^ (n + 1) = _ + p * (ofD p (fun k => f (k + 1)) n + (f (n + 1) % (p : Int)).toNat * p ^ n)
    rw [ih, Nat.mul_add, Nat.pow_succ, Nat.add_assoc]
    congr 2
    rw [Nat.mul_comm (p ^ n), ← Nat.mul_assoc, ← Nat.mul_assoc, Nat.mul_comm p]
theorem vec_div (p a k : Nat) : vec p a (k + 1) = vec p (a / p) k := by
  unfold vec dg
  rw [Nat.pow_succ, Nat.mul_comm, ← Nat.div_div_eq_div_mul]
theorem vec0 (p a : Nat) : vec p a 0 = ((a % p : Nat) : Int) := by unfold vec dg; rw [Nat.pow_zero, Nat.div_one]
theorem addD_eq (p : Nat) : ∀ n a b : Nat, addD p n a b = ofD p (fun k => vec p a k + vec p b k) n
  | 0, _, _ => rfl
  | n + 1, a, b => by
    rw [ofD_head, vec0, vec0]
    have e : ((((a % p : Nat) : Int) + ((b % p : Nat) : Int)) % (p : Int)).toNat = (a + b) % p := by
      rw [← Int.natCast_add, ← Int.natCast_emod, ← Nat.add_mod]; rfl
    rw [e]
    have e2 : (fun k => vec p a (k + 1) + vec p b (k + 1)) = fun k => vec p (a / p) k + vec p (b / p) k := by funext k; rw [vec_div, vec_div]
    rw [e2, ← addD_eq p n]; rfl
theorem smulD_eq (p c : Nat) : ∀ n a : Nat, smulD p c n a = ofD p (fun k => (c : Int) * vec p a k) n
  | 0, _ => rfl
  | n + 1, a => by
    rw [ofD_head, vec0]
    have e : (((c : Int) * ((a % p : Nat) : Int)) % (p : Int)).toNat = c * a % p := by
      rw [← Int.natCast_mul, ← Int.natCast_emod, Nat.mul_mod c a, Nat.mul_mod c (a % p), Nat.mod_mod]; rfl
    rw [e]
    have e2 : (fun k => (c : Int) * vec p a (k + 1)) = fun k => (c : Int) * vec p (a / p) k := by funext k; rw [vec_div]
    rw [e2, ← smulD_eq p c n]; rfl
theorem addQ_eq {p m a b : Nat} (ha : a < p ^ m) (hb : b < p ^ m) : addQ p m a b = add p m a b := by
  unfold addQ
  cases h : Nat.beq p 2 with
  | true =>
    have := Nat.eq_of_beq_eq_true h
    subst this
    exact (add_xor ha hb).symm
  | false => exact addD_eq p m a b
theorem smulQ_eq {p m c a : Nat} (ha : a < p ^ m) : smulQ p m c a = smul p m c a := by
  unfold smulQ
  cases h : Nat.beq p 2 with
  | true =>
    have := Nat.eq_of_beq_eq_true h
    subst this
    have cgc : cg 2 (c : Int) ((c % 2 : Nat) : Int) := by
      have q := (cg_emod (p := 2) (c : Int)).symm
      rw [← Int.natCast_emod] at q; exact q
    have e : smul 2 m c a = smul 2 m (c % 2) a := ofD_congr fun k _ => cgc.mul (cg.refl _)
    rw [e]
    rcases Nat.mod_two_eq_zero_or_one c with q | q
    · rw [q, smul_zero]; rfl
    · rw [q]
      have e2 : smul 2 m 1 a = ofD 2 (vec 2 a) m := ofD_congr fun k _ => by
        rw [show ((1 : Nat) : Int) = 1 from rfl, Int.one_mul]; exact cg.refl _
      rw [e2, ofD_self (by decide) ha]; rfl
  | false => exact smulD_eq p c m a
theorem liftQ_eq {p m top a : Nat} (F : Pm p m top) (ha : a < p ^ m) : liftQ p m top a = lift p m top a := by
  unfold liftQ
  rw [smulQ_eq F.top, addQ_eq (lift_low F a) (smul_lt F _ _), lift_eq F ha]
theorem mulL_eq {p m top : Nat} (F : Pm p m top) (a b : Nat) : ∀ n i : Nat, mulL p m top n (a / p ^ i) (liftN p m top i b) (mulS p m top a b i) = mulS p m top a b (i + n)
  | 0, i => rfl
  | n + 1, i => by
    show mulL p m top n (a / p ^ i / p) (liftQ p m top (liftN p m top i b)) (addQ p m (mulS p m top a b i) (smulQ p m (a / p ^ i % p) (liftN p m top i b))) = _
    rw [liftQ_eq F (liftN_lt F _ _), smulQ_eq (liftN_lt F _ _), addQ_eq (mulS_lt F _ _ _) (smul_lt F _ _), ← liftN_succ F, ← mulS_succ F, Nat.div_div_eq_div_mul, ← Nat.pow_succ, mulL_eq F a b n (i + 1), show i + 1 + n = i + (n + 1) by omega]
def mulQ (p m top a b : Nat) : Nat := mulL p m top m a b 0
theorem mulQ_eq {p m top a b : Nat} (F : Pm p m top) (ha : a < p ^ m) (hb : b < p ^ m) : mulQ p m top a b = mul p m top a b := by
  have h := mulL_eq F a b m 0
  rw [Nat.pow_zero, Nat.div_one, liftN_zero F hb, mulS_zero, Nat.zero_add, ← mulS_stop F ha (Nat.le_refl m)] at h
  exact h
def goodQ (p m top : Nat) : Bool := (List.range (min (p ^ m) (p ^ (m / 2 + 1)) - 1)).all fun i => (List.range (p ^ m - 1)).all fun j => Nat.ble 1 (mulQ p m top (1 + i) (1 + j))
theorem all_congr {α : Type} {l : List α} {f g : α → Bool} (h : ∀ x, x ∈ l → f x = g x) : l.all f = l.all g := by
  induction l with
  | nil => rfl
  | cons x l ih => rw [List.all_cons, List.all_cons, h x (List.mem_cons_self ..), ih fun y hy => h y (List.mem_cons_of_mem _ hy)]
theorem goodQ_eq {p m top : Nat} (F : Pm p m top) : goodB p m top = goodQ p m top := by
  unfold goodB goodQ goodAt
  refine all_congr fun i hi => all_congr fun j hj => ?_
  have h1 := List.mem_range.mp hi
  have h2 := List.mem_range.mp hj
  rw [mulQ_eq F (by omega) (by omega)]
  cases q : Nat.ble 1 (mul p m top (1 + i) (1 + j)) with
  | true => exact decide_eq_true (Nat.le_of_ble_eq_true q)
  | false => exact decide_eq_false fun z => by rw [Nat.ble_eq_true_of_le z] at q; cases q
def least : List (Nat × Nat × Nat) := [(2, 1, 0), (2, 2, 3), (2, 3, 3), (2, 4, 3), (2, 5, 5), (2, 6, 3), (3, 1, 0), (3, 2, 2), (3, 3, 4), (5, 1, 0), (5, 2, 2), (7, 1, 0), (7, 2, 3), (11, 1, 0), (13, 1, 0), (17, 1, 0), (19, 1, 0), (23, 1, 0), (29, 1, 0), (31, 1, 0), (37, 1, 0), (41, 1, 0), (43, 1, 0), (47, 1, 0), (53, 1, 0), (59, 1, 0), (61, 1, 0)]
end FM
namespace FM
open PF
def pwQ (p m top g : Nat) : Nat → Nat → Option (List Nat)
  | 0, a => bif Nat.beq a 1 then some [] else none
  | n + 1, a => bif Nat.beq a 1 then some [] else (pwQ p m top g n (mulQ p m top a g)).map (a :: ·)
def pws (p m top g : Nat) : Option (List Nat) := (pwQ p m top g (p ^ m) g).map (1 :: ·)
def genOk (p m top : Nat) : Nat → Nat → Option (Nat × List Nat)
  | 0, _ => none
  | n + 1, g => match pws p m top g with
    | some l => bif Nat.blt l.length (p ^ m - 1) then genOk p m top n (g + 1) else (bif Nat.beq l.length (p ^ m - 1) then some (g, l) else none)
    | none => none
def memQ (a : Nat) : List Nat → Bool
  | [] => false
  | b :: l => Nat.beq a b || memQ a l
def ndQ : List Nat → Bool
  | [] => true
  | b :: l => !memQ b l && ndQ l
def tabQ (p m top : Nat) : Bool := match genOk p m top (p ^ m - 1) 1 with
  | some (_, l) => (List.range (p ^ m - 1)).all (fun a => memQ (1 + a) l) && ndQ l && l.all (fun a => Nat.ble 1 a)
  | none => false
def goodTops : List (Nat × Nat × List Nat) := [(2, 2, [3]), (2, 3, [3, 5]), (2, 4, [3, 9, 15]), (2, 5, [5, 9, 15, 23, 27, 29]), (2, 6, [3, 9, 23, 27, 33, 39, 45, 51, 53]), (3, 2, [2, 4, 7]), (3, 3, [4, 5, 11, 13, 17, 19, 23, 25]), (5, 2, [2, 3, 8, 9, 11, 12, 16, 17, 23, 24]), (7, 2, [3, 5, 6, 8, 10, 11, 16, 18, 19, 22, 23, 27, 29, 30, 34, 37, 39, 40, 43, 45, 46])]
def topsOk (x : Nat × Nat × List Nat) : Bool := (List.range (x.1 ^ x.2.1)).all fun t => bif memQ t x.2.2 then tabQ x.1 x.2.1 t else !goodQ x.1 x.2.1 t
def plainPs : List Nat := [2, 3, 5, 7, 11, 13, 17, 19, 23, 29, 31, 37, 41, 43, 47, 53, 59, 61]
def gp (p m top g : Nat) : Nat → Nat
  | 0 => 1
  | i + 1 => mul p m top (gp p m top g i) g
section
variable {p m top g a b n i j : Nat} (F : Pm p m top)
include F
theorem gp_lt (i : Nat) : gp p m top g i < p ^ m := by
  cases i with
  | zero => exact F.one_lt
  | succ i => exact mul_lt F _ _
theorem gp_one (hg : g < p ^ m) : gp p m top g 1 = g := one_mul F hg
theorem gp_add (i j : Nat) : gp p m top g (i + j) = mul p m top (gp p m top g i) (gp p m top g j) := by
  induction j with
  | zero => exact (mul_one F (gp_lt F i)).symm
  | succ j ih =>
    show mul p m top (gp p m top g (i + j)) g = mul p m top _ (mul p m top (gp p m top g j) g)
    rw [ih, mul_assoc F]
theorem gp_mul {s : Nat} (h : gp p m top g s = 1) (k : Nat) : gp p m top g (s * k) = 1 := by
  induction k with
  | zero => rfl
  | succ k ih => rw [Nat.mul_succ, gp_add F, ih, h, mul_one F F.one_lt]
theorem gp_mod {s : Nat} (h : gp p m top g s = 1) (i : Nat) : gp p m top g (i % s) = gp p m top g i := by
  have e := Nat.div_add_mod i s
  have q : gp p m top g i = gp p m top g (s * (i / s) + i % s) := by rw [e]
  rw [q, gp_add F, gp_mul F h, one_mul F (gp_lt F _)]
theorem pwQ_ok (hg : g < p ^ m) : ∀ (n k : Nat) (l : List Nat), pwQ p m top g n (gp p m top g k) = some l → (∀ i, i < l.length → l[i]? = some (gp p m top g (k + i)) ∧ gp p m top g (k + i) ≠ 1) ∧ gp p m top g (k + l.length) = 1
  | 0, k, l, h => by
    unfold pwQ at h
    cases e : Nat.beq (gp p m top g k) 1 with
    | true =>
      rw [e] at h
      cases h
      exact ⟨fun i hi => absurd hi (Nat.not_lt_zero i), Nat.eq_of_beq_eq_true e⟩
    | false => rw [e] at h; cases h
  | n + 1, k, l, h => by
    unfold pwQ at h
    cases e : Nat.beq (gp p m top g k) 1 with
    | true =>
      rw [e] at h
      cases h
      exact ⟨fun i hi => absurd hi (Nat.not_lt_zero i), Nat.eq_of_beq_eq_true e⟩
    | false =>
      rw [e] at h
      have h2 : (pwQ p m top g n (mulQ p m top (gp p m top g k) g)).map (gp p m top g k :: ·) = some l := h
      rw [mulQ_eq F (gp_lt F k) hg] at h2
      cases q : pwQ p m top g n (mul p m top (gp p m top g k) g) with
      | none => rw [q] at h2; cases h2
      | some l2 =>
        rw [q] at h2
        cases h2
        obtain ⟨h3, h4⟩ := pwQ_ok hg n (k + 1) l2 q
        have ne : gp p m top g k ≠ 1 := Nat.ne_of_beq_eq_false e
        refine ⟨fun i hi => ?_, by rw [List.length_cons, show k + (l2.length + 1) = k + 1 + l2.length by omega]; exact h4⟩
        cases i with
        | zero => exact ⟨rfl, ne⟩
        | succ i =>
          rw [List.length_cons] at hi
          have := h3 i (by omega)
          rw [show k + (i + 1) = k + 1 + i by omega]
          exact this
structure Pw (p m top g : Nat) (l : List Nat) : Prop where
  pos : 0 < l.length
  at_ : ∀ i, i < l.length → l[i]? = some (gp p m top g i)
  no : ∀ i, 0 < i → i < l.length → gp p m top g i ≠ 1
  end_ : gp p m top g l.length = 1
theorem pws_ok (hg : g < p ^ m) {l : List Nat} (h : pws p m top g = some l) : Pw p m top g l := by
  unfold pws at h
  cases q : pwQ p m top g (p ^ m) g with
  | none => rw [q] at h; cases h
  | some r =>
    rw [q] at h
    cases h
    have e : gp p m top g 1 = g := gp_one F hg
    rw [← e] at q
    obtain ⟨h1, h2⟩ := pwQ_ok F (g := gp p m top g 1) (by rw [e]; exact hg) (p ^ m) 1 r (by rw [e] at q ⊢; rw [e]; exact q)
    rw [e] at h1 h2
    refine ⟨Nat.succ_pos _, fun i hi => ?_, fun i h0 hi => ?_, by rw [List.length_cons, Nat.add_comm]; exact h2⟩
    · cases i with
      | zero => rfl
      | succ i =>
        rw [List.length_cons] at hi
        rw [List.getElem?_cons_succ, Nat.add_comm]
        exact (h1 i (by omega)).1
    · obtain ⟨k, rfl⟩ : ∃ k, i = k + 1 := ⟨i - 1, by omega⟩
      rw [List.length_cons] at hi
      rw [Nat.add_comm]
      exact (h1 k (by omega)).2
end
theorem memQ_ok {a : Nat} : ∀ {l : List Nat}, memQ a l = true → a ∈ l
  | [], h => by cases h
  | b :: l, h => by
    unfold memQ at h
    rw [Bool.or_eq_true] at h
    rcases h with h | h
    · rw [Nat.eq_of_beq_eq_true h]; exact List.mem_cons_self ..
    · exact List.mem_cons_of_mem _ (memQ_ok h)
theorem memQ_no {a : Nat} : ∀ {l : List Nat}, memQ a l = false → a ∉ l
  | [], _ => fun h => by cases h
  | b :: l, h => by
    unfold memQ at h
    rw [Bool.or_eq_false_iff] at h
    intro q
    rcases List.mem_cons.mp q with q | q
    · exact Nat.ne_of_beq_eq_false h.1 q
    · exact memQ_no h.2 q
theorem ndQ_ok : ∀ {l : List Nat}, ndQ l = true → l.Nodup
  | [], _ => List.nodup_nil
  | b :: l, h => by
    unfold ndQ at h
    rw [Bool.and_eq_true] at h
    exact List.nodup_cons.mpr ⟨memQ_no (by simpa using h.1), ndQ_ok h.2⟩
end FM
namespace FM
open PF
structure Tb (p m top g : Nat) (l : List Nat) : Prop extends Pw p m top g l where
  g1 : 1 ≤ g
  glt : g < p ^ m
  len : l.length = p ^ m - 1
  all : ∀ a, 1 ≤ a → a < p ^ m → a ∈ l
  nd : l.Nodup
  ge : ∀ a, a ∈ l → 1 ≤ a
section
variable {p m top g : Nat}
theorem genOk_some : ∀ {n g0 g : Nat} {l : List Nat}, genOk p m top n g0 = some (g, l) → g0 ≤ g ∧ g < g0 + n ∧ pws p m top g = some l ∧ l.length = p ^ m - 1
  | 0, _, _, _, h => by cases h
  | n + 1, g0, g, l, h => by
    unfold genOk at h
    cases q : pws p m top g0 with
    | none => rw [q] at h; cases h
    | some r =>
      rw [q] at h
      cases e : Nat.blt r.length (p ^ m - 1) with
      | true =>
        have h2 : (bif Nat.blt r.length (p ^ m - 1) then genOk p m top n (g0 + 1) else (bif Nat.beq r.length (p ^ m - 1) then some (g0, r) else none)) = some (g, l) := h
        rw [e] at h2
        obtain ⟨h3, h4, h5, h6⟩ := genOk_some (n := n) h2
        exact ⟨by omega, by omega, h5, h6⟩
      | false =>
        have h2 : (bif Nat.blt r.length (p ^ m - 1) then genOk p m top n (g0 + 1) else (bif Nat.beq r.length (p ^ m - 1) then some (g0, r) else none)) = some (g, l) := h
        rw [e] at h2
        cases e2 : Nat.beq r.length (p ^ m - 1) with
        | true =>
          rw [e2] at h2
          cases h2
          exact ⟨Nat.le_refl _, by omega, q, Nat.eq_of_beq_eq_true e2⟩
        | false => rw [e2] at h2; cases h2
theorem tab_of (F : Pm p m top) (h : tabQ p m top = true) : ∃ g l, genOk p m top (p ^ m - 1) 1 = some (g, l) ∧ Tb p m top g l := by
  unfold tabQ at h
  cases q : genOk p m top (p ^ m - 1) 1 with
  | none => rw [q] at h; cases h
  | some x =>
    obtain ⟨g, l⟩ := x
    rw [q] at h
    have h2 : ((List.range (p ^ m - 1)).all (fun a => memQ (1 + a) l) && ndQ l && l.all (fun a => Nat.ble 1 a)) = true := h
    rw [Bool.and_eq_true, Bool.and_eq_true] at h2
    obtain ⟨⟨h3, h4⟩, h5⟩ := h2
    obtain ⟨g1, g2, g3, g4⟩ := genOk_some q
    have glt : g < p ^ m := by have := F.one_lt; omega
    refine ⟨g, l, rfl, pws_ok F glt g3, g1, glt, g4, fun a h6 h7 => ?_, ndQ_ok h4, fun a ha => Nat.le_of_ble_eq_true (List.all_eq_true.mp h5 a ha)⟩
    have q2 := List.all_eq_true.mp h3 (a - 1) (List.mem_range.mpr (by omega))
    rw [show 1 + (a - 1) = a by omega] at q2
    exact memQ_ok q2
theorem pwQ_one (n : Nat) : ∀ a, pwQ p 1 top g n a = pwQ p 1 0 g n a := by
  induction n with
  | zero => intro a; rfl
  | succ n ih =>
    intro a
    unfold pwQ
    rw [ih]; rfl
theorem genOk_one : ∀ n g, genOk p 1 top n g = genOk p 1 0 n g := fun n => by
  induction n with
  | zero => intro g; rfl
  | succ n ih =>
    intro g
    unfold genOk pws
    rw [pwQ_one, ih]
theorem tabQ_one : tabQ p 1 top = tabQ p 1 0 := by
  unfold tabQ
  rw [genOk_one]
theorem plain_tabs : plainPs.all (fun p => tabQ p 1 0) = true := by decide +kernel
theorem good_tabs : goodTops.all topsOk = true := by decide +kernel
theorem pms_plain {p m : Nat} (h : (p, m) ∈ pms) : p ∈ plainPs := by
  have : pms.all (fun x => decide (x.1 ∈ plainPs)) = true := by decide +kernel
  exact of_decide_eq_true (List.all_eq_true.mp this _ h)
theorem pms_more {p m : Nat} (h : (p, m) ∈ pms) : m = 1 ∨ ∃ G, (p, m, G) ∈ goodTops := by
  have : pms.all (fun x => decide (x.2 = 1) || goodTops.any fun y => decide (y.1 = x.1) && decide (y.2.1 = x.2)) = true := by decide +kernel
  have q := List.all_eq_true.mp this _ h
  rw [Bool.or_eq_true] at q
  rcases q with q | q
  · exact .inl (of_decide_eq_true q)
  · obtain ⟨⟨p', m', G⟩, hy, hd⟩ := List.any_eq_true.mp q
    rw [Bool.and_eq_true] at hd
    have e1 : p' = p := of_decide_eq_true hd.1
    have e2 : m' = m := of_decide_eq_true hd.2
    subst e1 e2
    exact .inr ⟨G, hy⟩
theorem fl_tab (f : Fl p m top) : tabQ p m top = true := by
  rcases pms_more f.pm with e | ⟨G, hG⟩
  · subst e
    rw [tabQ_one]
    exact List.all_eq_true.mp plain_tabs p (pms_plain f.pm)
  · by_cases e : m = 1
    · subst e
      rw [tabQ_one]
      exact List.all_eq_true.mp plain_tabs p (pms_plain f.pm)
    · have q := List.all_eq_true.mp (List.all_eq_true.mp good_tabs _ hG) top (List.mem_range.mpr f.tp)
      have q2 : (bif memQ top G then tabQ p m top else !goodQ p m top) = true := q
      cases e2 : memQ top G with
      | true => rw [e2] at q2; exact q2
      | false =>
        rw [e2] at q2
        have q3 : (!goodQ p m top) = true := q2
        rw [← goodQ_eq (f.sz.pm f.tp)] at q3
        rcases f.good with h | h
        · exact absurd h e
        · rw [h] at q3; cases q3
theorem fl_tb (f : Fl p m top) : ∃ g l, genOk p m top (p ^ m - 1) 1 = some (g, l) ∧ Tb p m top g l := tab_of (f.sz.pm f.tp) (fl_tab f)
variable {l : List Nat} (T : Tb p m top g l) (F : Pm p m top)
include T F
theorem Tb.size : 0 < p ^ m - 1 := by have := F.one_lt; omega
theorem Tb.log {a : Nat} (h1 : 1 ≤ a) (h2 : a < p ^ m) : ∃ i, i < p ^ m - 1 ∧ l[i]? = some a ∧ gp p m top g i = a := by
  obtain ⟨i, h⟩ := List.mem_iff_getElem?.mp (T.all a h1 h2)
  have hi : i < l.length := (List.getElem?_eq_some_iff.mp h).1
  have e := T.at_ i hi
  rw [h] at e
  exact ⟨i, by rw [← T.len]; exact hi, h, (Option.some.inj e).symm⟩
theorem Tb.inj {i j a : Nat} (h : l[i]? = some a) (q : l[j]? = some a) : i = j := by
  have hi : i < l.length := (List.getElem?_eq_some_iff.mp h).1
  have hj : j < l.length := (List.getElem?_eq_some_iff.mp q).1
  have := (List.getElem?_inj hi T.nd).mp (h.trans q.symm)
  exact this
theorem Tb.gp_end : gp p m top g (p ^ m - 1) = 1 := by rw [← T.len]; exact T.end_
theorem Tb.get {i : Nat} : l[i % (p ^ m - 1)]? = some (gp p m top g i) := by
  have h : i % (p ^ m - 1) < l.length := by rw [T.len]; exact Nat.mod_lt _ (T.size F)
  rw [T.at_ _ h, gp_mod F (T.gp_end F)]
theorem Tb.gp_pos (i : Nat) : 1 ≤ gp p m top g i := T.ge _ (List.mem_of_getElem? (T.get F (i := i)))
theorem Tb.mul_pos {a b : Nat} (h1 : 1 ≤ a) (h2 : a < p ^ m) (h3 : 1 ≤ b) (h4 : b < p ^ m) : 1 ≤ mul p m top a b := by
  obtain ⟨i, _, _, rfl⟩ := T.log F h1 h2
  obtain ⟨j, _, _, rfl⟩ := T.log F h3 h4
  rw [← gp_add F]
  exact T.gp_pos F _
end
end FM
namespace PF
open PySem PySem.Spec PyProof.Rows L2 DL FM
def primeB (n : Nat) : Bool := decide (1 < n) && (List.range (n - 2)).all fun i => decide (0 < n % (2 + i))
def fieldB (p m top : Int) : Bool := decide (1 < p) && decide (p < 64) && primeB p.toNat && decide (0 < m) && decide (m < 7) && decide (p.toNat ^ m.toNat ≤ 64) && decide (0 ≤ top) && decide (top < ((p.toNat ^ m.toNat : Nat) : Int)) && goodB p.toNat m.toNat top.toNat
def isFieldD : D → Bool
  | .tup [.int p, .int m, .int top] => fieldB p m top
  | _ => false
end PF
namespace PF
open PySem PySem.Spec PyProof.Rows L2 DL FM
theorem ltK {n : Nat} (k : Nat) (e : n = k) (h : k < 1000) : n < 1000 := by rw [e]; exact h
theorem lcL_eq {g : DTG} {tt : DTT} {te : DTE} {ρw : Rh} (f : D → Option D) (ds acc zs : List D) (P : List D → Prop) (hl : acc.length + ds.length ≤ 10000000) (ht : ∀ d, d ∈ ds → ∀ C : Option D → Prop, C (f d) → lcTurn g tt te ρw d C) (e : acc ++ ds.filterMap f = zs) (h : P zs) : dLcL g tt te ρw ds acc P := lcL_fn f ds acc P hl ht (by rw [e]; exact h)
theorem genOk_step {p m top n g G : Nat} {L : List Nat} (h : genOk p m top (n + 1) g = some (G, L)) : ∃ r, pws p m top g = some r ∧ ((r.length < p ^ m - 1 ∧ genOk p m top n (g + 1) = some (G, L)) ∨ r = L) := by
  unfold genOk at h
  cases q : pws p m top g with
  | none => rw [q] at h; cases h
  | some r =>
    rw [q] at h
    have h2 : (bif Nat.blt r.length (p ^ m - 1) then genOk p m top n (g + 1) else (bif Nat.beq r.length (p ^ m - 1) then some (g, r) else none)) = some (G, L) := h
    refine ⟨r, rfl, ?_⟩
    cases e : Nat.blt r.length (p ^ m - 1) with
    | true =>
      rw [e] at h2
      exact .inl ⟨Nat.le_of_ble_eq_true e, h2⟩
    | false =>
      rw [e] at h2
      cases e2 : Nat.beq r.length (p ^ m - 1) with
      | true => rw [e2] at h2; cases h2; exact .inr rfl
      | false => rw [e2] at h2; cases h2
def logsL : Nat → List Nat → List (Key × D)
  | _, [] => []
  | s, a :: r => (.inl (a : Nat), .int (s : Nat)) :: logsL (s + 1) r
def tupsL : Nat → List Nat → List D
  | _, [] => []
  | s, a :: r => .tup [.int (a : Nat), .int (s : Nat)] :: tupsL (s + 1) r
def thD (l : List Nat) : List D := l.map fun a => .int (a : Nat)
def tabF (p m top : Nat) (l : List Nat) : List (Str × D) := [("field", fld p m top), ("p", .int p), ("many", .int ((p ^ m : Nat) : Int)), ("size", .int (((p ^ m : Nat) : Int) - 1)), ("powers", .lst (thD l)), ("logs", .dic (logsL 0 l))]
def tabD (p m top : Nat) (l : List Nat) : D := .obj "Table" (tabF p m top l)
theorem thD_len (l : List Nat) : (thD l).length = l.length := by unfold thD; rw [List.length_map]
theorem thD_get {l : List Nat} {i a : Nat} (h : l[i]? = some a) : (thD l)[i]? = some (.int (a : Nat)) := by unfold thD; rw [List.getElem?_map, h]; rfl
theorem pairs_tups : ∀ (s : Nat) (l : List Nat), pairsD (tupsL s l) = some (logsL s l)
  | _, [] => rfl
  | s, a :: r => by
    show (pairsD (tupsL (s + 1) r)).map _ = _
    rw [pairs_tups (s + 1) r]; rfl
theorem merge_logs : ∀ (s : Nat) (l : List Nat) (acc : List (Key × D)), l.Nodup → (∀ kv, kv ∈ acc → ∀ a, a ∈ l → kv.1 ≠ .inl ((a : Nat) : Int)) → mergeD acc (logsL s l) = acc ++ logsL s l
  | _, [], acc, _, _ => (List.append_nil acc).symm
  | s, a :: r, acc, nd, h => by
    obtain ⟨n1, n2⟩ := List.nodup_cons.mp nd
    show mergeD (putD acc (.inl (a : Nat)) (.int (s : Nat))) (logsL (s + 1) r) = _
    have e : putD acc (.inl ((a : Nat) : Int)) (.int (s : Nat)) = acc ++ [(.inl ((a : Nat) : Int), .int (s : Nat))] := by
      unfold putD
      rw [if_neg]
      intro q
      obtain ⟨kv, h1, h2⟩ := List.any_eq_true.mp q
      exact h kv h1 a (List.mem_cons_self ..) (of_decide_eq_true h2)
    rw [e, merge_logs (s + 1) r _ n2 fun kv hkv b hb => ?_]
    · rw [List.append_assoc]; rfl
    · rcases List.mem_append.mp hkv with q | q
      · exact h kv q b (List.mem_cons_of_mem _ hb)
      · have e2 : kv = (.inl ((a : Nat) : Int), .int (s : Nat)) := by simpa using q
        rw [e2]
        intro e3
        have e4 : ((a : Nat) : Int) = ((b : Nat) : Int) := Sum.inl.inj e3
        have e5 : a = b := by omega
        subst e5
        exact n1 hb
theorem val_logs : ∀ (s : Nat) (l : List Nat) (i a : Nat), l.Nodup → l[i]? = some a → valD (logsL s l) (.inl ((a : Nat) : Int)) = some (.int ((s + i : Nat) : Int))
  | s, [], i, a, _, h => by cases h
  | s, b :: r, i, a, nd, h => by
    obtain ⟨n1, n2⟩ := List.nodup_cons.mp nd
    cases i with
    | zero =>
      rw [List.getElem?_cons_zero] at h
      cases h
      exact valD_pos rfl
    | succ i =>
      rw [List.getElem?_cons_succ] at h
      have ne : b ≠ a := fun e => n1 (by rw [e]; exact List.mem_of_getElem? h)
      show valD ((.inl ((b : Nat) : Int), .int ((s : Nat) : Int)) :: logsL (s + 1) r) _ = _
      rw [valD_neg (fun e => by
        have e4 : ((b : Nat) : Int) = ((a : Nat) : Int) := Sum.inl.inj e
        omega), val_logs (s + 1) r i a n2 h, show s + 1 + i = s + (i + 1) by omega]
theorem plain_th : ∀ l : List Nat, plainL (thD l) = true
  | [] => rfl
  | a :: r => by
    show (true && plainL (thD r)) = true
    rw [plain_th r]; rfl
theorem plain_logs : ∀ (s : Nat) (l : List Nat), plainK (logsL s l) = true
  | _, [] => rfl
  | s, a :: r => by
    show (true && plainK (logsL (s + 1) r)) = true
    rw [plain_logs (s + 1) r]; rfl
def swapF : D → Option D
  | .tup [x, y] => some (.tup [y, x])
  | _ => none
theorem swap_enum (l : List Nat) : (enumD (thD l)).filterMap swapF = tupsL 0 l := by
  have : ∀ (l : List Nat) (s : Nat), ((thD l).mapIdx fun i d => D.tup [.int ((s + i : Nat) : Int), d]).filterMap swapF = tupsL s l := fun l => by
    induction l with
    | nil => intro s; rfl
    | cons a r ih =>
      intro s
      have e : (thD (a :: r)).mapIdx (fun i d => D.tup [.int ((s + i : Nat) : Int), d]) = .tup [.int ((s + 0 : Nat) : Int), .int (a : Nat)] :: (thD r).mapIdx (fun i d => D.tup [.int ((s + 1 + i : Nat) : Int), d]) := by
        unfold thD
        rw [List.map_cons, List.mapIdx_cons]
        congr 1
        congr 1
        funext i d
        rw [show s + (i + 1) = s + 1 + i by omega]
      rw [e]
      show .tup [.int (a : Nat), .int ((s + 0 : Nat) : Int)] :: List.filterMap swapF _ = _
      rw [ih (s + 1)]; rfl
  have q := this l 0
  simp only [Nat.zero_add] at q
  exact q
structure Tt (p m top g : Nat) (l : List Nat) : Prop where
  fl : Fl p m top
  tb : Tb p m top g l
section
variable {p m top g : Nat} {l : List Nat} (t : Tt p m top g l)
include t
theorem Tt.pm : Pm p m top := t.fl.sz.pm t.fl.tp
theorem Tt.val {a : Nat} (h1 : 1 ≤ a) (h2 : a < p ^ m) : ∃ i, i < p ^ m - 1 ∧ valD (logsL 0 l) (.inl ((a : Nat) : Int)) = some (.int (i : Nat)) ∧ gp p m top g i = a := by
  obtain ⟨i, hi, h3, h4⟩ := t.tb.log t.pm h1 h2
  refine ⟨i, hi, ?_, h4⟩
  have := val_logs 0 l i a t.tb.nd h3
  rw [Nat.zero_add] at this
  exact this
theorem Tt.at (i : Nat) : atI (thD l) (((i % (p ^ m - 1) : Nat)) : Int) = some (.int (gp p m top g i : Nat)) := atI_nat (thD_get (t.tb.get t.pm))
end
def sp_many_things : DSp := fun ds P => ∃ p m top : Nat, ds = [fld p m top] ∧ Sz p m ∧ P (.im (.int ((p ^ m : Nat) : Int)))
theorem len_many_things {ds P} (h : sp_many_things ds P) : ds.length = 1 := by obtain ⟨_, _, _, rfl, _⟩ := h; rfl
def t_many_things : DTS := (dRet (dCall sp_raised (dCons (dOp oIx (dVar 0) (dC (.int 0))) (dCons (dOp oIx (dVar 0) (dC (.int 1))) dNil))))
theorem pure_many_things (ds : List D) (P : R → Prop) (h : sp_many_things ds P) : runD t_many_things P (startN 1 ds) := by
  obtain ⟨p, m, top, rfl, hs, h⟩ := h
  have hp := hs.p0
  have hm := hs.m6
  have hN := hs.few
  exact ⟨_, rfl, _, rfl, p, m, rfl, by omega, by omega, by omega, h⟩
def sp_Table__powers_of : DSp := fun ds P => ∃ (p m top g : Nat) (fs : List (Str × D)) (l : List Nat), ds = [.obj "Table" fs, .int g] ∧ fs.lookup ("field" : Str) = some (fld p m top) ∧ Sz p m ∧ top < p ^ m ∧ g < p ^ m ∧ Pw p m top g l ∧ l.length ≤ 64 ∧ P (.fr (thD l))
theorem len_Table__powers_of {ds P} (h : sp_Table__powers_of ds P) : ds.length = 2 := by obtain ⟨_, _, _, _, _, _, rfl, _⟩ := h; rfl
theorem thD_take {l : List Nat} {k a : Nat} (h : l[k]? = some a) : thD (l.take k) ++ [.int (a : Nat)] = thD (l.take (k + 1)) := by
  unfold thD
  rw [take_succ_get h, List.map_append]; rfl
def t_Table__powers_of : DTS := (dSeq (dAsg (dLst (dCons (dC (.int 1)) dNil)) (gNm 2))
    (dSeq (dAsg (dVar 1) (gNm 3))
    (dSeq (dWhile (dTest (dOp (oNe) (dVar 3) (dC (.int 1)))) (dSeq (dAppend 2 (dVar 3))
    (dAsg (dCall sp_plain_times (dCons (dFld "Table" "field" (dVar 0)) (dCons (dVar 3) (dCons (dVar 1) dNil)))) (gNm 3))))
    (dRet (dVar 2)))))
theorem pure_Table__powers_of (ds : List D) (P : R → Prop) (h : sp_Table__powers_of ds P) : runD t_Table__powers_of P (startN 4 ds) := by
  obtain ⟨p, m, top, g, fs, l, rfl, hf, hs, ht, hg, W, hl, h⟩ := h
  have F := hs.pm ht
  have h0 := W.pos
  refine ⟨sz1 (show 1 ≤ 1000 by decide), fun i ρ => ∃ k, 1 ≤ k ∧ k ≤ l.length ∧ i = l.length - k ∧ ρ = [some (.im (.obj "Table" fs)), some (.im (.int g)), some (.ow (thD (l.take k))), some (.im (.int (gp p m top g k : Nat)))], ⟨l.length - 1, 1, Nat.le_refl _, h0, rfl, ?_⟩, ?_⟩
  · have e := W.at_ 0 h0
    have e2 := take_succ_get e
    rw [List.take_zero] at e2
    rw [gp_one F hg, e2]; rfl
  · rintro i _ ⟨k, h1, hk, rfl, rfl⟩
    refine ⟨fun h2 => ?_, fun h2 => ?_⟩
    · have h3 : (!decide (((gp p m top g k : Nat) : Int) = 1)) = true := h2
      have hkl : k < l.length := by
        refine Nat.lt_of_le_of_ne hk fun e => ?_
        subst e
        rw [W.end_] at h3; cases h3
      refine ⟨Nat.lt_of_lt_of_le (show (thD (l.take k)).length < 65 by rw [thD_len, List.length_take]; omega) (sz1 (by decide)), rfl, _, hf, p, m, top, _, g, rfl, hs, ht, gp_lt F k, hg, ?_⟩
      exact ⟨l.length - (k + 1), by omega, k + 1, by omega, hkl, rfl, by rw [← thD_take (W.at_ k hkl)]; rfl⟩
    · have h3 : (!decide (((gp p m top g k : Nat) : Int) = 1)) = false := h2
      have e1 : gp p m top g k = 1 := by
        have : ((gp p m top g k : Nat) : Int) = 1 := by simpa using h3
        omega
      have ek : k = l.length := by
        refine Nat.le_antisymm hk (Nat.le_of_not_lt fun z => ?_)
        exact W.no k h1 z e1
      subst ek
      rw [List.take_length]
      exact h
def sp_Table____init__ : DSp := fun ds P => ∃ p m top : Nat, ds = [fld p m top] ∧ Fl p m top ∧ ∀ g l, Tb p m top g l → P (.im (tabD p m top l))
theorem len_Table____init__ {ds P} (h : sp_Table____init__ ds P) : ds.length = 1 := by obtain ⟨_, _, _, rfl, _⟩ := h; rfl
def t_Table____init__ : ITS := (iThen (iPut "Table" "field" (dVar 1))
    (iThen (iPut "Table" "p" (dOp oIx (dVar 1) (dC (.int 0))))
    (iThen (iPut "Table" "many" (dCall sp_many_things (dCons (dVar 1) dNil)))
    (iThen (iPut "Table" "size" (dOp oSub (dFld "Table" "many" (dVar 0)) (dC (.int 1))))
    (iThen (iPut "Table" "powers" (dLst dNil))
    (iThen (iLet "Table" 1 (dC (.int 1)))
    (iThen (iLoop "Table" (dTest (dOp (oLt) (dCB oLen (dConsH (dFld "Table" "powers" (dVar 0)) dNil)) (dFld "Table" "size" (dVar 0)))) (iThen (iPut "Table" "powers" (dMeth "Table" "powers_of" sp_Table__powers_of (dVar 0) (dCons (dVar 2) dNil)))
    (iLet "Table" 1 (dOp oAdd (dVar 2) (dC (.int 1))))))
    (iPut "Table" "logs" (dCB oDictOf (dConsH (dLc (dEnum (dCons (dFld "Table" "powers" (dVar 0)) dNil)) (gTu 2 (gCo (gNm 3) (gCo (gNm 4) gNi))) tYesD (dTup (dCons (dVar 4) (dCons (dVar 3) dNil))) [3, 4]) dNil))))))))))
theorem pure_Table____init__ (ds : List D) (P : R → Prop) (h : sp_Table____init__ ds P) : t_Table____init__ (fun ρ fs => P (.im (.obj "Table" fs))) (startI ["self", "field", "maker", "at", "thing"] ds) [] := by
  obtain ⟨p, m, top, rfl, hF, h⟩ := h
  have hs := hF.sz
  have hN := hs.few
  have F := hs.pm hF.tp
  have h1N := F.one_lt
  obtain ⟨G, L, hgen, T⟩ := fl_tb hF
  have hP := h G L T
  let fs (c : List Nat) : List (Str × D) := [("field", fld p m top), ("p", .int p), ("many", .int ((p ^ m : Nat) : Int)), ("size", .int (((p ^ m : Nat) : Int) - 1)), ("powers", .lst (thD c))]
  refine ⟨rfl, Nat.succ_pos _, rfl, ltK 0 rfl (by decide), _, rfl, rfl, Nat.succ_pos _, rfl, ltK 1 rfl (by decide), p, m, top, rfl, hs, rfl, Nat.succ_pos _, rfl, ltK 2 rfl (by decide), rfl, _, rfl, rfl, Nat.succ_pos _, rfl, ltK 3 rfl (by decide), sz1 (show 0 ≤ 1000 by decide), rfl, Nat.succ_pos _, rfl, ltK 4 rfl (by decide), rfl, Nat.succ_pos _, rfl, ?_⟩
  refine ⟨fun i ρ f => ∃ (n g : Nat) (c : List Nat), f = fs c ∧ ρ = [none, some (.im (fld p m top)), some (.im (.int (g : Nat))), none, none] ∧ ((i = n + 1 ∧ c.length < p ^ m - 1 ∧ genOk p m top n g = some (G, L)) ∨ (i = 0 ∧ c = L)), ⟨_, p ^ m - 1, 1, [], rfl, rfl, .inl ⟨rfl, by show 0 < _; omega, hgen⟩⟩, ?_⟩
  rintro i _ _ ⟨n, g, c, rfl, rfl, hc⟩
  refine ⟨rfl, _, rfl, rfl, _, rfl, rfl, Nat.succ_pos _, fun h1 => ?_, fun h1 => ?_⟩
  · have h2 : (((thD c).length : Nat) : Int) < ((p ^ m : Nat) : Int) - 1 := of_decide_eq_true h1
    rw [thD_len] at h2
    rcases hc with ⟨rfl, h3, h4⟩ | ⟨_, rfl⟩
    · cases n with
      | zero => cases h4
      | succ n =>
        have glt : g < p ^ m := Nat.lt_of_le_of_lt (genOk_some h4).1 T.glt
        obtain ⟨r, h6, h7⟩ := genOk_step h4
        have W := pws_ok F glt h6
        have hr : r.length ≤ 64 := by
          rcases h7 with ⟨h7, _⟩ | rfl
          · omega
          · rw [T.len]; omega
        refine ⟨rfl, rfl, p, m, top, g, fs c, r, rfl, rfl, hs, hF.tp, glt, W, hr, rfl, Nat.succ_pos _, plain_th r, ltK 5 rfl (by decide), rfl, Nat.succ_pos _, rfl, ?_⟩
        have eg : ((g + 1 : Nat) : Int) = ((g : Nat) : Int) + 1 := by omega
        rcases h7 with ⟨h7, h8⟩ | rfl
        · exact ⟨n + 1, by omega, n, g + 1, r, rfl, by rw [eg]; rfl, .inl ⟨rfl, h7, h8⟩⟩
        · exact ⟨0, by omega, n, g + 1, r, rfl, by rw [eg]; rfl, .inr ⟨rfl, rfl⟩⟩
    · rw [T.len] at h2; omega
  · have h2 : ¬ (((thD c).length : Nat) : Int) < ((p ^ m : Nat) : Int) - 1 := of_decide_eq_false h1
    rw [thD_len] at h2
    rcases hc with ⟨_, h3, _⟩ | ⟨_, rfl⟩
    · omega
    have e : mergeD [] (logsL 0 c) = logsL 0 c := merge_logs 0 c [] T.nd fun kv h => by cases h
    refine ⟨rfl, _, rfl, rfl, lcL_eq swapF _ [] (tupsL 0 c) _ (by rw [enumD_len, thD_len, T.len]; show 0 + _ ≤ _; omega) (fun d hd C hC => ?_) (by rw [List.nil_append]; exact swap_enum c) ?_⟩
    · obtain ⟨i, hi⟩ := List.mem_iff_getElem?.mp hd
      obtain ⟨x, hx, rfl⟩ := enumD_get hi
      exact ⟨rfl, rfl, fun _ => ⟨sz1 (show 2 ≤ 1000 by decide), rfl, hC⟩, fun h => (nomatch h)⟩
    · refine ⟨logsL 0 c, pairs_tups 0 c, rfl, Nat.succ_pos _, ?_, ltK 5 rfl (by decide), ?_⟩
      · show plainK (mergeD [] (logsL 0 c)) = true
        rw [e]; exact plain_logs 0 c
      · show P (.im (.obj "Table" [("field", fld p m top), ("p", .int p), ("many", .int ((p ^ m : Nat) : Int)), ("size", .int (((p ^ m : Nat) : Int) - 1)), ("powers", .lst (thD c)), ("logs", .dic (mergeD [] (logsL 0 c)))]))
        rw [e]
        exact hP

end PF
namespace PF
open PySem PySem.Spec PyProof.Rows L2 DL FM
def sp_table_of : DSp := fun ds P => ∃ p m top : Nat, ds = [fld p m top] ∧ Fl p m top ∧ ∀ g l, Tt p m top g l → P (.im (tabD p m top l))
theorem len_table_of {ds P} (h : sp_table_of ds P) : ds.length = 1 := by obtain ⟨_, _, _, rfl, _⟩ := h; rfl
def t_table_of : DTS := (dRet (dCall sp_Table____init__ (dCons (dVar 0) dNil)))
theorem pure_table_of (ds : List D) (P : R → Prop) (h : sp_table_of ds P) : runD t_table_of P (startN 1 ds) := by
  obtain ⟨p, m, top, rfl, hF, h⟩ := h
  exact ⟨p, m, top, rfl, hF, fun g l T => h g l ⟨hF, T⟩⟩
end PF
namespace PF
open PySem PySem.Spec PyProof.Rows L2 DL FM
theorem pow_gp {p m top g i : Nat} (F : Pm p m top) (n : Nat) : gp p m top (gp p m top g i) n = gp p m top g (i * n) := by
  induction n with
  | zero => rfl
  | succ n ih =>
    show mul p m top (gp p m top (gp p m top g i) n) (gp p m top g i) = _
    rw [ih, ← gp_add F, Nat.mul_succ]
theorem gp_zero {p m top : Nat} (F : Pm p m top) (n : Nat) : gp p m top 0 n = if n = 0 then 1 else 0 := by
  cases n with
  | zero => rfl
  | succ n => exact mul_zero F _
end PF
namespace PF
open PySem PySem.Spec PyProof.Rows L2 DL FM
def ltabE (p m top : Nat) (l : List Nat) : List (Key × D) := [(.inr "field", fld p m top), (.inr "p", .int p), (.inr "m", .int m), (.inr "many", .int ((p ^ m : Nat) : Int)), (.inr "powers", .lst (thD l)), (.inr "logs", .dic (logsL 0 l))]
def ltabD (p m top : Nat) (l : List Nat) : D := .dic (ltabE p m top l)
def sp__law_times : DSp := fun ds P => ∃ (p m top g : Nat) (l : List Nat) (a b : Nat), ds = [ltabD p m top l, .int a, .int b] ∧ Tt p m top g l ∧ a < p ^ m ∧ b < p ^ m ∧ P (.im (.int (mul p m top a b : Nat)))
end PF
namespace PF
open PySem PySem.Spec PyProof.Rows L2 DL FM
def ThL (p m : Nat) (l : List Nat) : Prop := ∀ a, a ∈ l → a < p ^ m
theorem ThL.get {p m : Nat} {l : List Nat} {i a : Nat} (h : ThL p m l) (e : l[i]? = some a) : a < p ^ m := h a (List.mem_of_getElem? e)
theorem thD_mem {l : List Nat} {d : D} (h : d ∈ thD l) : ∃ a : Nat, a ∈ l ∧ d = .int (a : Nat) := by
  obtain ⟨a, h1, h2⟩ := List.mem_map.mp h
  exact ⟨a, h1, h2.symm⟩
def sumN (p m : Nat) (l : List Nat) : Nat := l.foldl (add p m) 0
theorem sumN_lt {p m : Nat} (hp : 0 < p) (l : List Nat) : sumN p m l < p ^ m := by
  unfold sumN
  have : ∀ (l : List Nat) (a : Nat), a < p ^ m → l.foldl (add p m) a < p ^ m := fun l => by
    induction l with
    | nil => exact fun a h => h
    | cons x l ih => exact fun a h => ih _ (ofD_lt hp _ _)
  exact this l 0 (Nat.pow_pos hp)
section
variable {p m top : Nat} (F : Pm p m top)
include F
theorem sumF (l : List Nat) : ∀ a, a < p ^ m → l.foldl (add p m) a = add p m a (sumN p m l) := by
  unfold sumN
  induction l with
  | nil => exact fun a h => (add_zero F h).symm
  | cons x l ih =>
    intro a h
    show l.foldl (add p m) (add p m a x) = add p m a (l.foldl (add p m) (add p m 0 x))
    rw [ih _ (add_lt F _ _), ih _ (add_lt F _ _), ← add_assoc F, ← add_assoc F, add_zero F h]
theorem sumN_cons (x : Nat) (hx : x < p ^ m) (l : List Nat) : sumN p m (x :: l) = add p m x (sumN p m l) := by
  show l.foldl (add p m) (add p m 0 x) = _
  rw [zero_add F hx]; exact sumF F l x hx
theorem sumN_map_add (f g : Nat → Nat) : ∀ l : List Nat, (∀ i, i ∈ l → f i < p ^ m ∧ g i < p ^ m) → sumN p m (l.map fun i => add p m (f i) (g i)) = add p m (sumN p m (l.map f)) (sumN p m (l.map g))
  | [], _ => by
    show 0 = add p m 0 0
    rw [add_zero F (by have := F.one_lt; omega)]
  | x :: l, h => by
    obtain ⟨h1, h2⟩ := h x (List.mem_cons_self ..)
    rw [List.map_cons, List.map_cons, List.map_cons, sumN_cons F _ (add_lt F _ _), sumN_cons F _ h1, sumN_cons F _ h2, sumN_map_add f g l fun i hi => h i (List.mem_cons_of_mem _ hi)]
    rw [add_assoc F, add_assoc F]
    congr 1
    rw [← add_assoc F, ← add_assoc F, add_comm F (g x)]
theorem sumN_map_mul (c : Nat) (f : Nat → Nat) : ∀ l : List Nat, (∀ i, i ∈ l → f i < p ^ m) → sumN p m (l.map fun i => mul p m top c (f i)) = mul p m top c (sumN p m (l.map f))
  | [], _ => (mul_zero F c).symm
  | x :: l, h => by
    rw [List.map_cons, List.map_cons, sumN_cons F _ (mul_lt F _ _), sumN_cons F _ (h x (List.mem_cons_self ..)), sumN_map_mul c f l fun i hi => h i (List.mem_cons_of_mem _ hi), mul_add F]
end
end PF
namespace PF
open PySem PySem.Spec PyProof.Rows L2 DL FM
structure Sw (k w : Nat) (d : D) : Prop where
  lay : d.py.canLay0 = true
  dep : d.py.depth ≤ k
  blk : d.py.bulk ≤ w
  sho : d.py.showable = true
  lea : d.py.leavesShort 13 = true
theorem Sw.mono {k w k2 w2 : Nat} {d : D} (h : Sw k w d) (a : k ≤ k2 := by decide) (b : w ≤ w2 := by decide) : Sw k2 w2 d := ⟨h.lay, Nat.le_trans h.dep a, Nat.le_trans h.blk b, h.sho, h.lea⟩
theorem Sw.shaped {k w : Nat} {d : D} (h : Sw k w d) (a : k ≤ 64 := by decide) : SeqAt.shaped d.py = true := by
  show (d.py.canLay0 && decide (d.py.depth ≤ 64)) = true
  rw [h.lay, decide_eq_true (Nat.le_trans h.dep a)]; rfl
def still : Option Sl → Bool
  | some (.ow _) => false
  | _ => true
theorem noOwn_cons {ρ : Rh} {i : Nat} {is : List Nat} {a : Option Sl} (e : ρ[i]? = some a) (h : still a = true) (t : noOwn ρ is = true) : noOwn ρ (i :: is) = true := by
  unfold noOwn at t ⊢
  rw [List.all_cons, t, e]
  cases a with
  | none => rfl
  | some s =>
    cases s with
    | im d => rfl
    | ow xs => cases h
theorem noOwn_one {ρ : Rh} {i : Nat} {a : Option Sl} (e : ρ[i]? = some a) (h : still a = true) : noOwn ρ [i] = true := noOwn_cons e h rfl
theorem ck {N : Rh → Prop} {ρ : Rh} (ρ2 : Rh) (h : N ρ2) (e : ρ = ρ2 := by rfl) : N ρ := by rw [e]; exact h
theorem ckN {i : Nat} {r : R} {ρ : Rh} {N : Rh → Prop} (ρ2 : Rh) (h : N ρ2) (e : store i r ρ = ρ2 := by rfl) : gNm i r ρ N := by
  show N (store i r ρ)
  rw [e]; exact h
theorem nodup_map {α β : Type} {f : α → β} {l : List α} (inj : ∀ x y, x ∈ l → y ∈ l → f x = f y → x = y) (nd : l.Nodup) : (l.map f).Nodup := by
  refine List.pairwise_map.mpr (List.Pairwise.imp_of_mem (fun {a b} ha hb h e => h (inj a b ha hb e)) nd)
theorem seq_via {t u : DTS} {nx : Rh → Prop} {rt : R → Prop} {bk ct : Rh → Prop} {ρ : Rh} (Good : Rh → Prop) (use : (∀ ρ, Good ρ → u nx rt bk ct ρ) → t (u nx rt bk ct) rt bk ct ρ) (key : ∀ ρ, Good ρ → u nx rt bk ct ρ) : dSeq t u nx rt bk ct ρ := use key
end PF
namespace PF
open PySem PySem.Spec PyProof.Rows L2 DL FM
section
variable {g : DTG} {tt : DTT} {te : DTE} {ρw : Rh} {P : List D → Prop}
theorem lc_rngF (f : Nat → Option D) {lo : Int} {n : Nat} (hl : n ≤ 10000) (ht : ∀ k : Nat, k < n → ∀ C : Option D → Prop, C (f k) → lcTurn g tt te ρw (.int (lo + (k : Int))) C) (h : P ((List.range n).filterMap f)) : dLcL g tt te ρw (rngD lo n) [] P := by
  refine lcL_fn (fun d => match d with
    | .int i => f (i - lo).toNat
    | _ => none) _ [] P (by rw [rngD_len]; show 0 + _ ≤ _; omega) (fun d hd C hC => ?_) ?_
  · obtain ⟨k, hk, rfl⟩ := rngD_mem hd
    refine ht k hk C ?_
    have e : (lo + (k : Int) - lo).toNat = k := by omega
    have hC2 : C (f (lo + (k : Int) - lo).toNat) := hC
    rw [e] at hC2; exact hC2
  · rw [List.nil_append]
    unfold rngD
    rw [List.filterMap_map]
    have e : ((fun d => match d with
      | .int i => f (i - lo).toNat
      | _ => none) ∘ fun (i : Nat) => D.int (lo + (i : Int))) = f := by
      funext x
      show f (lo + (x : Int) - lo).toNat = _
      rw [show (lo + (x : Int) - lo).toNat = x by omega]
    rw [e]; exact h
end
def nth (l : List Nat) (i : Nat) : Nat := l.getD i 0
theorem nth_get {l : List Nat} {i : Nat} (h : i < l.length) : l[i]? = some (nth l i) := by
  unfold nth
  rw [List.getD_eq_getElem?_getD, List.getElem?_eq_getElem h]; rfl
theorem nth_mem {l : List Nat} {i : Nat} (h : i < l.length) : nth l i ∈ l := List.mem_of_getElem? (nth_get h)
theorem nth_lt {l : List Nat} {N i : Nat} (h : ∀ a, a ∈ l → a < N) (hN : 0 < N) : nth l i < N := by
  by_cases hi : i < l.length
  · exact h _ (nth_mem hi)
  · unfold nth
    rw [List.getD_eq_getElem?_getD, List.getElem?_eq_none (by omega)]; exact hN
end PF
namespace FM
open PF
structure Rd (p m top a n : Nat) : Prop where
  n1 : 1 ≤ n
  one : gp p m top a n = 1
  least : ∀ k, 1 ≤ k → k < n → gp p m top a k ≠ 1
theorem Rd.uniq {p m top a n k : Nat} (h : Rd p m top a n) (q : Rd p m top a k) : n = k := by
  rcases Nat.lt_trichotomy n k with c | c | c
  · exact absurd h.one (q.least n h.n1 c)
  · exact c
  · exact absurd q.one (h.least k q.n1 c)
section
variable {p m top : Nat} (F : Pm p m top)
include F
theorem Rd.dvd {a n i : Nat} (h : Rd p m top a n) : gp p m top a i = 1 ↔ n ∣ i := by
  constructor
  · intro e
    have q : gp p m top a (i % n) = 1 := by rw [gp_mod F h.one]; exact e
    have lt := Nat.mod_lt i h.n1
    by_cases z : i % n = 0
    · exact Nat.dvd_of_mod_eq_zero z
    · exact absurd q (h.least _ (Nat.pos_of_ne_zero z) lt)
  · rintro ⟨k, rfl⟩
    exact gp_mul F h.one k
theorem Tb.rd {g : Nat} {l : List Nat} (T : Tb p m top g l) : Rd p m top g (p ^ m - 1) := ⟨T.size F, T.gp_end F, fun k h1 h2 => T.no k h1 (by rw [T.len]; exact h2)⟩
theorem Rd.gp {a n i : Nat} (h : Rd p m top a n) : Rd p m top (gp p m top a i) (n / Nat.gcd n i) := by
  have hg : 0 < Nat.gcd n i := Nat.gcd_pos_of_pos_left _ h.n1
  have hd : n / Nat.gcd n i * Nat.gcd n i = n := Nat.div_mul_cancel (Nat.gcd_dvd_left n i)
  have hp : ∀ k, FM.gp p m top (FM.gp p m top a i) k = 1 ↔ n / Nat.gcd n i ∣ k := fun k => by
    rw [pow_gp F, h.dvd F]
    constructor
    · intro ⟨c, hc⟩
      have e : i / Nat.gcd n i * Nat.gcd n i = i := Nat.div_mul_cancel (Nat.gcd_dvd_right n i)
      have cop : Nat.Coprime (n / Nat.gcd n i) (i / Nat.gcd n i) := Nat.coprime_div_gcd_div_gcd hg
      refine cop.dvd_of_dvd_mul_left ⟨c, ?_⟩
      refine Nat.eq_of_mul_eq_mul_right hg ?_
      rw [Nat.mul_right_comm, e, hc, Nat.mul_right_comm, hd]
    · rintro ⟨c, rfl⟩
      refine ⟨i / Nat.gcd n i * c, ?_⟩
      have e : i / Nat.gcd n i * Nat.gcd n i = i := Nat.div_mul_cancel (Nat.gcd_dvd_right n i)
      have e1 : i * (n / Nat.gcd n i * c) = (i / Nat.gcd n i * Nat.gcd n i) * (n / Nat.gcd n i * c) := by rw [e]
      have e2 : n * (i / Nat.gcd n i * c) = (n / Nat.gcd n i * Nat.gcd n i) * (i / Nat.gcd n i * c) := by rw [hd]
      rw [e1, e2, Nat.mul_assoc, Nat.mul_assoc, Nat.mul_left_comm, Nat.mul_comm (n / Nat.gcd n i) (Nat.gcd n i * (i / Nat.gcd n i * c)), Nat.mul_assoc (Nat.gcd n i)]
      congr 1
      rw [Nat.mul_comm (n / Nat.gcd n i) c, ← Nat.mul_assoc, Nat.mul_assoc]
  refine ⟨Nat.div_pos (Nat.le_of_dvd h.n1 (Nat.gcd_dvd_left n i)) hg, (hp _).mpr (Nat.dvd_refl _), fun k h1 h2 e => ?_⟩
  have := Nat.le_of_dvd h1 ((hp k).mp e)
  omega
theorem Tb.round {g a : Nat} {l : List Nat} (T : Tb p m top g l) (h1 : 1 ≤ a) (h2 : a < p ^ m) : ∃ n, Rd p m top a n ∧ n ∣ p ^ m - 1 := by
  obtain ⟨i, hi, _, e⟩ := T.log F h1 h2
  refine ⟨(p ^ m - 1) / Nat.gcd (p ^ m - 1) i, ?_, Nat.div_dvd_of_dvd (Nat.gcd_dvd_left _ _)⟩
  have := (T.rd F).gp F (i := i)
  rw [e] at this; exact this
end
def rg (i n q : Nat) (k : Nat) : Nat := i * q ^ k % n
theorem rg_lt {i n q k : Nat} (hn : 0 < n) : rg i n q k < n := Nat.mod_lt _ hn
theorem mod_dvd {x y n : Nat} (h : x % n = y % n) : n ∣ y - x := Nat.dvd_of_mod_eq_zero (Nat.sub_mod_eq_zero_of_mod_eq h.symm)
theorem dvd_mod {x y n : Nat} (le : x ≤ y) (h : n ∣ y - x) : x % n = y % n := by
  obtain ⟨k, e⟩ := h
  have : y = x + n * k := by omega
  rw [this, Nat.add_mul_mod_self_left]
theorem cancel {x y c n : Nat} (co : Nat.Coprime n c) (h : x * c % n = y * c % n) : x % n = y % n := by
  rcases Nat.le_total x y with le | le
  · have d : n ∣ (y - x) * c := by
      rw [Nat.sub_mul]; exact mod_dvd h
    exact dvd_mod le (co.dvd_of_dvd_mul_right d)
  · have d : n ∣ (x - y) * c := by
      rw [Nat.sub_mul]; exact mod_dvd h.symm
    exact (dvd_mod le (co.dvd_of_dvd_mul_right d)).symm
theorem rg_inj {i n q c : Nat} (hn : 0 < n) (co : Nat.Coprime n q) (no : ∀ k, 1 ≤ k → k ≤ c → rg i n q k ≠ rg i n q 0) : ∀ a b, a ≤ c → b ≤ c → rg i n q a = rg i n q b → a = b := by
  have key : ∀ a b, a < b → b ≤ c → rg i n q a ≠ rg i n q b := fun a b lt le e => by
    refine no (b - a) (by omega) (by omega) ?_
    unfold rg at e ⊢
    have e2 : i * q ^ (b - a) * q ^ a % n = i * q ^ 0 * q ^ a % n := by
      rw [Nat.mul_assoc, ← Nat.pow_add, Nat.sub_add_cancel (Nat.le_of_lt lt), Nat.pow_zero, Nat.mul_one, e]
    exact cancel (co.pow_right a) e2
  intro a b ha hb e
  rcases Nat.lt_trichotomy a b with h | h | h
  · exact absurd e (key a b h hb)
  · exact h
  · exact absurd e.symm (key b a h ha)
theorem rg_short {i n q c : Nat} (hn : 0 < n) (co : Nat.Coprime n q) (no : ∀ k, 1 ≤ k → k ≤ c → rg i n q k ≠ rg i n q 0) : c + 1 ≤ n := by
  have nd : ((List.range (c + 1)).map (rg i n q)).Nodup := nodup_map (fun x y hx hy e => rg_inj hn co no x y (by have := List.mem_range.mp hx; omega) (by have := List.mem_range.mp hy; omega) e) List.nodup_range
  have := DL.nodup_len _ (List.range n) nd fun x hx => by
    obtain ⟨k, _, rfl⟩ := List.mem_map.mp hx
    exact List.mem_range.mpr (rg_lt hn)
  rw [List.length_map, List.length_range, List.length_range] at this
  exact this
structure Ring (i n q c : Nat) : Prop where
  c1 : 1 ≤ c
  back : rg i n q c = rg i n q 0
  no : ∀ k, 1 ≤ k → k < c → rg i n q k ≠ rg i n q 0
theorem Ring.le {i n q c : Nat} (h : Ring i n q c) (hn : 0 < n) (co : Nat.Coprime n q) : c ≤ n := by
  have := rg_short (c := c - 1) hn co fun k h1 h2 => h.no k h1 (by have := h.c1; omega)
  have := h.c1
  omega
theorem cop_of_dvd {p m n f : Nat} (m1 : 1 ≤ m) (p2 : 2 ≤ p) (h : n ∣ p ^ m - 1) : Nat.Coprime n (p ^ f) := by
  have c1 : Nat.Coprime (p ^ m - 1) p := by
    have h1 : 0 < p ^ m := Nat.pow_pos (by omega)
    have d0 : p ∣ p ^ m := by
      obtain ⟨k, rfl⟩ : ∃ k, m = k + 1 := ⟨m - 1, by omega⟩
      exact ⟨p ^ k, by rw [Nat.pow_succ, Nat.mul_comm]⟩
    have d1 : Nat.gcd (p ^ m - 1) p ∣ p ^ m := Nat.dvd_trans (Nat.gcd_dvd_right _ _) d0
    have d2 : Nat.gcd (p ^ m - 1) p ∣ p ^ m - 1 := Nat.gcd_dvd_left _ _
    have d3 := Nat.dvd_sub d1 d2
    rw [show p ^ m - (p ^ m - 1) = 1 by omega] at d3
    exact Nat.dvd_one.mp d3
  exact (Nat.Coprime.coprime_dvd_left h c1).pow_right f
end FM
namespace PF
open PySem PySem.Spec PyProof.Rows L2 DL FM
open FM
theorem small_log {x : Int} (h0 : 0 < x) (h1 : x < 2 ^ 64) : CDivW 0 x := ⟨h0, by
  rw [Nat.log2_lt (by omega)]
  exact Nat.lt_of_lt_of_le (show x.natAbs < 2 ^ 64 by omega) (Nat.pow_le_pow_right (by decide) (by decide))⟩
def sp_common_part : DSp := fun ds P => ∃ a b : Nat, ds = [.int a, .int b] ∧ P (.im (.int (Nat.gcd a b : Nat)))
theorem len_common_part {ds P} (h : sp_common_part ds P) : ds.length = 2 := by obtain ⟨_, _, rfl, _⟩ := h; rfl
def t_common_part : DTS := (dSeq (dWhile (dTest (dOp (oGt) (dVar 1) (dC (.int 0)))) (dPar 0 1 (dVar 1) (dOp oMod (dVar 0) (dVar 1))))
    (dRet (dVar 0)))
theorem pure_common_part (ds : List D) (P : R → Prop) (h : sp_common_part ds P) : runD t_common_part P (startN 2 ds) := by
  obtain ⟨a, b, rfl, h⟩ := h
  refine ⟨fun i ρ => ∃ x y : Nat, y = i ∧ Nat.gcd x y = Nat.gcd a b ∧ ρ = [some (.im (.int x)), some (.im (.int y))], ⟨b, a, b, rfl, rfl, rfl⟩, ?_⟩
  rintro i _ ⟨x, y, rfl, e, rfl⟩
  refine ⟨fun h1 => ?_, fun h1 => ?_⟩
  · have y0 : (0 : Int) < y := of_decide_eq_true h1
    have y1 : 0 < y := by omega
    refine ⟨y0, x % y, Nat.mod_lt _ y1, y, x % y, rfl, ?_, ?_⟩
    · rw [← e, Nat.gcd_comm x y]
      exact (Nat.gcd_rec y x).symm ▸ Nat.gcd_comm y (x % y)
    · show [some (Sl.im (.int y)), some (Sl.im (.int ((x : Int) % (y : Int))))] = _
      rw [← Int.natCast_emod]
  · have y0 : ¬ (0 : Int) < y := of_decide_eq_false h1
    have y1 : y = 0 := by omega
    subst y1
    rw [Nat.gcd_zero_right] at e
    show P (.im (.int (x : Nat)))
    rw [e]; exact h
theorem mul_small {p m top c b : Nat} (F : Pm p m top) (hc : c < p) (hb : b < p ^ m) : mul p m top c b = smul p m c b := by
  have h : ∀ c, c < p → c < p ^ m := fun c hc => Nat.lt_of_lt_of_le hc (by
    have := Nat.pow_le_pow_right F.p0 F.m1
    rwa [Nat.pow_one] at this)
  refine ofD_congr fun k hk => ?_
  have e : cg p (pr m (vec p top) (vec p c) (vec p b) k) (pr m (vec p top) (fun j => (c : Int) * vec p 1 j) (vec p b) k) := pr_cg F (fun j hj => by
    have v1 : vec p 1 j = if j = 0 then 1 else 0 := vec_one F.p2 j
    rw [v1]
    by_cases z : j = 0
    · subst z
      rw [if_pos rfl, Int.mul_one]
      unfold vec dg
      rw [Nat.pow_zero, Nat.div_one, Nat.mod_eq_of_lt hc]
      exact cg.refl _
    · rw [if_neg z, Int.mul_zero]
      have := vec_high (n := j) (k := 1) (a := c) (p := p) (by rw [Nat.pow_one]; exact hc) F.p0 (by omega)
      rw [this]; exact cg.refl _) (fun j _ => cg.refl _) k
  refine e.trans ?_
  rw [pr_comm, pr_mul, pr_comm]
  refine (cg.refl (c : Int)).mul ?_
  have q := (vec_mul F (a := 1) (b := b) hk).symm
  rw [one_mul F hb] at q
  exact q
def sp_Table__round_of : DSp := fun ds P => ∃ (p m top g : Nat) (l : List Nat) (a : Nat), ds = [tabD p m top l, .int a] ∧ Tt p m top g l ∧ 1 ≤ a ∧ a < p ^ m ∧ ∀ n, Rd p m top a n → n ∣ p ^ m - 1 → P (.im (.int (n : Nat)))
theorem len_Table__round_of {ds P} (h : sp_Table__round_of ds P) : ds.length = 2 := by obtain ⟨_, _, _, _, _, _, rfl, _⟩ := h; rfl
def t_Table__round_of : DTS := (dRet (dOp oDiv (dFld "Table" "size" (dVar 0)) (dCall sp_common_part (dCons (dFld "Table" "size" (dVar 0)) (dCons (dGet (dFld "Table" "logs" (dVar 0)) (dVar 1)) dNil)))))
theorem pure_Table__round_of (ds : List D) (P : R → Prop) (h : sp_Table__round_of ds P) : runD t_Table__round_of P (startN 2 ds) := by
  obtain ⟨p, m, top, g, l, a, rfl, T, a1, a2, h⟩ := h
  have F := T.pm
  have hs := T.tb.size F
  have hN := T.fl.sz.few
  obtain ⟨i, hi, vi, gi⟩ := T.val a1 a2
  have r := (T.tb.rd F).gp F (i := i)
  rw [gi] at r
  have e0 : (((p ^ m : Nat) : Int) - 1) = ((p ^ m - 1 : Nat) : Int) := by omega
  have g0 : 0 < Nat.gcd (p ^ m - 1) i := Nat.gcd_pos_of_pos_left _ hs
  have gle : Nat.gcd (p ^ m - 1) i ≤ p ^ m - 1 := Nat.gcd_le_left _ hs
  have P1 := h _ r (Nat.div_dvd_of_dvd (Nat.gcd_dvd_left _ _))
  refine ⟨rfl, _, rfl, rfl, _, rfl, rfl, _, rfl, _, vi, p ^ m - 1, i, ?_, ?_⟩
  · show [D.int (((p ^ m : Nat) : Int) - 1), D.int (i : Nat)] = _
    rw [e0]
  · refine ⟨⟨by omega, (small_log (by omega) (by omega)).2⟩, ?_⟩
    show P (.im (.int ((((p ^ m : Nat) : Int) - 1) / ((Nat.gcd (p ^ m - 1) i : Nat) : Int))))
    rw [e0, ← Int.natCast_ediv]; exact P1
def sp_round_of : DSp := fun ds P => ∃ (p m top a : Nat), ds = [fld p m top, .int a] ∧ Fl p m top ∧ 1 ≤ a ∧ a < p ^ m ∧ ∀ n, Rd p m top a n → n ∣ p ^ m - 1 → P (.im (.int (n : Nat)))
theorem len_round_of {ds P} (h : sp_round_of ds P) : ds.length = 2 := by obtain ⟨_, _, _, _, rfl, _⟩ := h; rfl
def t_round_of : DTS := (dRet (dMeth "Table" "round_of" sp_Table__round_of (dCall sp_table_of (dCons (dVar 0) dNil)) (dCons (dVar 1) dNil)))
theorem pure_round_of (ds : List D) (P : R → Prop) (h : sp_round_of ds P) : runD t_round_of P (startN 2 ds) := by
  obtain ⟨p, m, top, a, rfl, Fd, a1, a2, h⟩ := h
  exact ⟨_, _, _, rfl, Fd, fun g l T => ⟨rfl, rfl, p, m, top, g, l, a, rfl, T, a1, a2, h⟩⟩
def sp__law_round : DSp := fun ds P => ∃ (p m top g : Nat) (l : List Nat) (a : Nat), ds = [ltabD p m top l, .int a] ∧ Tt p m top g l ∧ 1 ≤ a ∧ a < p ^ m ∧ ∀ n, Rd p m top a n → n ∣ p ^ m - 1 → P (.im (.int (n : Nat)))
theorem len__law_round {ds P} (h : sp__law_round ds P) : ds.length = 2 := by obtain ⟨_, _, _, _, _, _, rfl, _⟩ := h; rfl
def t__law_round : DTS := (dSeq (dPar 2 3 (dC (.int 1)) (dVar 1))
    (dSeq (dWhile (dTest (dOp (oNe) (dVar 3) (dC (.int 1)))) (dPar 2 3 (dOp oAdd (dVar 2) (dC (.int 1))) (dCall sp__law_times (dCons (dVar 0) (dCons (dVar 3) (dCons (dVar 1) dNil))))))
    (dRet (dVar 2))))
theorem pure__law_round (ds : List D) (P : R → Prop) (h : sp__law_round ds P) : runD t__law_round P (startN 4 ds) := by
  obtain ⟨p, m, top, g, l, a, rfl, T, a1, a2, h⟩ := h
  have F := T.pm
  obtain ⟨n, r, dv⟩ := T.tb.round F a1 a2
  have P1 := h n r dv
  refine ⟨fun i ρ => ∃ k, 1 ≤ k ∧ k ≤ n ∧ i = n - k ∧ ρ = [some (.im (ltabD p m top l)), some (.im (.int a)), some (.im (.int (k : Nat))), some (.im (.int (gp p m top a k : Nat)))], ⟨n - 1, 1, Nat.le_refl 1, r.n1, rfl, ?_⟩, ?_⟩
  · rw [gp_one F a2]; rfl
  · rintro i _ ⟨k, k1, k2, rfl, rfl⟩
    refine ⟨fun h1 => ?_, fun h1 => ?_⟩
    · have ne : gp p m top a k ≠ 1 := fun e => by
        rw [e] at h1
        exact absurd h1 (by simp)
      have lt : k < n := by
        rcases Nat.lt_or_ge k n with q | q
        · exact q
        · exact absurd (by rw [show k = n by omega]; exact r.one) ne
      refine ⟨_, _, _, _, _, _, _, rfl, T, gp_lt F k, a2, n - (k + 1), by omega, k + 1, by omega, lt, rfl, ?_⟩
      show _ = [_, _, some (Sl.im (.int ((k + 1 : Nat) : Int))), some (Sl.im (.int (mul p m top (gp p m top a k) a : Nat)))]
      rw [show ((k + 1 : Nat) : Int) = (k : Int) + 1 by omega]; rfl
    · have e : gp p m top a k = 1 := by
        have h2 : (!decide (((gp p m top a k : Nat) : Int) = 1)) = false := h1
        have h3 : decide (((gp p m top a k : Nat) : Int) = 1) = true := by simpa using h2
        have := of_decide_eq_true h3
        omega
      have : k = n := by
        rcases Nat.lt_or_ge k n with q | q
        · exact absurd e (r.least k k1 q)
        · omega
      subst this
      exact P1
end PF
namespace PF
open PySem PySem.Spec PyProof.Rows L2 DL FM
open FM
set_option maxHeartbeats 4000000
theorem lc_sel {g : DTG} {tt : DTT} {te : DTE} {ρw : Rh} {P : List D → Prop} (q : Nat → Bool) {lo n : Nat} (hl : n ≤ 10000) (ht : ∀ k : Nat, k < n → ∀ C : Option D → Prop, C (if q k = true then some (.int (lo + k : Nat)) else none) → lcTurn g tt te ρw (.int ((lo : Int) + (k : Int))) C) (h : P (thD (((List.range n).filter q).map (lo + ·)))) : dLcL g tt te ρw (rngD (lo : Int) n) [] P := by
  refine lc_rngF (fun k => if q k = true then some (.int (lo + k : Nat)) else none) hl ht ?_
  have e : ∀ l : List Nat, l.filterMap (fun k => if q k = true then some (D.int (lo + k : Nat)) else none) = thD ((l.filter q).map (lo + ·)) := fun l => by
    induction l with
    | nil => rfl
    | cons x l ih =>
      by_cases h : q x = true
      · rw [List.filterMap_cons_some (b := D.int (lo + x : Nat)) (by rw [if_pos h]), List.filter_cons_of_pos h, ih]; rfl
      · rw [List.filterMap_cons_none (by rw [if_neg h]), List.filter_cons_of_neg h, ih]
  rw [e]; exact h
structure Wh (p m top few root n : Nat) (marks : List Nat) : Prop where
  fl : Fl p m top
  f1 : 1 ≤ few
  fm : few ≤ m
  fd : m % few = 0
  r1 : 1 ≤ root
  rl : root < p ^ m
  rd : Rd p m top root n
  nd : n ∣ p ^ m - 1
  so : marks.Pairwise (· < ·)
  lt : ∀ i, i ∈ marks → i < n
  cl : ∀ i, i ∈ marks → i * p ^ few % n ∈ marks
theorem Wh.cop {p m top few root n : Nat} {marks : List Nat} (W : Wh p m top few root n marks) : Nat.Coprime n (p ^ few) := cop_of_dvd W.fl.sz.m1 W.fl.sz.p2 W.nd
structure MkOk (n q : Nat) (zs : List Nat) : Prop where
  lt : ∀ i, i ∈ zs → i < n
  cl : ∀ i, i ∈ zs → i * q % n ∈ zs
end PF
namespace PF
open PySem PySem.Spec PyProof.Rows L2 DL FM
open FM
set_option maxHeartbeats 4000000
theorem inF_th (x : Nat) (l : List Nat) : inF (.int (x : Nat)) (thD l) = decide (x ∈ l) := by
  unfold inF
  induction l with
  | nil => rfl
  | cons y l ih =>
    show (eqF (.int (y : Nat)) (.int (x : Nat)) || (thD l).any fun y => eqF y (.int (x : Nat))) = _
    rw [ih]
    show (((y : Nat) : Int) == ((x : Nat) : Int) || decide (x ∈ l)) = _
    by_cases h : x = y
    · subst h
      rw [decide_eq_true (List.mem_cons_self ..)]
      simp
    · have : ¬ ((y : Nat) : Int) = ((x : Nat) : Int) := fun e => h (by omega)
      rw [beq_eq_false_iff_ne.mpr this, Bool.false_or]
      by_cases h2 : x ∈ l
      · rw [decide_eq_true h2, decide_eq_true (List.mem_cons_of_mem _ h2)]
      · rw [decide_eq_false h2, decide_eq_false fun z => (List.mem_cons.mp z).elim h h2]
theorem flat_th (l : List Nat) : (thD l).all flatD = true := List.all_eq_true.mpr fun d hd => by
  obtain ⟨a, _, rfl⟩ := thD_mem hd
  rfl
def tn (n : Nat) : List Nat := ((List.range n).filter fun (k : Nat) => decide (Nat.gcd (1 + k) n = 1)).map (1 + ·)
def mv (marks : List Nat) (a n : Nat) : List Nat := (List.range n).filter fun (i : Nat) => decide (i * a % n ∈ marks)
end PF
namespace DL
open PySem PySem.Spec PyProof.Rows L2
variable {X : Cx}
end DL
namespace DL
open PySem PySem.Spec PyProof.Rows L2
def seqK (t : Bool) (K : PySem.W.Frag) (H : Hp) (a : Addr) (xs : List V) : Prop := match t with
  | true => SqT K H a xs
  | false => SqL K H a xs
def seqH (t : Bool) (h : Heap) (a : Addr) (items : Array Value) : Prop := match t with
  | true => h.IsTuple a items
  | false => h.IsList a items
def itrH (t : Bool) (h : Heap) (it a : Addr) (i : Nat) : Prop := match t with
  | true => h.IsTupleIter it a i
  | false => h.IsListIter it a i
def itrO (t : Bool) (a : Addr) : Obj := match t with
  | true => { cls := .type "tuple_iterator", data := .fields #[.ref a, .int 0 0] }
  | false => { cls := .type "list_iterator", data := .fields #[.ref a, .int 0 0] }
theorem itrH.obj {t : Bool} {h : Heap} {it a : Addr} {i : Nat} (q : itrH t h it a i) : ∃ o, h.get? it = some o ∧ ∀ v, o.data ≠ .cell v := by
  cases t with
  | true => obtain ⟨o, e, _, d⟩ := q; exact ⟨o, e, fun v z => by rw [d] at z; cases z⟩
  | false => obtain ⟨o, e, _, d⟩ := q; exact ⟨o, e, fun v z => by rw [d] at z; cases z⟩
theorem itrH.keep {t : Bool} {h h' : Heap} {it a : Addr} {i : Nat} (q : itrH t h it a i) (k : ∀ o, h.get? it = some o → h'.get? it = some o) : itrH t h' it a i := by
  cases t with
  | true => exact Heap.IsTupleIter.at q k
  | false => exact Heap.IsListIter.at q k
theorem itrH.new {t : Bool} {h : Heap} {it a : Addr} (e : h.get? it = some (itrO t a)) : itrH t h it a 0 := by
  cases t <;> exact ⟨_, e, rfl, rfl⟩
theorem seqH.lt {t : Bool} {h : Heap} {a : Addr} {items : Array Value} (q : seqH t h a items) : a < h.objs.size := by
  cases t with
  | true => obtain ⟨o, e, _⟩ := q; exact Heap.lt_size e
  | false => obtain ⟨o, e, _⟩ := q; exact Heap.lt_size e
theorem itrH.ne {t : Bool} {h : Heap} {it a b : Addr} {i : Nat} {items : Array Value} (q : itrH t h it b i) (p : seqH t h a items) : a ≠ it := fun e => by
  cases t with
  | true =>
    obtain ⟨o, q1, k1, _⟩ := p
    obtain ⟨o2, q2, k2, _⟩ := q
    subst e; rw [q1] at q2; cases q2; rw [k1] at k2
    injection k2 with k3
    exact absurd k3 (by decide)
  | false =>
    obtain ⟨o, q1, k1, _⟩ := p
    obtain ⟨o2, q2, k2, _⟩ := q
    subst e; rw [q1] at q2; cases q2; rw [k1] at k2
    injection k2 with k3
    exact absurd k3 (by decide)
theorem seqK.holds {t : Bool} {X : Cx} {pins : List (Addr × Obj)} {σ : L2.St} {H : Hp} {s : Shared} {a : Addr} {xs : List V} (I : Inv X pins σ H s) (q : seqK t X.K H a xs) : ∃ its : List Value, Vals xs its ∧ seqH t s.heap a its.toArray := by
  cases t with
  | true => obtain ⟨its, r, p, _⟩ := I.tuple q; exact ⟨its, r, p⟩
  | false => obtain ⟨its, r, p, _⟩ := I.list q; exact ⟨its, r, p.isList⟩
theorem seqK.inj {t : Bool} {X : Cx} {pins : List (Addr × Obj)} {σ : L2.St} {H : Hp} {s : Shared} {a : Addr} {xs ys : List V} (I : Inv X pins σ H s) (q : seqK t X.K H a xs) (q' : seqK t X.K H a ys) : xs = ys := by
  cases t with
  | true => exact I.tuple_inj q q'
  | false => exact I.list_inj q q'
section
variable {mg : Gm} {W : Wd}
def seqD : D → Option (Bool × List D)
  | .tup xs => some (true, xs)
  | .lst xs => some (false, xs)
  | _ => none
theorem Rel.seq {v : V} {d : D} {t : Bool} {ds : List D} (h : Rel mg W v d) (e : seqD d = some (t, ds)) : ∃ a vs, v = .ref a ∧ RelL mg W vs ds ∧ ∀ W1 H1, Wle W W1 → WOk W1 H1 → ∀ K, seqK t K H1 a vs := by
  cases h with
  | tup h r =>
    cases e
    exact ⟨_, _, rfl, r, fun W1 H1 l w K => SqT.of (w.sub _ _ (l.mono _ _ h))⟩
  | lst h r =>
    cases e
    exact ⟨_, _, rfl, r, fun W1 H1 l w K => SqL.of (w.sub _ _ (l.mono _ _ h))⟩
  | _ => cases e
end
end DL
namespace PF
open PySem PySem.Spec PyProof.Rows L2 DL FM
open FM
def cps (n : Nat) : List Nat := ((List.range n).filter fun (k : Nat) => decide (Nat.gcd (1 + k) n = 1)).map (1 + ·)
def ll (a b f s : Nat) : Prop := a < f ∨ (a = f ∧ b < s)
def BestOf (R : Nat → Nat → Nat) (Dn : Nat → Nat → Prop) (f s m : Nat) : Prop := (f = 0 ∧ s = 1 ∧ m = 0 ∧ ∀ a b, Dn a b → R a b = 0) ∨ (Dn f s ∧ m = R f s ∧ 0 < m ∧ ∀ a b, Dn a b → R a b ≤ m ∧ (R a b = m → ¬ ll a b f s))
theorem BestOf.uniq {R : Nat → Nat → Nat} {Dn : Nat → Nat → Prop} {f s m f' s' m' : Nat} (h : BestOf R Dn f s m) (h' : BestOf R Dn f' s' m') : f = f' ∧ s = s' ∧ m = m' := by
  rcases h with ⟨rfl, rfl, rfl, z⟩ | ⟨d, e, p, all⟩
  · rcases h' with ⟨rfl, rfl, rfl, z'⟩ | ⟨d', e', p', all'⟩
    · exact ⟨rfl, rfl, rfl⟩
    · have := z _ _ d'; omega
  · rcases h' with ⟨rfl, rfl, rfl, z'⟩ | ⟨d', e', p', all'⟩
    · have := z' _ _ d; omega
    · have h1 := all _ _ d'
      have h2 := all' _ _ d
      have em : m = m' := by omega
      have n1 := h1.2 (by omega)
      have n2 := h2.2 (by omega)
      unfold ll at n1 n2
      exact ⟨by omega, by omega, em⟩
theorem BestOf.one {R : Nat → Nat → Nat} {Dn Dn' : Nat → Nat → Prop} {f s m a b : Nat} (h : BestOf R Dn f s m) (eq : ∀ x y, Dn' x y ↔ Dn x y ∨ (x = a ∧ y = b)) (lt : m < R a b ∨ (R a b = m ∧ ll a b f s)) (b1 : 1 ≤ b) : BestOf R Dn' a b (R a b) := by
  rcases h with ⟨rfl, rfl, rfl, z⟩ | ⟨d, e, p, all⟩
  · rcases lt with lt | ⟨_, l⟩
    · refine .inr ⟨(eq a b).mpr (.inr ⟨rfl, rfl⟩), rfl, lt, fun x y hx => ?_⟩
      rcases (eq x y).mp hx with q | ⟨rfl, rfl⟩
      · have := z x y q
        exact ⟨by omega, by omega⟩
      · exact ⟨Nat.le_refl _, fun _ => by unfold ll; omega⟩
    · unfold ll at l; omega
  · have mle : m ≤ R a b := by omega
    refine .inr ⟨(eq a b).mpr (.inr ⟨rfl, rfl⟩), rfl, by omega, fun x y hx => ?_⟩
    rcases (eq x y).mp hx with q | ⟨rfl, rfl⟩
    · have h1 := all x y q
      refine ⟨by omega, fun ex => ?_⟩
      rcases lt with lt | ⟨e2, l⟩
      · omega
      · have := h1.2 (by omega)
        unfold ll at this l ⊢; omega
    · exact ⟨Nat.le_refl _, fun _ => by unfold ll; omega⟩
def inB : D → Bool
  | .tup [.int i, .tup [.int a, .int b]] => decide (a ≤ i) && decide (i ≤ b)
  | _ => false
theorem BestOf.none (R : Nat → Nat → Nat) {Dn : Nat → Nat → Prop} (h : ∀ a b, ¬ Dn a b) : BestOf R Dn 0 1 0 := .inl ⟨rfl, rfl, rfl, fun a b d => absurd d (h a b)⟩
end PF
namespace PF
open PySem PySem.Spec PyProof.Rows L2 DL FM
open FM
def pws (p m top a n : Nat) : List Nat := (List.range n).map (gp p m top a)
end PF
namespace PF
open PySem PySem.Spec PyProof.Rows L2 DL FM
open FM
def trc (l : List Nat) : Nat → Nat
  | 0 => 0
  | k + 1 => if nth l k = 0 then trc l k else k + 1
def trim (l : List Nat) : List Nat := l.take (trc l l.length)
theorem trc_le (l : List Nat) : ∀ k, trc l k ≤ k
  | 0 => Nat.le_refl 0
  | k + 1 => by
    unfold trc
    by_cases h : nth l k = 0
    · rw [if_pos h]; exact Nat.le_succ_of_le (trc_le l k)
    · rw [if_neg h]; exact Nat.le_refl _
theorem trim_len (l : List Nat) : (trim l).length ≤ l.length := by
  unfold trim
  rw [List.length_take]; exact Nat.min_le_right _ _
theorem trim_th {p m : Nat} {l : List Nat} (h : ThL p m l) : ThL p m (trim l) := fun a ha => h a (List.mem_of_mem_take ha)
theorem nth_hi {l : List Nat} {i : Nat} (h : l.length ≤ i) : nth l i = 0 := by
  unfold nth
  rw [List.getD_eq_getElem?_getD, List.getElem?_eq_none h]; rfl
def rtT (p m top : Nat) (xs ys : List Nat) (k i : Nat) : Nat := if i ≤ k then mul p m top (nth xs i) (nth ys (k - i)) else 0
def rtS (p m top : Nat) (xs ys : List Nat) (c k : Nat) : Nat := sumN p m ((List.range c).map (rtT p m top xs ys k))
def rt0 (p m top : Nat) (xs ys : List Nat) : List Nat := (List.range (xs.length + ys.length)).map fun (k : Nat) => rtS p m top xs ys xs.length k
def rt (p m top : Nat) (xs ys : List Nat) : List Nat := trim (rt0 p m top xs ys)
theorem rtS_succ {p m top : Nat} (xs ys : List Nat) (c k : Nat) : rtS p m top xs ys (c + 1) k = add p m (rtS p m top xs ys c k) (rtT p m top xs ys k c) := by
  unfold rtS sumN
  rw [List.range_succ, List.map_append, List.foldl_append]; rfl
theorem rtT_lt {p m top : Nat} (F : Pm p m top) (xs ys : List Nat) (k i : Nat) : rtT p m top xs ys k i < p ^ m := by
  have := F.one_lt
  unfold rtT
  split
  · exact mul_lt F _ _
  · omega
theorem rtS_lt {p m top : Nat} (F : Pm p m top) (xs ys : List Nat) (c k : Nat) : rtS p m top xs ys c k < p ^ m := sumN_lt F.p0 _
theorem rt0_th {p m top : Nat} (F : Pm p m top) (xs ys : List Nat) : ThL p m (rt0 p m top xs ys) := fun a ha => by
  obtain ⟨k, _, rfl⟩ := List.mem_map.mp ha
  exact rtS_lt F ..
theorem rt_th {p m top : Nat} (F : Pm p m top) (xs ys : List Nat) : ThL p m (rt p m top xs ys) := trim_th (rt0_th F xs ys)
theorem rtS_more {p m top : Nat} (F : Pm p m top) (xs ys : List Nat) (k a : Nat) (z : ∀ i, a ≤ i → rtT p m top xs ys k i = 0) : ∀ d, rtS p m top xs ys (a + d) k = rtS p m top xs ys a k
  | 0 => rfl
  | d + 1 => by
    rw [← Nat.add_assoc, rtS_succ, rtS_more F xs ys k a z d, z _ (by omega), add_zero F (rtS_lt F ..)]
theorem sumN_perm {p m top : Nat} (F : Pm p m top) {l r : List Nat} (h : l.Perm r) : ThL p m l → sumN p m l = sumN p m r := by
  induction h with
  | nil => exact fun _ => rfl
  | cons x h ih =>
    intro t
    have t2 : ThL p m _ := fun a ha => t a (List.mem_cons_of_mem _ ha)
    rw [sumN_cons F _ (t x (List.mem_cons_self ..)), sumN_cons F _ (t x (List.mem_cons_self ..)), ih t2]
  | swap x y l =>
    intro t
    have hy := t y (List.mem_cons_self ..)
    have hx := t x (List.mem_cons_of_mem _ (List.mem_cons_self ..))
    rw [sumN_cons F _ hy, sumN_cons F _ hx, sumN_cons F _ hx, sumN_cons F _ hy, ← add_assoc F, ← add_assoc F, add_comm F y x]
  | trans h1 h2 ih1 ih2 =>
    intro t
    rw [ih1 t, ih2 fun a ha => t a (h1.mem_iff.mpr ha)]
theorem rtS_comm {p m top : Nat} (F : Pm p m top) (xs ys : List Nat) (k : Nat) : rtS p m top xs ys xs.length k = rtS p m top ys xs ys.length k := by
  have all : ∀ as bs : List Nat, rtS p m top as bs as.length k = rtS p m top as bs (k + 1) k := fun as bs => by
    rw [← rtS_more F as bs k as.length (fun i hi => by
      unfold rtT
      rw [nth_hi hi, zero_mul F]; split <;> rfl) (k + 1), ← rtS_more F as bs k (k + 1) (fun i hi => by
      unfold rtT
      rw [if_neg (by omega)]) as.length, Nat.add_comm]
  rw [all xs ys, all ys xs]
  unfold rtS
  have e : (List.range (k + 1)).map (rtT p m top ys xs k) = ((List.range (k + 1)).map (k - ·)).map (rtT p m top xs ys k) := by
    rw [List.map_map]
    refine List.map_congr_left fun i hi => ?_
    have hi := List.mem_range.mp hi
    show rtT p m top ys xs k i = rtT p m top xs ys k (k - i)
    unfold rtT
    rw [if_pos (by omega), if_pos (by omega), mul_comm F, show k - (k - i) = i by omega]
  rw [e]
  refine (sumN_perm F (List.Perm.map _ ?_) fun a ha => ?_).symm
  · refine (List.perm_ext_iff_of_nodup ?_ List.nodup_range).mpr fun a => ?_
    · refine nodup_map (fun x y hx hy e => ?_) List.nodup_range
      have hx := List.mem_range.mp hx
      have hy := List.mem_range.mp hy
      omega
    · rw [List.mem_map, List.mem_range]
      constructor
      · rintro ⟨i, hi, rfl⟩
        have := List.mem_range.mp hi; omega
      · intro h
        exact ⟨k - a, List.mem_range.mpr (by omega), by omega⟩
  · obtain ⟨i, _, rfl⟩ := List.mem_map.mp ha
    exact rtT_lt F ..
end PF
namespace PF
open PySem PySem.Spec PyProof.Rows L2 DL FM
open FM
def ev (p m top one : Nat) : List Nat → Nat
  | [] => 0
  | x :: xs => add p m (mul p m top (ev p m top one xs) one) x
theorem ev_lt {p m top : Nat} (F : Pm p m top) (one : Nat) : ∀ xs : List Nat, ev p m top one xs < p ^ m
  | [] => by have := F.one_lt; show 0 < _; omega
  | x :: xs => add_lt F _ _
theorem ev_add {p m top : Nat} (F : Pm p m top) (one : Nat) : ∀ xs ys : List Nat, ThL p m xs → ThL p m ys → xs.length = ys.length → ev p m top one (List.zipWith (add p m) xs ys) = add p m (ev p m top one xs) (ev p m top one ys)
  | [], [], _, _, _ => by
    show 0 = add p m 0 0
    rw [add_zero F (by have := F.one_lt; omega)]
  | x :: xs, y :: ys, hx, hy, hl => by
    have bx := hx x (List.mem_cons_self ..)
    have by_ := hy y (List.mem_cons_self ..)
    show add p m (mul p m top (ev p m top one (List.zipWith (add p m) xs ys)) one) (add p m x y) = add p m (add p m (mul p m top (ev p m top one xs) one) x) (add p m (mul p m top (ev p m top one ys) one) y)
    rw [ev_add F one xs ys (fun a ha => hx a (List.mem_cons_of_mem _ ha)) (fun a ha => hy a (List.mem_cons_of_mem _ ha)) (by simpa using hl), mul_comm F _ one, mul_add F, mul_comm F one, mul_comm F one, add_assoc F, add_assoc F, ← add_assoc F _ x y, add_comm F _ x, add_assoc F x]
end PF
namespace DL
open PySem PySem.Spec PyProof.Rows L2
section
variable {X : Cx}
end
end DL
namespace PF
open PySem PySem.Spec PyProof.Rows L2 DL FM
open FM
def ltr (p m top few : Nat) : List Nat := (List.range (p ^ m)).filter fun a => decide (gp p m top a (p ^ few) = a)
theorem ltr_zero {p m top few : Nat} (F : Pm p m top) : 0 ∈ ltr p m top few := List.mem_filter.mpr ⟨List.mem_range.mpr (by have := F.one_lt; omega), decide_eq_true (by
  rw [gp_zero F, if_neg]
  exact Nat.pos_iff_ne_zero.mp (Nat.pow_pos F.p0))⟩
def mst (p m top c : Nat) (row : List Nat) : List Nat := (List.range (row.length + 1)).map fun k => sub p m (nth (0 :: row) k) (mul p m top c (nth row k))
def mkr (p m top root : Nat) (marks : List Nat) : List Nat := marks.foldl (fun row k => mst p m top (gp p m top root k) row) [1]
theorem Wh.mlen {p m top few root n : Nat} {marks : List Nat} (W : Wh p m top few root n marks) : marks.length ≤ n := by
  have nd : marks.Nodup := W.so.imp fun h => Nat.ne_of_lt h
  have := DL.nodup_len marks (List.range n) nd fun x hx => List.mem_range.mpr (W.lt x hx)
  rwa [List.length_range] at this
theorem sub_zero {p m top a : Nat} (F : Pm p m top) (ha : a < p ^ m) : sub p m a 0 = a := by
  rw [sub_eq F]
  have : smul p m (p - 1) 0 = 0 := by
    have := mul_small (top := top) (c := p - 1) (b := 0) F (by have := F.p0; omega) (by have := F.one_lt; omega)
    rw [← this]; exact mul_zero F _
  rw [this]; exact add_zero F ha
end PF
namespace DL
open PySem PySem.Spec PyProof.Rows L2
section
variable {mg : Gm} {W W0 : Wd} {H H0 : Hp} {σ : L2.St} {ρ : Rh}
end
end DL
namespace PF
open PySem PySem.Spec PyProof.Rows L2 DL FM
open FM
section
variable {g : DTG} {tt : DTT} {te : DTE} {ρw : Rh}
end
end PF
namespace PF
open PySem PySem.Spec PyProof.Rows L2 DL FM
set_option maxHeartbeats 4000000
end PF
namespace PF
open PySem PySem.Spec PyProof.Rows L2 DL FM
open FM
def S (p m n : Nat) (f : Nat → Nat) : Nat := sumN p m ((List.range n).map f)
theorem S_succ {p m n : Nat} {f : Nat → Nat} : S p m (n + 1) f = add p m (S p m n f) (f n) := by
  unfold S sumN
  rw [List.range_succ, List.map_append, List.foldl_append]; rfl
theorem S_congr {p m n : Nat} {f g : Nat → Nat} (h : ∀ i, i < n → f i = g i) : S p m n f = S p m n g := by
  unfold S
  rw [List.map_congr_left fun i hi => h i (List.mem_range.mp hi)]
section
variable {p m top : Nat} (F : Pm p m top)
include F
theorem S_lt (n : Nat) (f : Nat → Nat) : S p m n f < p ^ m := sumN_lt F.p0 _
theorem N0 : 0 < p ^ m := Nat.pow_pos F.p0
theorem S_add {n : Nat} {f g : Nat → Nat} (hf : ∀ i, f i < p ^ m) (hg : ∀ i, g i < p ^ m) : S p m n (fun i => add p m (f i) (g i)) = add p m (S p m n f) (S p m n g) := sumN_map_add F f g _ fun i _ => ⟨hf i, hg i⟩
theorem S_mul {n : Nat} (c : Nat) {f : Nat → Nat} (hf : ∀ i, f i < p ^ m) : S p m n (fun i => mul p m top c (f i)) = mul p m top c (S p m n f) := sumN_map_mul F c f _ fun i _ => hf i
theorem S_mulr {n : Nat} (c : Nat) {f : Nat → Nat} (hf : ∀ i, f i < p ^ m) : S p m n (fun i => mul p m top (f i) c) = mul p m top (S p m n f) c := by
  rw [mul_comm F, ← S_mul F c hf]
  exact S_congr fun i _ => mul_comm F _ _
theorem S_nil {f : Nat → Nat} : ∀ {n : Nat}, (∀ i, i < n → f i = 0) → S p m n f = 0
  | 0, _ => rfl
  | n + 1, h => by rw [S_succ, S_nil fun i hi => h i (by omega), h n (by omega), add_zero F (N0 F)]
theorem S_head {n : Nat} {f : Nat → Nat} (hf : ∀ i, f i < p ^ m) : S p m (n + 1) f = add p m (f 0) (S p m n fun i => f (i + 1)) := by
  unfold S
  rw [List.range_succ_eq_map, List.map_cons, sumN_cons F _ (hf 0), List.map_map]; rfl
theorem sub_none {a b : Nat} (ha : a < p ^ m) (hb : b < p ^ m) (h : sub p m a b = 0) : a = b := by
  have := sub_add F ha b
  rw [h, zero_add F hb] at this; exact this.symm
theorem S_more {f : Nat → Nat} {a : Nat} : ∀ {d : Nat}, (∀ i, a ≤ i → i < a + d → f i = 0) → S p m (a + d) f = S p m a f
  | 0, _ => rfl
  | d + 1, h => by
    show S p m (a + d + 1) f = _
    rw [S_succ, S_more fun i h1 h2 => h i h1 (by omega), h (a + d) (by omega) (by omega), add_zero F (S_lt F _ _)]
end
theorem Tt.cancel {p m top g : Nat} {l : List Nat} (T : Tt p m top g l) {a b : Nat} (ha : a < p ^ m) (hb : b < p ^ m) (h : mul p m top a b = 0) : a = 0 ∨ b = 0 := by
  rcases Nat.eq_zero_or_pos a with q | q
  · exact .inl q
  rcases Nat.eq_zero_or_pos b with r | r
  · exact .inr r
  have := T.tb.mul_pos T.pm q ha r hb
  omega
def nm (p m n : Nat) : Nat := S p m n fun _ => 1
theorem nm_smul {p m top : Nat} (F : Pm p m top) : ∀ n, nm p m n = smul p m n 1
  | 0 => by
    unfold nm
    show 0 = _
    exact (smul_zero (p := p) (m := m) 1).symm
  | n + 1 => by
    unfold nm
    rw [S_succ]
    show add p m (nm p m n) 1 = _
    rw [nm_smul F n, ← smul_succ F]
section
variable {p m top g : Nat} {l : List Nat} (T : Tt p m top g l)
include T
end
end PF
namespace PF
open PySem PySem.Spec PyProof.Rows L2 DL FM
open FM
theorem nth_th {p m : Nat} {xs : List Nat} (hN : 0 < p ^ m) (h : ThL p m xs) (i : Nat) : nth xs i < p ^ m := nth_lt h hN
theorem ev_Ss {p m top one : Nat} (F : Pm p m top) : ∀ (xs : List Nat) (s : Nat), S p m xs.length (fun i => mul p m top (nth xs i) (gp p m top one (i + s))) = mul p m top (ev p m top one xs) (gp p m top one s)
  | [], s => by
    show 0 = mul p m top 0 _
    rw [zero_mul F]
  | x :: xs, s => by
    show S p m (xs.length + 1) _ = mul p m top (add p m (mul p m top (ev p m top one xs) one) x) _
    rw [S_head F fun i => mul_lt F _ _]
    have e : S p m xs.length (fun i => mul p m top (nth (x :: xs) (i + 1)) (gp p m top one (i + 1 + s))) = S p m xs.length fun i => mul p m top (nth xs i) (gp p m top one (i + (s + 1))) := S_congr fun i _ => by
      show mul p m top (nth xs i) _ = _
      rw [show i + 1 + s = i + (s + 1) by omega]
    rw [e, ev_Ss F xs (s + 1)]
    show add p m (mul p m top x (gp p m top one (0 + s))) (mul p m top (ev p m top one xs) (mul p m top (gp p m top one s) one)) = _
    rw [Nat.zero_add, mul_comm F (add p m _ _) (gp p m top one s), mul_add F, mul_comm F (gp p m top one s) x, add_comm F]
    congr 1
    rw [← mul_assoc F, ← mul_assoc F, mul_comm F (gp p m top one s)]
theorem ev_S {p m top one : Nat} (F : Pm p m top) (xs : List Nat) : S p m xs.length (fun i => mul p m top (nth xs i) (gp p m top one i)) = ev p m top one xs := by
  have := ev_Ss (one := one) F xs 0
  show S p m xs.length (fun i => mul p m top (nth xs i) (gp p m top one (i + 0))) = _
  rw [this]
  exact mul_one F (ev_lt F one xs)
theorem ev_more {p m top one : Nat} (F : Pm p m top) (xs : List Nat) (d : Nat) : S p m (xs.length + d) (fun i => mul p m top (nth xs i) (gp p m top one i)) = ev p m top one xs := by
  rw [S_more F fun i h1 h2 => ?_, ev_S F]
  rw [nth_hi h1, zero_mul F]
theorem ev_cons {p m top one x : Nat} (xs : List Nat) : ev p m top one (x :: xs) = add p m (mul p m top (ev p m top one xs) one) x := rfl
theorem ev_zeros {p m top one : Nat} (F : Pm p m top) : ∀ b, ev p m top one (List.replicate b 0) = 0
  | 0 => rfl
  | b + 1 => by
    rw [List.replicate_succ, ev_cons, ev_zeros F b, zero_mul F, add_zero F (N0 F)]
end PF
namespace PF
open PySem PySem.Spec PyProof.Rows L2 DL FM
set_option maxHeartbeats 1000000
def vls (p m top a : Nat) (xs : List Nat) : List Nat := (List.range xs.length).map fun i => ev p m top (gp p m top a i) xs
theorem vec_digit {p c : Nat} (hc : c < p) (k : Nat) : vec p c k = if k = 0 then (c : Int) else 0 := by
  unfold vec dg
  by_cases h : k = 0
  · subst h
    rw [if_pos rfl, Nat.pow_zero, Nat.div_one, Nat.mod_eq_of_lt hc]
  · rw [if_neg h, Nat.div_eq_of_lt, Nat.zero_mod]; rfl
    refine Nat.lt_of_lt_of_le hc ?_
    have : p ^ 1 ≤ p ^ k := Nat.pow_le_pow_right (by omega) (Nat.pos_of_ne_zero h)
    rwa [Nat.pow_one] at this
theorem p_le {p m top : Nat} (F : Pm p m top) : p ≤ p ^ m := by
  have : p ^ 1 ≤ p ^ m := Nat.pow_le_pow_right F.p0 F.m1
  rwa [Nat.pow_one] at this
theorem nm_mod {p m top : Nat} (F : Pm p m top) (n : Nat) : nm p m n = n % p := by
  have hp := F.p0
  have hl : n % p < p := Nat.mod_lt _ hp
  have h1 : n % p < p ^ m := Nat.lt_of_lt_of_le hl (p_le F)
  rw [nm_smul F]
  refine Eq.trans ?_ (ofD_self (n := m) hp h1)
  refine ofD_congr fun k hk => ?_
  rw [vec_one (by have := F.p2; omega), vec_digit hl]
  by_cases h : k = 0
  · rw [if_pos h, if_pos h, Int.mul_one, Int.natCast_emod]
    exact (cg_emod _).symm
  · rw [if_neg h, if_neg h, Int.mul_zero]
    exact cg.refl _
theorem nth_ext {l r : List Nat} (e : l.length = r.length) (h : ∀ i, i < l.length → nth l i = nth r i) : l = r := by
  refine List.ext_getElem e fun i h1 h2 => ?_
  have := h i h1
  unfold nth at this
  rwa [List.getD_eq_getElem?_getD, List.getD_eq_getElem?_getD, List.getElem?_eq_getElem h1, List.getElem?_eq_getElem h2] at this
end PF
namespace PF
open PySem PySem.Spec PyProof.Rows L2 DL FM
open FM
theorem pow_part {q k : Nat} (hq : 1 ≤ q) : q - 1 ∣ q ^ k - 1 := by
  induction k with
  | zero => exact ⟨0, rfl⟩
  | succ k ih =>
    have h1 : 1 ≤ q ^ k := Nat.one_le_pow _ _ hq
    have e : q ^ (k + 1) - 1 = q * (q ^ k - 1) + (q - 1) := by
      rw [Nat.pow_succ, Nat.mul_comm (q ^ k), Nat.mul_sub, Nat.mul_one]
      have : q ≤ q * q ^ k := Nat.le_mul_of_pos_right q h1
      omega
    rw [e]
    exact Nat.dvd_add (Nat.dvd_trans ih (Nat.dvd_mul_left _ _)) (Nat.dvd_refl _)
theorem ltr_few {p m top g few : Nat} {l : List Nat} (T : Tt p m top g l) (f1 : 1 ≤ few) (fd : m % few = 0) : (ltr p m top few).length ≤ p ^ few := by
  have F := T.pm
  have p2 := F.p2
  have q2 : 2 ≤ p ^ few := Nat.le_trans p2 (by
    have : p ^ 1 ≤ p ^ few := Nat.pow_le_pow_right (by omega) f1
    rwa [Nat.pow_one] at this)
  obtain ⟨k, hk⟩ := Nat.dvd_of_mod_eq_zero fd
  have epm : p ^ m = (p ^ few) ^ k := by rw [← Nat.pow_mul, ← hk]
  obtain ⟨t, ht⟩ := pow_part (q := p ^ few) (k := k) (by omega)
  rw [← epm] at ht
  have rd := T.tb.rd F
  have sub : ∀ a, a ∈ ltr p m top few → a ∈ 0 :: (List.range (p ^ few - 1)).map fun i => gp p m top g (t * i) := fun a ha => by
    obtain ⟨h1, h2⟩ := List.mem_filter.mp ha
    have h1 := List.mem_range.mp h1
    have h2 := of_decide_eq_true h2
    rcases Nat.eq_zero_or_pos a with z | z
    · rw [z]; exact List.mem_cons_self ..
    · refine List.mem_cons_of_mem _ ?_
      obtain ⟨j, hj, _, e⟩ := T.tb.log F z h1
      have e2 : gp p m top g (j * (p ^ few - 1)) = 1 := by
        rw [← e, pow_gp F] at h2
        have h3 : gp p m top g (j * p ^ few) = mul p m top (gp p m top g (j * (p ^ few - 1))) (gp p m top g j) := by
          rw [← gp_add F]
          congr 1
          rw [Nat.mul_sub, Nat.mul_one]
          have : j ≤ j * p ^ few := Nat.le_mul_of_pos_right j (by omega)
          omega
        have h4 : mul p m top (gp p m top g j) (sub p m (gp p m top g (j * (p ^ few - 1))) 1) = 0 := by
          rw [mul_sub F _ _ _ (gp_lt F _), mul_comm F (gp p m top g j), ← h3, h2, mul_one F (gp_lt F j), sub_self F]
        rcases T.cancel (gp_lt F j) (sub_lt F _ _) h4 with q | q
        · rw [e] at q; omega
        · exact sub_none F (gp_lt F _) F.one_lt q
      have d := (rd.dvd F).mp e2
      rw [ht] at d
      have d2 : t ∣ j := by
        obtain ⟨c, hc⟩ := d
        refine ⟨c, Nat.eq_of_mul_eq_mul_left (show 0 < p ^ few - 1 by omega) ?_⟩
        rw [Nat.mul_comm _ j, hc, Nat.mul_assoc]
      obtain ⟨i, rfl⟩ := d2
      refine List.mem_map.mpr ⟨i, List.mem_range.mpr ?_, e⟩
      rw [ht] at hj
      have t0 : 0 < t := by
        rcases Nat.eq_zero_or_pos t with q | q
        · subst q; rw [Nat.mul_zero] at hj; omega
        · exact q
      rw [Nat.mul_comm (p ^ few - 1)] at hj
      exact Nat.lt_of_mul_lt_mul_left hj
  have nd : (ltr p m top few).Nodup := List.nodup_range.sublist List.filter_sublist
  have := DL.nodup_len _ _ nd sub
  rw [List.length_cons, List.length_map, List.length_range] at this
  omega
theorem ev_scale {p m top one : Nat} (F : Pm p m top) (a : Nat) : ∀ xs : List Nat, ev p m top one (xs.map (mul p m top a)) = mul p m top a (ev p m top one xs)
  | [] => (mul_zero F a).symm
  | x :: xs => by
    rw [List.map_cons, ev_cons, ev_cons, ev_scale F a xs, mul_add F, ← mul_assoc F]
theorem map_th {p m top : Nat} (F : Pm p m top) (a : Nat) (xs : List Nat) : ThL p m (xs.map (mul p m top a)) := fun x hx => by
  obtain ⟨y, _, rfl⟩ := List.mem_map.mp hx
  exact mul_lt F _ _
section
variable {p m top g few root n : Nat} {l marks : List Nat} (T : Tt p m top g l) (W : Wh p m top few root n marks)
include T W
end
end PF
namespace PF
open PySem PySem.Spec PyProof.Rows L2 DL FM
set_option maxHeartbeats 1000000
end PF
namespace PF
open PySem PySem.Spec PyProof.Rows L2 DL FM
set_option maxHeartbeats 1000000
def rdC (p m top : Nat) (often : Nat) (part row : List Nat) (lo j c : Nat) : Nat := if lo ≤ c ∧ c < lo + j then sub p m (nth row c) (mul p m top often (nth part (c - lo))) else nth row c
def rdn (p m top n : Nat) (part row : List Nat) (t pl : Nat) : List Nat := (List.range n).map (rdC p m top (nth row pl) part row (pl - t) part.length)
def rr (p m top n : Nat) (part row : List Nat) (t : Nat) : Nat → List Nat
  | 0 => row
  | i + 1 => rdn p m top n part (rr p m top n part row t i) t (n - 1 - i)
end PF
set_option maxHeartbeats 1000000
namespace PF
open PySem PySem.Spec PyProof.Rows L2 DL FM
open FM
def chz : Nat → Nat → Nat
  | _, 0 => 1
  | 0, _ + 1 => 0
  | n + 1, k + 1 => chz n k + chz n (k + 1)
theorem chz_zero (n : Nat) : chz n 0 = 1 := by cases n <;> rfl
theorem chz_big : ∀ n k, n < k → chz n k = 0
  | 0, 0, h => absurd h (Nat.lt_irrefl 0)
  | 0, k + 1, _ => rfl
  | n + 1, 0, h => absurd h (Nat.not_lt_zero _)
  | n + 1, k + 1, h => by
    show chz n k + chz n (k + 1) = 0
    rw [chz_big n k (by omega), chz_big n (k + 1) (by omega)]
theorem chz_self : ∀ n, chz n n = 1
  | 0 => rfl
  | n + 1 => by
    show chz n n + chz n (n + 1) = 1
    rw [chz_self n, chz_big n (n + 1) (by omega)]
theorem chz_mul : ∀ n k, (k + 1) * chz (n + 1) (k + 1) = (n + 1) * chz n k
  | 0, 0 => rfl
  | 0, k + 1 => by
    show (k + 2) * (chz 0 (k + 1) + chz 0 (k + 2)) = 1 * chz 0 (k + 1)
    rfl
  | n + 1, 0 => by
    have ih : 1 * chz (n + 1) 1 = (n + 1) * chz n 0 := chz_mul n 0
    show 1 * (chz (n + 1) 0 + chz (n + 1) 1) = (n + 2) * chz (n + 1) 0
    rw [chz_zero] at ih ⊢
    omega
  | n + 1, k + 1 => by
    have h1 := chz_mul n k
    have h2 := chz_mul n (k + 1)
    show (k + 2) * (chz (n + 1) (k + 1) + chz (n + 1) (k + 2)) = (n + 2) * chz (n + 1) (k + 1)
    have e : chz (n + 1) (k + 1) = chz n k + chz n (k + 1) := rfl
    rw [Nat.mul_add, show (k + 2) * chz (n + 1) (k + 2) = (n + 1) * chz n (k + 1) from h2, show (k + 2) * chz (n + 1) (k + 1) = (k + 1) * chz (n + 1) (k + 1) + chz (n + 1) (k + 1) by rw [Nat.succ_mul (k + 1)], h1, show (n + 2) * chz (n + 1) (k + 1) = (n + 1) * chz (n + 1) (k + 1) + chz (n + 1) (k + 1) by rw [Nat.succ_mul (n + 1)], e, Nat.mul_add]
    omega
theorem plain_cop : plainPs.all (fun p => (List.range p).all fun k => Nat.beq k 0 || Nat.beq (Nat.gcd p k) 1) = true := by decide +kernel
theorem chz_p {p k : Nat} (hp : p ∈ plainPs) (k1 : 1 ≤ k) (kp : k < p) : chz p k % p = 0 := by
  have h := List.all_eq_true.mp plain_cop p hp
  have h2 := List.all_eq_true.mp h k (List.mem_range.mpr kp)
  have co : Nat.Coprime p k := by
    rcases Bool.or_eq_true_iff.mp h2 with q | q
    · have := Nat.eq_of_beq_eq_true q; omega
    · exact Nat.eq_of_beq_eq_true q
  obtain ⟨j, rfl⟩ : ∃ j, k = j + 1 := ⟨k - 1, by omega⟩
  obtain ⟨n, rfl⟩ : ∃ n, p = n + 1 := ⟨p - 1, by omega⟩
  have e := chz_mul n j
  exact Nat.mod_eq_zero_of_dvd (co.dvd_of_dvd_mul_left ⟨chz n j, e⟩)
section
variable {p m top : Nat} (F : Pm p m top)
include F
theorem add_lc (a b c : Nat) : add p m a (add p m b c) = add p m b (add p m a c) := by rw [← add_assoc F, add_comm F a b, add_assoc F]
theorem mul_lc (a b c : Nat) : mul p m top a (mul p m top b c) = mul p m top b (mul p m top a c) := by rw [← mul_assoc F, mul_comm F a b, mul_assoc F]
theorem nm_add (a b : Nat) : nm p m (a + b) = add p m (nm p m a) (nm p m b) := by
  induction b with
  | zero => exact (add_zero F (S_lt F _ _)).symm
  | succ b ih =>
    have e : ∀ n, nm p m (n + 1) = add p m (nm p m n) 1 := fun n => S_succ
    rw [show a + (b + 1) = (a + b) + 1 by omega, e, ih, e, add_assoc F]
theorem nm_one : nm p m 1 = 1 := zero_add F F.one_lt
theorem gp_mulL (x y : Nat) : ∀ n, gp p m top (mul p m top x y) n = mul p m top (gp p m top x n) (gp p m top y n)
  | 0 => (one_mul F F.one_lt).symm
  | n + 1 => by
    show mul p m top (gp p m top (mul p m top x y) n) (mul p m top x y) = mul p m top (mul p m top (gp p m top x n) x) (mul p m top (gp p m top y n) y)
    rw [gp_mulL x y n, mul_assoc F, mul_assoc F, mul_lc F (gp p m top y n) x y]
theorem gp_suc (x n : Nat) : gp p m top x (n + 1) = mul p m top (gp p m top x n) x := rfl
theorem bin {x y : Nat} (hx : x < p ^ m) (hy : y < p ^ m) : ∀ n, gp p m top (add p m x y) n = S p m (n + 1) fun k => mul p m top (nm p m (chz n k)) (mul p m top (gp p m top x k) (gp p m top y (n - k)))
  | 0 => by
    rw [S_succ]
    show 1 = add p m 0 (mul p m top (nm p m 1) (mul p m top 1 1))
    rw [nm_one F, one_mul F F.one_lt, one_mul F F.one_lt, zero_add F F.one_lt]
  | n + 1 => by
    have L : ∀ a b, mul p m top a b < p ^ m := fun a b => mul_lt F a b
    have e1 : S p m (n + 1) (fun k => mul p m top (mul p m top (nm p m (chz n k)) (mul p m top (gp p m top x k) (gp p m top y (n - k)))) y) = S p m (n + 1) fun k => mul p m top (nm p m (chz n k)) (mul p m top (gp p m top x k) (gp p m top y (n + 1 - k))) := S_congr fun k hk => by
      rw [show n + 1 - k = (n - k) + 1 by omega, gp_suc F, mul_assoc F, mul_assoc F]
    have e2 : S p m (n + 2) (fun k => mul p m top (nm p m (chz n k)) (mul p m top (gp p m top x k) (gp p m top y (n + 1 - k)))) = S p m (n + 1) fun k => mul p m top (nm p m (chz n k)) (mul p m top (gp p m top x k) (gp p m top y (n + 1 - k))) := by
      rw [S_succ, chz_big n (n + 1) (by omega), show nm p m 0 = 0 from rfl, zero_mul F, add_zero F (S_lt F _ _)]
    have e3 : S p m (n + 1) (fun k => mul p m top (nm p m (chz (n + 1) (k + 1))) (mul p m top (gp p m top x (k + 1)) (gp p m top y (n + 1 - (k + 1))))) = add p m (S p m (n + 1) fun k => mul p m top (mul p m top (nm p m (chz n k)) (mul p m top (gp p m top x k) (gp p m top y (n - k)))) x) (S p m (n + 1) fun k => mul p m top (nm p m (chz n (k + 1))) (mul p m top (gp p m top x (k + 1)) (gp p m top y (n + 1 - (k + 1))))) := by
      rw [← S_add F (fun k => L _ _) fun k => L _ _]
      refine S_congr fun k hk => ?_
      show mul p m top (nm p m (chz n k + chz n (k + 1))) _ = _
      rw [nm_add F, add_mul F, show n + 1 - (k + 1) = n - k by omega, gp_suc F, mul_assoc F (nm p m (chz n k)), mul_assoc F (gp p m top x k) (gp p m top y (n - k)), mul_comm F (gp p m top y (n - k)) x, mul_assoc F (gp p m top x k)]
    rw [gp_suc F, bin hx hy n, mul_add F, ← S_mulr F x fun k => L _ _, ← S_mulr F y fun k => L _ _, e1, ← e2, S_head F (f := fun k => mul p m top (nm p m (chz n k)) (mul p m top (gp p m top x k) (gp p m top y (n + 1 - k)))) fun k => L _ _, S_head F (f := fun k => mul p m top (nm p m (chz (n + 1) k)) (mul p m top (gp p m top x k) (gp p m top y (n + 1 - k)))) fun k => L _ _, e3]
    rw [chz_zero, chz_zero, add_lc F]
theorem frob_p (hp : p ∈ plainPs) {x y : Nat} (hx : x < p ^ m) (hy : y < p ^ m) : gp p m top (add p m x y) p = add p m (gp p m top x p) (gp p m top y p) := by
  obtain ⟨n, e⟩ : ∃ n, p = n + 1 := ⟨p - 1, by have := F.p2; omega⟩
  have L : ∀ a b, mul p m top a b < p ^ m := fun a b => mul_lt F a b
  have z : S p m n (fun i => mul p m top (nm p m (chz p (i + 1))) (mul p m top (gp p m top x (i + 1)) (gp p m top y (p - (i + 1))))) = 0 := S_nil F fun i hi => by
    rw [nm_mod F, chz_p hp (by omega) (by omega), zero_mul F]
  have h1 := bin F hx hy p
  rw [S_head F fun k => L _ _] at h1
  have h2 : S p m p (fun i => mul p m top (nm p m (chz p (i + 1))) (mul p m top (gp p m top x (i + 1)) (gp p m top y (p - (i + 1))))) = S p m (n + 1) fun i => mul p m top (nm p m (chz p (i + 1))) (mul p m top (gp p m top x (i + 1)) (gp p m top y (p - (i + 1)))) := by rw [← e]
  rw [h2, S_succ, z, ← e, chz_self, chz_zero, nm_one F, Nat.sub_self, Nat.sub_zero] at h1
  rw [h1]
  show add p m (mul p m top 1 (mul p m top 1 (gp p m top y p))) (add p m 0 (mul p m top 1 (mul p m top (gp p m top x p) 1))) = _
  rw [one_mul F (L _ _), one_mul F (gp_lt F _), one_mul F (L _ _), mul_one F (gp_lt F _), zero_add F (gp_lt F _), add_comm F]
theorem frob (hp : p ∈ plainPs) {x y : Nat} (hx : x < p ^ m) (hy : y < p ^ m) : ∀ k, gp p m top (add p m x y) (p ^ k) = add p m (gp p m top x (p ^ k)) (gp p m top y (p ^ k))
  | 0 => by
    rw [Nat.pow_zero, gp_one F (add_lt F _ _), gp_one F hx, gp_one F hy]
  | k + 1 => by
    rw [Nat.pow_succ, ← pow_gp F, frob hp hx hy k, frob_p F hp (gp_lt F _) (gp_lt F _), pow_gp F, pow_gp F]
end
theorem ltr_mem {p m top few a : Nat} : a ∈ ltr p m top few ↔ a < p ^ m ∧ gp p m top a (p ^ few) = a := by
  unfold ltr
  rw [List.mem_filter, List.mem_range, decide_eq_true_iff]
theorem Fl.plain {p m top : Nat} (Fd : Fl p m top) : p ∈ plainPs := pms_plain Fd.pm
section
variable {p m top few : Nat} (Fd : Fl p m top)
include Fd
theorem ltr_add {a b : Nat} (ha : a ∈ ltr p m top few) (hb : b ∈ ltr p m top few) : add p m a b ∈ ltr p m top few := by
  have F := Fd.sz.pm Fd.tp
  rw [ltr_mem] at ha hb ⊢
  exact ⟨add_lt F _ _, by rw [frob F Fd.plain ha.1 hb.1, ha.2, hb.2]⟩
theorem ltr_mul {a b : Nat} (ha : a ∈ ltr p m top few) (hb : b ∈ ltr p m top few) : mul p m top a b ∈ ltr p m top few := by
  have F := Fd.sz.pm Fd.tp
  rw [ltr_mem] at ha hb ⊢
  exact ⟨mul_lt F _ _, by rw [gp_mulL F, ha.2, hb.2]⟩
end
theorem nth_mapz {f : Nat → Nat} (z : f 0 = 0) (l : List Nat) (i : Nat) : nth (l.map f) i = f (nth l i) := by
  unfold nth
  rw [List.getD_eq_getElem?_getD, List.getElem?_map, List.getD_eq_getElem?_getD]
  cases l[i]? with
  | none => exact z.symm
  | some a => rfl
section
variable {p m top : Nat} (F : Pm p m top)
include F
end
end PF
set_option maxHeartbeats 1000000
namespace PF
open PySem PySem.Spec PyProof.Rows L2 DL FM
open FM
def qd (p m top c : Nat) : List Nat → List Nat
  | [] => []
  | [_] => []
  | _ :: y :: xs => ev p m top c (y :: xs) :: qd p m top c (y :: xs)
theorem qd_len (p m top c : Nat) : ∀ (x : Nat) (xs : List Nat), (qd p m top c (x :: xs)).length = xs.length
  | _, [] => rfl
  | x, y :: xs => by
    show (qd p m top c (y :: xs)).length + 1 = xs.length + 1
    rw [qd_len p m top c y xs]
section
variable {p m top : Nat} (F : Pm p m top)
include F
theorem qd_th (c : Nat) : ∀ xs : List Nat, ThL p m (qd p m top c xs)
  | [] => fun x h => nomatch h
  | [_] => fun x h => nomatch h
  | _ :: y :: xs => fun x h => by
    rcases List.mem_cons.mp h with rfl | h
    · exact ev_lt F _ _
    · exact qd_th c (y :: xs) x h
theorem qd_ev {c y : Nat} (hc : c < p ^ m) (hy : y < p ^ m) : ∀ (x : Nat) (xs : List Nat), x < p ^ m → ThL p m xs → ev p m top y (x :: xs) = add p m (ev p m top c (x :: xs)) (mul p m top (sub p m y c) (ev p m top y (qd p m top c (x :: xs))))
  | x, [], hx, _ => by
    show add p m (mul p m top 0 y) x = add p m (add p m (mul p m top 0 c) x) (mul p m top (sub p m y c) 0)
    rw [zero_mul F, zero_mul F, mul_zero F, zero_add F hx, add_zero F hx]
  | x, z :: xs, hx, ht => by
    have ih := qd_ev hc hy z xs (ht z List.mem_cons_self) fun a h => ht a (List.mem_cons_of_mem _ h)
    have e1 : ev p m top y (x :: z :: xs) = add p m (mul p m top (ev p m top y (z :: xs)) y) x := ev_cons _
    have e2 : ev p m top c (x :: z :: xs) = add p m (mul p m top (ev p m top c (z :: xs)) c) x := ev_cons _
    have e3 : ev p m top y (qd p m top c (x :: z :: xs)) = add p m (mul p m top (ev p m top y (qd p m top c (z :: xs))) y) (ev p m top c (z :: xs)) := ev_cons _
    rw [e1, e2, e3, ih]
    have hd : add p m (sub p m y c) c = y := sub_add F hy c
    generalize ev p m top c (z :: xs) = e
    generalize ev p m top y (qd p m top c (z :: xs)) = w
    generalize sub p m y c = d at hd
    -- (e + d w) y + x = (e c + x) + d (w y + e)
    have k : mul p m top e y = add p m (mul p m top e d) (mul p m top e c) := by rw [← hd, mul_add F]
    rw [add_mul F, k, mul_add F, mul_comm F e d, mul_assoc F d w y]
    generalize mul p m top d e = a
    generalize mul p m top e c = b
    generalize mul p m top d (mul p m top w y) = v
    -- a + b + v + x = b + x + (v + a)
    simp only [add_assoc F, add_comm F, add_lc F]
theorem qd_zero {c : Nat} : ∀ (x : Nat) (xs : List Nat), x < p ^ m → ThL p m xs → ev p m top c (x :: xs) = 0 → (∀ a, a ∈ qd p m top c (x :: xs) → a = 0) → x = 0 ∧ ∀ a, a ∈ xs → a = 0
  | x, [], hx, _, e, _ => by
    have e1 : ev p m top c [x] = add p m (mul p m top 0 c) x := ev_cons _
    rw [e1, zero_mul F, zero_add F hx] at e
    exact ⟨e, fun a h => nomatch h⟩
  | x, z :: xs, hx, ht, e, hz => by
    have h0 : ev p m top c (z :: xs) = 0 := hz _ List.mem_cons_self
    have h1 := qd_zero z xs (ht z List.mem_cons_self) (fun a h => ht a (List.mem_cons_of_mem _ h)) h0 fun a h => hz a (List.mem_cons_of_mem _ h)
    have e1 : ev p m top c (x :: z :: xs) = add p m (mul p m top (ev p m top c (z :: xs)) c) x := ev_cons _
    rw [e1, h0, zero_mul F, zero_add F hx] at e
    refine ⟨e, fun a h => ?_⟩
    rcases List.mem_cons.mp h with rfl | h
    · exact h1.1
    · exact h1.2 a h
end
theorem few_roots {p m top g : Nat} {l : List Nat} (T : Tt p m top g l) : ∀ (xs rs : List Nat), ThL p m xs → xs.length ≤ rs.length → rs.Nodup → (∀ r, r ∈ rs → r < p ^ m ∧ ev p m top r xs = 0) → ∀ a, a ∈ xs → a = 0
  | [], _, _, _, _, _ => fun a h => nomatch h
  | x :: xs, [], _, hl, _, _ => absurd hl (by simp)
  | x :: xs, c :: rs, ht, hl, nd, hr => by
    have F := T.pm
    have hx := ht x List.mem_cons_self
    have hxs : ThL p m xs := fun a h => ht a (List.mem_cons_of_mem _ h)
    obtain ⟨hc, ec⟩ := hr c List.mem_cons_self
    have nd2 := List.nodup_cons.mp nd
    have hq := few_roots T (qd p m top c (x :: xs)) rs (qd_th F c _) (by rw [qd_len]; simpa using hl) nd2.2 fun r hr2 => by
      obtain ⟨h1, h2⟩ := hr r (List.mem_cons_of_mem _ hr2)
      refine ⟨h1, ?_⟩
      rw [qd_ev F hc h1 x xs hx hxs, ec, zero_add F (mul_lt F _ _)] at h2
      rcases T.cancel (sub_lt F _ _) (ev_lt F _ _) h2 with q | q
      · refine absurd (sub_none F h1 hc q) fun e => nd2.1 ?_
        rw [← e]; exact hr2
      · exact q
    have h := qd_zero F x xs hx hxs ec hq
    intro a ha
    rcases List.mem_cons.mp ha with rfl | ha
    · exact h.1
    · exact h.2 a ha
termination_by xs => xs.length
decreasing_by
  rw [qd_len, List.length_cons]; omega
theorem ev_app {p m top y : Nat} (F : Pm p m top) (ys : List Nat) : ∀ xs : List Nat, ThL p m xs → ev p m top y (xs ++ ys) = add p m (ev p m top y xs) (mul p m top (ev p m top y ys) (gp p m top y xs.length))
  | [], _ => by
    show ev p m top y ys = add p m 0 (mul p m top (ev p m top y ys) 1)
    rw [mul_one F (ev_lt F _ _), zero_add F (ev_lt F _ _)]
  | x :: xs, ht => by
    have e1 : ev p m top y (x :: xs ++ ys) = add p m (mul p m top (ev p m top y (xs ++ ys)) y) x := ev_cons _
    have e2 : ev p m top y (x :: xs) = add p m (mul p m top (ev p m top y xs) y) x := ev_cons _
    rw [e1, e2, ev_app F ys xs fun a h => ht a (List.mem_cons_of_mem _ h), add_mul F, mul_assoc F]
    show _ = add p m _ (mul p m top _ (mul p m top (gp p m top y xs.length) y))
    simp only [add_assoc F, add_comm F, add_lc F]
theorem ev_subs {p m top y : Nat} (F : Pm p m top) : ∀ xs ys : List Nat, ThL p m xs → ThL p m ys → xs.length = ys.length → ev p m top y (List.zipWith (sub p m) xs ys) = sub p m (ev p m top y xs) (ev p m top y ys)
  | xs, ys, hx, hy, e => by
    have h := ev_add F y (List.zipWith (sub p m) xs ys) ys (fun a ha => by
      obtain ⟨i, hi, e⟩ := List.mem_iff_getElem.mp ha
      rw [← e, List.getElem_zipWith]; exact sub_lt F _ _) hy (by rw [List.length_zipWith]; omega)
    have e2 : List.zipWith (add p m) (List.zipWith (sub p m) xs ys) ys = xs := by
      clear h
      induction xs generalizing ys with
      | nil => cases ys with
        | nil => rfl
        | cons => cases e
      | cons x xs ih => cases ys with
        | nil => cases e
        | cons y ys =>
          show add p m (sub p m x y) y :: _ = _
          rw [sub_add F (hx x List.mem_cons_self), ih ys (fun a h => hx a (List.mem_cons_of_mem _ h)) (fun a h => hy a (List.mem_cons_of_mem _ h)) (by simpa using e)]
    rw [e2] at h
    rw [h, add_sub F (ev_lt F _ _)]
section
variable {p m top : Nat} (F : Pm p m top)
include F
end
section
variable {p m top few root n : Nat} {marks : List Nat} (W : Wh p m top few root n marks)
include W
omit W in
theorem rd_inj {a n : Nat} (F : Pm p m top) (h : Rd p m top a n) : ∀ {i j : Nat}, i < n → j < n → gp p m top a i = gp p m top a j → i = j := by
  have key : ∀ i j, i < j → j < n → gp p m top a i = gp p m top a j → False := fun i j lt hj e => by
    have h1 : gp p m top a (i + (n - i)) = gp p m top a (j + (n - i)) := by rw [gp_add F, gp_add F, e]
    rw [show i + (n - i) = n by omega, show j + (n - i) = n + (j - i) by omega, gp_add F, h.one, one_mul F (gp_lt F _)] at h1
    exact h.least (j - i) (by omega) (by omega) h1.symm
  intro i j hi hj e
  rcases Nat.lt_trichotomy i j with c | c | c
  · exact (key i j c hj e).elim
  · exact c
  · exact (key j i c hi e.symm).elim
theorem wd_uniq {g : Nat} {l : List Nat} (T : Tt p m top g l) {xs ys : List Nat} (tx : ThL p m xs) (ty : ThL p m ys) (lx : xs.length = n) (ly : ys.length = n) (zx : ∀ i, i ∈ marks → ev p m top (gp p m top root i) xs = 0) (zy : ∀ i, i ∈ marks → ev p m top (gp p m top root i) ys = 0) (e : xs.drop marks.length = ys.drop marks.length) : xs = ys := by
  have F := W.fl.sz.pm W.fl.tp
  have hN := N0 F
  have mlen := W.mlen
  have nd : marks.Nodup := W.so.imp fun h => Nat.ne_of_lt h
  have x0 : ∀ y, ev p m top y xs = add p m (ev p m top y (xs.take marks.length)) (mul p m top (ev p m top y (xs.drop marks.length)) (gp p m top y marks.length)) := fun y => by
    have h := ev_app F (y := y) (xs.drop marks.length) (xs.take marks.length) fun x hx => tx x (List.mem_of_mem_take hx)
    rwa [List.take_append_drop, List.length_take, Nat.min_eq_left (by omega)] at h
  have y0 : ∀ y, ev p m top y ys = add p m (ev p m top y (ys.take marks.length)) (mul p m top (ev p m top y (ys.drop marks.length)) (gp p m top y marks.length)) := fun y => by
    have h := ev_app F (y := y) (ys.drop marks.length) (ys.take marks.length) fun x hx => ty x (List.mem_of_mem_take hx)
    rwa [List.take_append_drop, List.length_take, Nat.min_eq_left (by omega)] at h
  have t1 : ThL p m (xs.take marks.length) := fun x hx => tx x (List.mem_of_mem_take hx)
  have t2 : ThL p m (ys.take marks.length) := fun x hx => ty x (List.mem_of_mem_take hx)
  have l1 : (xs.take marks.length).length = marks.length := by rw [List.length_take]; omega
  have l2 : (ys.take marks.length).length = marks.length := by rw [List.length_take]; omega
  have z := few_roots T (List.zipWith (sub p m) (xs.take marks.length) (ys.take marks.length)) (marks.map (gp p m top root)) (fun a ha => by
      obtain ⟨i, hi, e⟩ := List.mem_iff_getElem.mp ha
      rw [← e, List.getElem_zipWith]; exact sub_lt F _ _) (by rw [List.length_zipWith, List.length_map]; omega) (nodup_map (fun a b ha hb e => rd_inj F W.rd (W.lt a ha) (W.lt b hb) e) nd) fun r hr => by
    obtain ⟨i, hi, rfl⟩ := List.mem_map.mp hr
    refine ⟨gp_lt F _, ?_⟩
    rw [ev_subs F _ _ t1 t2 (by omega)]
    have h1 := zx i hi
    have h2 := zy i hi
    rw [x0] at h1
    rw [y0, ← e, ← h1] at h2
    rw [add_cancel F (ev_lt F _ _) (ev_lt F _ _) h2, sub_self F]
  have e5 : xs.take marks.length = ys.take marks.length := by
    refine nth_ext (by omega) fun i hi => ?_
    have hi2 : i < (ys.take marks.length).length := by omega
    have h1 := nth_get hi
    have h2 := nth_get hi2
    have hm : sub p m (nth (xs.take marks.length) i) (nth (ys.take marks.length) i) ∈ List.zipWith (sub p m) (xs.take marks.length) (ys.take marks.length) := List.mem_of_getElem? (i := i) (by rw [List.getElem?_zipWith, h1, h2])
    exact sub_none F (nth_th hN t1 i) (nth_th hN t2 i) (z _ hm)
  rw [← List.take_append_drop marks.length xs, ← List.take_append_drop marks.length ys, e5, e]
end
end PF
set_option maxHeartbeats 1000000
namespace PF
open PySem PySem.Spec PyProof.Rows L2 DL FM
open FM
section
variable {p m top g : Nat} {l : List Nat} (T : Tt p m top g l)
include T
end
section
variable {n a : Nat}
end
def ind (n : Nat) (marks : List Nat) : List Nat := (List.range n).map fun i => if i ∈ marks then 0 else 1
def own (p m top root n : Nat) (marks : List Nat) (part : Nat) : List Nat := (vls p m top (gp p m top root (n - 1)) (ind n marks)).map fun one => mul p m top part one
section
variable {p m top few root n : Nat} {marks : List Nat} (W : Wh p m top few root n marks)
include W
end
end PF
namespace PF
open PySem PySem.Spec PyProof.Rows L2 DL FM
set_option maxHeartbeats 1000000
end PF
set_option maxHeartbeats 1000000
namespace PF
open PySem PySem.Spec PyProof.Rows L2 DL FM
open FM
theorem gp_root_ne {p m top root n i : Nat} (F : Pm p m top) (rd : Rd p m top root n) (hi : i ≤ n) : gp p m top root i ≠ 0 := fun e => by
  have h := gp_add F (g := root) i (n - i)
  rw [show i + (n - i) = n by omega, rd.one, e, zero_mul F] at h
  cases h
theorem ltr_exact {p m top g few : Nat} {l : List Nat} (T : Tt p m top g l) (f1 : 1 ≤ few) (fd : m % few = 0) : (ltr p m top few).length = p ^ few := by
  refine Nat.le_antisymm (ltr_few T f1 fd) ?_
  have F := T.pm
  have p2 := F.p2
  have q2 : 2 ≤ p ^ few := Nat.le_trans p2 (by
    have : p ^ 1 ≤ p ^ few := Nat.pow_le_pow_right (by omega) f1
    rwa [Nat.pow_one] at this)
  obtain ⟨k, hk⟩ := Nat.dvd_of_mod_eq_zero fd
  have epm : p ^ m = (p ^ few) ^ k := by rw [← Nat.pow_mul, ← hk]
  obtain ⟨t, ht⟩ := pow_part (q := p ^ few) (k := k) (by omega)
  rw [← epm] at ht
  have rd := T.tb.rd F
  have t0 : 0 < t := by
    rcases Nat.eq_zero_or_pos t with q | q
    · subst q; rw [Nat.mul_zero] at ht
      have := rd.n1
      omega
    · exact q
  have lt : ∀ i, i < p ^ few - 1 → t * i < p ^ m - 1 := fun i hi => by
    rw [ht, Nat.mul_comm (p ^ few - 1)]
    exact Nat.mul_lt_mul_of_pos_left hi t0
  have nd : (0 :: (List.range (p ^ few - 1)).map fun i => gp p m top g (t * i)).Nodup := by
    refine List.nodup_cons.mpr ⟨fun h => ?_, nodup_map (fun x y hx hy e => ?_) List.nodup_range⟩
    · obtain ⟨i, hi, e⟩ := List.mem_map.mp h
      have := lt i (List.mem_range.mp hi)
      exact gp_root_ne F rd (by omega) e
    · have h1 := lt x (List.mem_range.mp hx)
      have h2 := lt y (List.mem_range.mp hy)
      exact Nat.eq_of_mul_eq_mul_left t0 (rd_inj F rd h1 h2 e)
  have into : ∀ a, a ∈ (0 :: (List.range (p ^ few - 1)).map fun i => gp p m top g (t * i)) → a ∈ ltr p m top few := fun a ha => by
    rcases List.mem_cons.mp ha with rfl | ha
    · exact ltr_zero F
    · obtain ⟨i, hi, rfl⟩ := List.mem_map.mp ha
      refine ltr_mem.mpr ⟨gp_lt F _, ?_⟩
      rw [pow_gp F, show t * i * p ^ few = t * i + (p ^ m - 1) * i by
        rw [ht, Nat.mul_comm (p ^ few - 1) t, Nat.mul_assoc, Nat.mul_assoc, ← Nat.mul_add]
        congr 1
        rw [Nat.mul_comm i, Nat.sub_mul, Nat.one_mul]
        have : i ≤ p ^ few * i := Nat.le_mul_of_pos_left i (by omega)
        omega, gp_add F, gp_mul F rd.one, mul_one F (gp_lt F _)]
  have h := DL.nodup_len _ (ltr p m top few) nd into
  rw [List.length_cons, List.length_map, List.length_range] at h
  omega
end PF
namespace DL
open PySem PySem.Spec PyProof.Rows L2
section
variable {X : Cx} {mg : Gm} {W W' : Wd} {H H' : Hp} {v x y : V}
end
end DL
namespace PF
open PySem PySem.Spec PyProof.Rows L2 DL FM
set_option maxHeartbeats 1000000
section
variable {p m top few root n g : Nat} {marks l : List Nat}
structure Wo (p m top few root n : Nat) (marks w : List Nat) : Prop where
  len : w.length = n
  lt : ∀ x, x ∈ w → x ∈ ltr p m top few
  z : ∀ i, i ∈ marks → ev p m top (gp p m top root i) w = 0
theorem Wo.th {w : List Nat} (h : Wo p m top few root n marks w) : ThL p m w := fun x hx => (ltr_mem.mp (h.lt x hx)).1
structure Vc (p m top few root n : Nat) (marks : List Nat) (vec : Nat → List Nat) : Prop where
  wo : ∀ k, k + marks.length < n → Wo p m top few root n marks (vec k)
  one : ∀ k, k + marks.length < n → nth (vec k) (marks.length + k) = 1
  far : ∀ k j, k + marks.length < n → k < j → nth (vec k) (marks.length + j) = 0
def cmb (p m top few n : Nat) (vec : Nat → List Nat) : Nat → List (List Nat)
  | 0 => [List.replicate n 0]
  | k + 1 => (ltr p m top few).flatMap fun a => (cmb p m top few n vec k).map fun w => List.zipWith (add p m) w ((vec k).map (mul p m top a))
theorem nthzip {f : Nat → Nat → Nat} (h0 : f 0 0 = 0) {xs ys : List Nat} (e : xs.length = ys.length) (i : Nat) : nth (List.zipWith f xs ys) i = f (nth xs i) (nth ys i) := by
  unfold nth
  rw [List.getD_eq_getElem?_getD, List.getD_eq_getElem?_getD, List.getD_eq_getElem?_getD, List.getElem?_zipWith]
  by_cases h : i < xs.length
  · rw [List.getElem?_eq_getElem h, List.getElem?_eq_getElem (by omega)]; rfl
  · rw [List.getElem?_eq_none (by omega), List.getElem?_eq_none (by omega)]; exact h0.symm
theorem nthmapz {f : Nat → Nat} (h0 : f 0 = 0) (xs : List Nat) (i : Nat) : nth (xs.map f) i = f (nth xs i) := by
  unfold nth
  rw [List.getD_eq_getElem?_getD, List.getD_eq_getElem?_getD, List.getElem?_map]
  cases xs[i]? with
  | none => exact h0.symm
  | some x => rfl
theorem nth_reps (b i : Nat) : nth (List.replicate b 0) i = 0 := by
  unfold nth
  rw [List.getD_eq_getElem?_getD, List.getElem?_replicate]
  split <;> rfl
theorem flatlen {α β : Type} (f : α → List β) (c : Nat) (hf : ∀ a, (f a).length = c) : ∀ l : List α, (l.flatMap f).length = l.length * c
  | [] => (Nat.zero_mul _).symm
  | a :: l => by rw [List.flatMap_cons, List.length_append, hf, flatlen f c hf l, List.length_cons, Nat.succ_mul, Nat.add_comm]
theorem cmb_len {vec : Nat → List Nat} : ∀ k, (cmb p m top few n vec k).length = (ltr p m top few).length ^ k
  | 0 => rfl
  | k + 1 => by
    show ((ltr p m top few).flatMap _).length = _
    rw [flatlen _ ((ltr p m top few).length ^ k) fun a => by rw [List.length_map, cmb_len k], Nat.pow_succ, Nat.mul_comm]
theorem cmb_ok (T : Tt p m top g l) (Fd : Fl p m top) {vec : Nat → List Nat} (V : Vc p m top few root n marks vec) : ∀ k, k + marks.length ≤ n → ∀ w, w ∈ cmb p m top few n vec k → Wo p m top few root n marks w ∧ ∀ j, k ≤ j → nth w (marks.length + j) = 0
  | 0, _, w, hw => by
    rw [List.mem_singleton.mp hw]
    exact ⟨⟨List.length_replicate .., fun x hx => by rw [List.eq_of_mem_replicate hx]; exact ltr_zero T.pm, fun i _ => ev_zeros T.pm n⟩, fun j _ => nth_reps _ _⟩
  | k + 1, hk, w, hw => by
    have F := T.pm
    obtain ⟨a, ha, hw⟩ := List.mem_flatMap.mp hw
    obtain ⟨u, hu, rfl⟩ := List.mem_map.mp hw
    obtain ⟨U, uz⟩ := cmb_ok T Fd V k (by omega) u hu
    have X := V.wo k (by omega)
    have al := (ltr_mem.mp ha).1
    have el : u.length = ((vec k).map (mul p m top a)).length := by rw [List.length_map, U.len, X.len]
    have z2 : add p m 0 0 = 0 := add_zero F (N0 F)
    refine ⟨⟨by rw [List.length_zipWith, ← el, Nat.min_self, U.len], fun x hx => ?_, fun i hi => ?_⟩, fun j hj => ?_⟩
    · obtain ⟨i, hi⟩ := List.mem_iff_getElem?.mp hx
      rw [List.getElem?_zipWith, List.getElem?_map] at hi
      cases e1 : u[i]? with
      | none => rw [e1] at hi; cases hi
      | some b =>
        cases e2 : (vec k)[i]? with
        | none => rw [e1, e2] at hi; cases hi
        | some c =>
          rw [e1, e2] at hi
          cases hi
          exact ltr_add Fd (U.lt _ (List.mem_of_getElem? e1)) (ltr_mul Fd ha (X.lt _ (List.mem_of_getElem? e2)))
    · rw [ev_add F _ _ _ U.th (map_th F _ _) el, ev_scale F, U.z i hi, X.z i hi, mul_zero F, z2]
    · rw [nthzip z2 el, nthmapz (mul_zero F a), uz j (by omega), V.far k j (by omega) (by omega), mul_zero F, z2]
theorem ltr_nd (p m top few : Nat) : (ltr p m top few).Nodup := List.Pairwise.filter _ List.nodup_range
theorem cmb_nd (T : Tt p m top g l) (Fd : Fl p m top) {vec : Nat → List Nat} (V : Vc p m top few root n marks vec) : ∀ k, k + marks.length ≤ n → (cmb p m top few n vec k).Nodup
  | 0, _ => List.nodup_cons.mpr ⟨fun h => (nomatch h), List.nodup_nil⟩
  | k + 1, hk => by
    have F := T.pm
    have ih := cmb_nd T Fd V k (by omega)
    have ok := cmb_ok T Fd V k (by omega)
    have X := V.wo k (by omega)
    have z2 : add p m 0 0 = 0 := add_zero F (N0 F)
    have len : ∀ u a, u ∈ cmb p m top few n vec k → u.length = ((vec k).map (mul p m top a)).length := fun u a hu => by rw [List.length_map, (ok u hu).1.len, X.len]
    show List.Pairwise _ _
    refine List.pairwise_flatMap.mpr ⟨fun a ha => ?_, (ltr_nd p m top few).imp_of_mem fun {a b} ha hb ne x hx y hy e => ?_⟩
    · refine nodup_map (fun u v hu hv e => ?_) ih
      have hlu := (ok u hu).1
      have hlv := (ok v hv).1
      refine nth_ext (by rw [hlu.len, hlv.len]) fun i hi => ?_
      have h : nth (List.zipWith (add p m) u ((vec k).map (mul p m top a))) i = nth (List.zipWith (add p m) v ((vec k).map (mul p m top a))) i := congrArg (fun w => nth w i) e
      rw [nthzip z2 (len u a hu), nthzip z2 (len v a hv)] at h
      exact add_cancel F (nth_th (N0 F) hlu.th i) (nth_th (N0 F) hlv.th i) h
    · obtain ⟨u, hu, rfl⟩ := List.mem_map.mp hx
      obtain ⟨v, hv, rfl⟩ := List.mem_map.mp hy
      have h : nth (List.zipWith (add p m) u ((vec k).map (mul p m top a))) (marks.length + k) = nth (List.zipWith (add p m) v ((vec k).map (mul p m top b))) (marks.length + k) := congrArg (fun w => nth w (marks.length + k)) e
      rw [nthzip z2 (len u a hu), nthzip z2 (len v b hv), nthmapz (mul_zero F a), nthmapz (mul_zero F b), (ok u hu).2 k (Nat.le_refl _), (ok v hv).2 k (Nat.le_refl _), V.one k (by omega), mul_one F (ltr_mem.mp ha).1, mul_one F (ltr_mem.mp hb).1, zero_add F (ltr_mem.mp ha).1, zero_add F (ltr_mem.mp hb).1] at h
      exact ne h
def allT (so : List Nat) : Nat → List (List Nat)
  | 0 => [[]]
  | k + 1 => so.flatMap fun a => (allT so k).map (a :: ·)
theorem allT_len (so : List Nat) : ∀ k, (allT so k).length = so.length ^ k
  | 0 => rfl
  | k + 1 => by
    show (so.flatMap _).length = _
    rw [flatlen _ (so.length ^ k) fun a => by rw [List.length_map, allT_len so k], Nat.pow_succ, Nat.mul_comm]
theorem allT_mem {so : List Nat} : ∀ {k : Nat} {t : List Nat}, t.length = k → (∀ x, x ∈ t → x ∈ so) → t ∈ allT so k
  | 0, [], _, _ => List.mem_singleton.mpr rfl
  | 0, _ :: _, h, _ => nomatch h
  | _ + 1, [], h, _ => nomatch h
  | k + 1, x :: t, h, q => List.mem_flatMap.mpr ⟨x, q x List.mem_cons_self, List.mem_map.mpr ⟨t, allT_mem (Nat.succ.inj h) fun y hy => q y (List.mem_cons_of_mem _ hy), rfl⟩⟩
theorem words_most (T : Tt p m top g l) (W : Wh p m top few root n marks) {L : List (List Nat)} (nd : L.Nodup) (wo : ∀ w, w ∈ L → Wo p m top few root n marks w) : L.length ≤ (ltr p m top few).length ^ (n - marks.length) := by
  have ml := W.mlen
  have h := DL.nodup_len (L.map (·.drop marks.length)) (allT (ltr p m top few) (n - marks.length)) (nodup_map (fun u v hu hv e => wd_uniq W T (wo u hu).th (wo v hv).th (wo u hu).len (wo v hv).len (wo u hu).z (wo v hv).z e) nd) fun t ht => by
    obtain ⟨w, hw, rfl⟩ := List.mem_map.mp ht
    exact allT_mem (by rw [List.length_drop, (wo w hw).len]) fun x hx => (wo w hw).lt x (List.mem_of_mem_drop hx)
  rwa [List.length_map, allT_len] at h
theorem words_all (T : Tt p m top g l) (W : Wh p m top few root n marks) {L : List (List Nat)} (nd : L.Nodup) (wo : ∀ w, w ∈ L → Wo p m top few root n marks w) (len : L.length = (ltr p m top few).length ^ (n - marks.length)) {w : List Nat} (h : Wo p m top few root n marks w) : w ∈ L := by
  refine Classical.byContradiction fun no => ?_
  have := words_most T W (L := w :: L) (List.nodup_cons.mpr ⟨no, nd⟩) fun v hv => by
    rcases List.mem_cons.mp hv with rfl | q
    · exact h
    · exact wo v q
  rw [List.length_cons] at this
  omega
structure Ws (p m top few root n : Nat) (marks : List Nat) (L : List (List Nat)) : Prop where
  nd : L.Nodup
  mem : ∀ w, w ∈ L ↔ Wo p m top few root n marks w
theorem Ws.perm {L M : List (List Nat)} (h : Ws p m top few root n marks L) (q : Ws p m top few root n marks M) : L.Perm M := (List.perm_ext_iff_of_nodup h.nd q.nd).mpr fun w => by rw [h.mem, q.mem]
theorem Vc.ws (T : Tt p m top g l) (W : Wh p m top few root n marks) {vec : Nat → List Nat} (V : Vc p m top few root n marks vec) : Ws p m top few root n marks (cmb p m top few n vec (n - marks.length)) := by
  have ml := W.mlen
  have ok := cmb_ok T T.fl V (n - marks.length) (by omega)
  have nd := cmb_nd T T.fl V (n - marks.length) (by omega)
  exact ⟨nd, fun w => ⟨fun h => (ok w h).1, words_all T W nd (fun w hw => (ok w hw).1) (cmb_len _)⟩⟩
theorem Ws.len {L : List (List Nat)} (T : Tt p m top g l) (W : Wh p m top few root n marks) (h : Ws p m top few root n marks L) {vec : Nat → List Nat} (V : Vc p m top few root n marks vec) : L.length = (p ^ few) ^ (n - marks.length) := by
  rw [(h.perm (V.ws T W)).length_eq, cmb_len, ltr_exact T W.f1 W.fd]
end
end PF
namespace PF
open FM
theorem trc_hi (l : List Nat) : ∀ k i, trc l k ≤ i → i < k → nth l i = 0
  | 0, i, _, h => absurd h (Nat.not_lt_zero i)
  | k + 1, i, h1, h2 => by
    unfold trc at h1
    by_cases h : nth l k = 0
    · rw [if_pos h] at h1
      by_cases e : i = k
      · subst e; exact h
      · exact trc_hi l k i h1 (by omega)
    · rw [if_neg h] at h1; omega
theorem trc_last (l : List Nat) : ∀ k j, trc l k = j + 1 → nth l j ≠ 0
  | 0, j, h => by cases h
  | k + 1, j, h => by
    unfold trc at h
    by_cases e : nth l k = 0
    · rw [if_pos e] at h; exact trc_last l k j h
    · rw [if_neg e] at h
      have : j = k := by omega
      subst this; exact e
theorem nth_take {l : List Nat} {t k : Nat} (h : k < t) : nth (l.take t) k = nth l k := by
  unfold nth
  rw [List.getD_eq_getElem?_getD, List.getD_eq_getElem?_getD, List.getElem?_take, if_pos h]
theorem trim_nth (l : List Nat) (k : Nat) : nth (trim l) k = nth l k := by
  unfold trim
  by_cases h : k < trc l l.length
  · exact nth_take h
  · rw [nth_hi (by rw [List.length_take]; omega)]
    by_cases h2 : k < l.length
    · exact (trc_hi l l.length k (by omega) h2).symm
    · exact (nth_hi (by omega)).symm
def Tr (l : List Nat) : Prop := ∀ k, l.length = k + 1 → nth l k ≠ 0
theorem trim_tr (l : List Nat) : Tr (trim l) := fun k h => by
  rw [trim_nth]
  have e : (trim l).length = trc l l.length := by
    unfold trim
    rw [List.length_take]
    have := trc_le l l.length
    omega
  exact trc_last l l.length k (by omega)
theorem tr_ext {l r : List Nat} (hl : Tr l) (hr : Tr r) (h : ∀ k, nth l k = nth r k) : l = r := by
  refine nth_ext ?_ fun i _ => h i
  rcases Nat.lt_trichotomy l.length r.length with c | c | c
  · obtain ⟨k, e⟩ : ∃ k, r.length = k + 1 := ⟨r.length - 1, by omega⟩
    exact absurd (by rw [← h k]; exact nth_hi (by omega)) (hr k e)
  · exact c
  · obtain ⟨k, e⟩ : ∃ k, l.length = k + 1 := ⟨l.length - 1, by omega⟩
    exact absurd (by rw [h k]; exact nth_hi (by omega)) (hl k e)
theorem tr_nil : Tr [] := fun k h => nomatch h
def tsum (p m : Nat) (xs ys : List Nat) : List Nat := trim ((List.range (max xs.length ys.length)).map fun k => add p m (nth xs k) (nth ys k))
section
variable {p m top : Nat}
theorem nthT (F : Pm p m top) {l : List Nat} (h : ThL p m l) (k : Nat) : nth l k < p ^ m := nth_lt h (N0 F)
theorem nthR {f : Nat → Nat} {n k : Nat} (h : k < n) : nth ((List.range n).map f) k = f k := by
  unfold nth
  rw [List.getD_eq_getElem?_getD, List.getElem?_map, List.getElem?_range h]; rfl
theorem tsum_nth (F : Pm p m top) (xs ys : List Nat) (k : Nat) : nth (tsum p m xs ys) k = add p m (nth xs k) (nth ys k) := by
  unfold tsum
  rw [trim_nth]
  by_cases h : k < max xs.length ys.length
  · exact nthR h
  · rw [nth_hi (by rw [List.length_map, List.length_range]; omega), nth_hi (l := xs) (by omega), nth_hi (l := ys) (by omega), add_zero F (N0 F)]
theorem tsum_tr (xs ys : List Nat) : Tr (tsum p m xs ys) := trim_tr _
theorem rtS_all (F : Pm p m top) (xs ys : List Nat) {c : Nat} (h : xs.length ≤ c) (k : Nat) : rtS p m top xs ys c k = rtS p m top xs ys xs.length k := by
  rw [show c = xs.length + (c - xs.length) by omega]
  exact rtS_more F xs ys k xs.length (fun i hi => by
    unfold rtT
    rw [nth_hi hi, zero_mul F]; split <;> rfl) _
theorem rtS_zero (F : Pm p m top) (xs ys : List Nat) (k : Nat) : ∀ c, (∀ i, i < c → rtT p m top xs ys k i = 0) → rtS p m top xs ys c k = 0
  | 0, _ => rfl
  | c + 1, h => by rw [rtS_succ, rtS_zero F xs ys k c fun i hi => h i (by omega), h c (by omega), add_zero F (N0 F)]
theorem rt_nth (F : Pm p m top) (xs ys : List Nat) (k : Nat) : nth (rt p m top xs ys) k = rtS p m top xs ys xs.length k := by
  unfold rt rt0
  rw [trim_nth]
  by_cases h : k < xs.length + ys.length
  · exact nthR h
  · rw [nth_hi (by rw [List.length_map, List.length_range]; omega)]
    refine (rtS_zero F xs ys k _ fun i hi => ?_).symm
    unfold rtT
    rw [nth_hi (l := ys) (by omega), mul_zero F]; split <;> rfl
theorem rtS_congr {xs xs' ys : List Nat} {k : Nat} : ∀ c, (∀ i, i < c → nth xs i = nth xs' i) → rtS p m top xs ys c k = rtS p m top xs' ys c k
  | 0, _ => rfl
  | c + 1, h => by
    rw [rtS_succ, rtS_succ, rtS_congr c fun i hi => h i (by omega)]
    unfold rtT
    rw [h c (by omega)]
theorem nth_set {l : List Nat} {i j v : Nat} (h : i < l.length) : nth (l.set i v) j = if j = i then v else nth l j := by
  unfold nth
  rw [List.getD_eq_getElem?_getD, List.getD_eq_getElem?_getD, List.getElem?_set]
  by_cases e : j = i
  · subst e; rw [if_pos rfl, if_pos rfl, if_pos h]; rfl
  · rw [if_neg (fun q => e q.symm), if_neg e]
theorem rtS_set (F : Pm p m top) {xs ys : List Nat} {t f : Nat} (ht : t < xs.length) (z : nth xs t = 0) (k : Nat) : ∀ c, rtS p m top (xs.set t f) ys c k = if t < c ∧ t ≤ k then add p m (rtS p m top xs ys c k) (mul p m top f (nth ys (k - t))) else rtS p m top xs ys c k
  | 0 => by rw [if_neg (by omega)]; rfl
  | c + 1 => by
    rw [rtS_succ, rtS_succ, rtS_set F ht z k c]
    by_cases e : c = t
    · subst e
      rw [if_neg (by omega)]
      unfold rtT
      by_cases h : c ≤ k
      · rw [if_pos h, if_pos h, if_pos ⟨by omega, h⟩, nth_set ht, if_pos rfl, z, zero_mul F, add_zero F (rtS_lt F ..)]
      · rw [if_neg h, if_neg h, if_neg (fun q => h q.2)]
    · have et : rtT p m top (xs.set t f) ys k c = rtT p m top xs ys k c := by
        unfold rtT
        rw [nth_set ht, if_neg e]
      rw [et]
      by_cases h : t < c ∧ t ≤ k
      · rw [if_pos h, if_pos ⟨by omega, h.2⟩, add_assoc F, add_assoc F, add_comm F (mul p m top f _)]
      · rw [if_neg h, if_neg (fun q => h ⟨by omega, q.2⟩)]
structure Dv (p m top : Nat) (xs ys : List Nat) (t : Nat) (fd lf : List Nat) : Prop where
  ll : lf.length = xs.length
  ft : ThL p m fd
  lt : ThL p m lf
  lo : ∀ i, i < t → nth fd i = 0
  hi : ∀ k, t + ys.length ≤ k + 1 → nth lf k = 0
  eq : ∀ k, add p m (rtS p m top fd ys fd.length k) (nth lf k) = nth xs k
theorem Dv.start (F : Pm p m top) {xs ys : List Nat} (hx : ThL p m xs) {Q : Nat} (hQ : Q = xs.length + 1 - ys.length) (hy : 1 ≤ ys.length) : Dv p m top xs ys Q (List.replicate Q 0) xs := by
  have z : ∀ i, nth (List.replicate Q 0) i = 0 := fun i => by
    unfold nth
    rw [List.getD_eq_getElem?_getD, List.getElem?_replicate]; split <;> rfl
  refine ⟨rfl, fun a ha => ?_, hx, fun i _ => z i, fun k hk => nth_hi (by omega), fun k => ?_⟩
  · rw [List.eq_of_mem_replicate ha]; exact N0 F
  · rw [rtS_zero F _ _ _ _ fun i _ => ?_, zero_add F (nthT F hx k)]
    unfold rtT
    rw [z, zero_mul F]; split <;> rfl
def lfC (p m top : Nat) (lf ys : List Nat) (f t j : Nat) : List Nat := (List.range lf.length).map fun k => if t ≤ k ∧ k < t + j then sub p m (nth lf k) (mul p m top f (nth ys (k - t))) else nth lf k
theorem lfC_len (lf ys : List Nat) (f t j : Nat) : (lfC p m top lf ys f t j).length = lf.length := by unfold lfC; rw [List.length_map, List.length_range]
theorem lfC_nth (F : Pm p m top) {lf ys : List Nat} {f t : Nat} (hl : ThL p m lf) (k : Nat) : nth (lfC p m top lf ys f t ys.length) k = if t ≤ k ∧ k < lf.length then sub p m (nth lf k) (mul p m top f (nth ys (k - t))) else nth lf k := by
  by_cases h : k < lf.length
  · unfold lfC
    rw [nthR h]
    by_cases h1 : t ≤ k ∧ k < t + ys.length
    · rw [if_pos h1, if_pos ⟨h1.1, h⟩]
    · rw [if_neg h1]
      by_cases h2 : t ≤ k
      · rw [if_pos ⟨h2, h⟩, nth_hi (l := ys) (by omega), mul_zero F, sub_zero F (nthT F hl k)]
      · rw [if_neg (fun q => h2 q.1)]
  · rw [nth_hi (by rw [lfC_len]; omega), if_neg (fun q => h q.2), nth_hi (by omega)]
theorem lfC_th (F : Pm p m top) {lf ys : List Nat} {f t j : Nat} (hl : ThL p m lf) : ThL p m (lfC p m top lf ys f t j) := fun a ha => by
  obtain ⟨k, _, rfl⟩ := List.mem_map.mp ha
  split
  · exact sub_lt F _ _
  · exact nthT F hl k
theorem Dv.step (F : Pm p m top) {xs ys fd lf : List Nat} {t f : Nat} (d : Dv p m top xs ys (t + 1) fd lf) (ht : t < fd.length) (hQ : fd.length = xs.length + 1 - ys.length) (hf : f < p ^ m) (hy : 1 ≤ ys.length) (e : mul p m top f (nth ys (ys.length - 1)) = nth lf (t + ys.length - 1)) :
    Dv p m top xs ys t (fd.set t f) (lfC p m top lf ys f t ys.length) where
  ll := by rw [lfC_len]; exact d.ll
  ft := fun a ha => (List.mem_or_eq_of_mem_set ha).elim (d.ft a) fun q => by rw [q]; exact hf
  lt := lfC_th F d.lt
  lo := fun i hi => by rw [nth_set ht, if_neg (by omega)]; exact d.lo i (by omega)
  hi := fun k hk => by
    rw [lfC_nth F d.lt]
    by_cases c : t ≤ k ∧ k < lf.length
    · rw [if_pos c]
      by_cases c2 : k + 1 = t + ys.length
      · have e1 : k - t = ys.length - 1 := by omega
        have e2 : t + ys.length - 1 = k := by omega
        rw [e1, e, e2, sub_self F]
      · rw [nth_hi (l := ys) (by omega), mul_zero F, sub_zero F (nthT F d.lt k)]
        exact d.hi k (by omega)
    · rw [if_neg c]
      by_cases c2 : k < lf.length
      · exact absurd ⟨by omega, c2⟩ c
      · exact nth_hi (by omega)
  eq := fun k => by
    rw [List.length_set, rtS_set F ht (d.lo t (by omega)), lfC_nth F d.lt]
    by_cases c : t ≤ k
    · rw [if_pos ⟨ht, c⟩]
      by_cases c2 : k < lf.length
      · rw [if_pos ⟨c, c2⟩, add_assoc F, add_comm F (mul p m top f _), sub_add F (nthT F d.lt k)]
        exact d.eq k
      · rw [if_neg (fun q => c2 q.2)]
        have := d.ll
        rw [nth_hi (l := ys) (by omega), mul_zero F, add_zero F (rtS_lt F ..)]
        exact d.eq k
    · rw [if_neg (fun q => c q.2), if_neg (fun q => c q.1)]
      exact d.eq k
theorem Dv.whole (F : Pm p m top) {xs ys fd lf : List Nat} (d : Dv p m top xs ys 0 fd lf) (hx : Tr xs) : tsum p m (rt p m top (trim fd) ys) (trim lf) = xs := by
  refine tr_ext (tsum_tr _ _) hx fun k => ?_
  rw [tsum_nth F, rt_nth F, trim_nth]
  have e : rtS p m top (trim fd) ys (trim fd).length k = rtS p m top fd ys fd.length k := by
    rw [← rtS_all F (trim fd) ys (trim_len fd)]
    exact rtS_congr _ fun i _ => trim_nth fd i
  rw [e]
  exact d.eq k
end
end PF
namespace PF
open FM
def pl (p m top : Nat) : List Nat → (Nat → Nat) → Nat → Nat
  | [], _, _ => 0
  | x :: _, g, 0 => add p m (mul p m top x (g 0)) 0
  | x :: xs, g, k + 1 => add p m (mul p m top x (g (k + 1))) (pl p m top xs g k)
def sh (g : Nat → Nat) : Nat → Nat
  | 0 => 0
  | k + 1 => g k
section
variable {p m top : Nat}
theorem pl_congr : ∀ (xs : List Nat) {g h : Nat → Nat} (k : Nat), (∀ i, i ≤ k → g i = h i) → pl p m top xs g k = pl p m top xs h k
  | [], _, _, _, _ => rfl
  | _ :: _, _, _, 0, e => by unfold pl; rw [e 0 (Nat.le_refl _)]
  | _ :: xs, _, _, k + 1, e => by unfold pl; rw [e (k + 1) (Nat.le_refl _), pl_congr xs k fun i hi => e i (Nat.le_succ_of_le hi)]
theorem swap4 (F : Pm p m top) (a b c d : Nat) : add p m (add p m a b) (add p m c d) = add p m (add p m a c) (add p m b d) := by
  rw [add_assoc F, ← add_assoc F b c d, add_comm F b c, add_assoc F c b d, ← add_assoc F]
theorem pl_add (F : Pm p m top) : ∀ (xs : List Nat) (g h : Nat → Nat) (k : Nat), pl p m top xs (fun i => add p m (g i) (h i)) k = add p m (pl p m top xs g k) (pl p m top xs h k)
  | [], _, _, _ => (add_zero F (N0 F)).symm
  | x :: _, g, h, 0 => by
    unfold pl
    rw [mul_add F, add_zero F (add_lt F _ _), add_zero F (mul_lt F _ _), add_zero F (mul_lt F _ _)]
  | x :: xs, g, h, k + 1 => by
    unfold pl
    rw [mul_add F, pl_add F xs g h k, swap4 F]
theorem pl_mul (F : Pm p m top) (c : Nat) : ∀ (xs : List Nat) (g : Nat → Nat) (k : Nat), pl p m top xs (fun i => mul p m top c (g i)) k = mul p m top c (pl p m top xs g k)
  | [], _, _ => (mul_zero F c).symm
  | x :: _, g, 0 => by
    unfold pl
    rw [add_zero F (mul_lt F _ _), add_zero F (mul_lt F _ _), ← mul_assoc F, mul_comm F x c, mul_assoc F]
  | x :: xs, g, k + 1 => by
    unfold pl
    rw [pl_mul F c xs g k, mul_add F, ← mul_assoc F, mul_comm F x c, mul_assoc F]
theorem pl_zero (F : Pm p m top) : ∀ (xs : List Nat) {g : Nat → Nat} (k : Nat), (∀ i, i ≤ k → g i = 0) → pl p m top xs g k = 0
  | [], _, _, _ => rfl
  | x :: _, _, 0, e => by unfold pl; rw [e 0 (Nat.le_refl _), mul_zero F, add_zero F (N0 F)]
  | x :: xs, _, k + 1, e => by unfold pl; rw [e (k + 1) (Nat.le_refl _), mul_zero F, pl_zero F xs k fun i hi => e i (Nat.le_succ_of_le hi), add_zero F (N0 F)]
theorem pl_sh (F : Pm p m top) : ∀ (xs : List Nat) (g : Nat → Nat) (k : Nat), pl p m top xs (sh g) k = sh (pl p m top xs g) k
  | [], _, 0 => rfl
  | [], _, _ + 1 => rfl
  | x :: _, _, 0 => by
    show add p m (mul p m top x 0) 0 = 0
    rw [mul_zero F, add_zero F (N0 F)]
  | x :: xs, g, 1 => by
    show add p m (mul p m top x (g 0)) (pl p m top xs (sh g) 0) = pl p m top (x :: xs) g 0
    rw [pl_sh F xs g 0]; rfl
  | x :: xs, g, k + 2 => by
    show add p m (mul p m top x (g (k + 1))) (pl p m top xs (sh g) (k + 1)) = pl p m top (x :: xs) g (k + 1)
    rw [pl_sh F xs g (k + 1)]; rfl
theorem pl_cons (F : Pm p m top) (x : Nat) (xs : List Nat) (g : Nat → Nat) (k : Nat) : pl p m top (x :: xs) g k = add p m (mul p m top x (g k)) (sh (pl p m top xs g) k) := by
  cases k with
  | zero => rfl
  | succ k => rfl
theorem pl_comm (F : Pm p m top) : ∀ (xs ys : List Nat) (g : Nat → Nat) (k : Nat), pl p m top xs (pl p m top ys g) k = pl p m top ys (pl p m top xs g) k
  | [], ys, _, k => (pl_zero F ys k fun _ _ => rfl).symm
  | x :: xs, ys, g, k => by
    rw [pl_cons F]
    have e : sh (pl p m top xs (pl p m top ys g)) k = pl p m top ys (sh (pl p m top xs g)) k := by
      rw [pl_sh F]
      cases k with
      | zero => rfl
      | succ k => exact pl_comm F xs ys g k
    rw [e, ← pl_mul F x ys g k, ← pl_add F]
    exact pl_congr ys k fun i _ => (pl_cons F x xs g i).symm
theorem rtS_pl (F : Pm p m top) (ys : List Nat) : ∀ (xs : List Nat) (k : Nat), rtS p m top xs ys xs.length k = pl p m top xs (nth ys) k
  | [], _ => rfl
  | x :: xs, k => by
    have e0 : rtS p m top (x :: xs) ys (x :: xs).length k = add p m (mul p m top x (nth ys k)) (sumN p m ((List.range xs.length).map fun i => rtT p m top (x :: xs) ys k (i + 1))) := by
      unfold rtS
      rw [List.length_cons, List.range_succ_eq_map, List.map_cons, List.map_map, sumN_cons F _ (rtT_lt F ..)]
      rfl
    rw [e0, pl_cons F]
    congr 1
    cases k with
    | zero =>
      show sumN p m _ = 0
      have : ((List.range xs.length).map fun i => rtT p m top (x :: xs) ys 0 (i + 1)) = (List.range xs.length).map (rtT p m top [] ys 0) := List.map_congr_left fun i _ => by
        unfold rtT
        rw [if_neg (by omega), nth_hi (l := []) (Nat.zero_le _), zero_mul F]
        split <;> rfl
      rw [this]
      exact rtS_zero F [] ys 0 _ fun i _ => by
        unfold rtT
        rw [nth_hi (l := []) (Nat.zero_le _), zero_mul F]
        split <;> rfl
    | succ k =>
      show sumN p m _ = pl p m top xs (nth ys) k
      rw [← rtS_pl F ys xs k]
      unfold rtS
      congr 1
      refine List.map_congr_left fun i _ => ?_
      unfold rtT
      by_cases h : i ≤ k
      · rw [if_pos (by omega), if_pos h, show k + 1 - (i + 1) = k - i by omega]; rfl
      · rw [if_neg (by omega), if_neg h]
theorem pl_sym (F : Pm p m top) (xs ys : List Nat) (k : Nat) : pl p m top xs (nth ys) k = pl p m top ys (nth xs) k := by
  rw [← rtS_pl F, ← rtS_pl F]
  exact rtS_comm F xs ys k
def Dd (p m top : Nat) (d a : List Nat) : Prop := ∃ h : List Nat, ThL p m h ∧ ∀ k, nth a k = pl p m top d (nth h) k
def lsum (p m : Nat) (xs ys : List Nat) : List Nat := (List.range (max xs.length ys.length)).map fun k => add p m (nth xs k) (nth ys k)
theorem lsum_nth (F : Pm p m top) (xs ys : List Nat) (k : Nat) : nth (lsum p m xs ys) k = add p m (nth xs k) (nth ys k) := by
  unfold lsum
  by_cases h : k < max xs.length ys.length
  · exact nthR h
  · rw [nth_hi (by rw [List.length_map, List.length_range]; omega), nth_hi (l := xs) (by omega), nth_hi (l := ys) (by omega), add_zero F (N0 F)]
theorem lsum_th (F : Pm p m top) (xs ys : List Nat) : ThL p m (lsum p m xs ys) := fun a ha => by
  obtain ⟨k, _, rfl⟩ := List.mem_map.mp ha
  exact add_lt F _ _
theorem Dd.congr {d a b : List Nat} (h : Dd p m top d a) (e : ∀ k, nth b k = nth a k) : Dd p m top d b := by
  obtain ⟨q, t, h⟩ := h
  exact ⟨q, t, fun k => by rw [e, h]⟩
theorem Dd.add' (F : Pm p m top) {d a b c : List Nat} (h : Dd p m top d a) (g : Dd p m top d b) (e : ∀ k, nth c k = add p m (nth a k) (nth b k)) : Dd p m top d c := by
  obtain ⟨q, t, h⟩ := h
  obtain ⟨r, u, g⟩ := g
  refine ⟨lsum p m q r, lsum_th F q r, fun k => ?_⟩
  rw [e, h, g, ← pl_add F]
  exact pl_congr d k fun i _ => (lsum_nth F q r i).symm
theorem Dd.mul' (F : Pm p m top) {d a c q : List Nat} (h : Dd p m top d a) (e : ∀ k, nth c k = pl p m top q (nth a) k) : Dd p m top d c := by
  obtain ⟨r, u, h⟩ := h
  refine ⟨rt0 p m top q r, rt0_th F q r, fun k => ?_⟩
  rw [e, pl_congr q k fun i _ => h i, pl_comm F]
  refine pl_congr d k fun i _ => ?_
  rw [← rtS_pl F]
  have := rt_nth F q r i
  unfold rt at this
  rw [trim_nth] at this
  exact this.symm
theorem pl_one (F : Pm p m top) (c : Nat) (g : Nat → Nat) (k : Nat) : pl p m top [c] g k = mul p m top c (g k) := by
  rw [pl_cons F]
  cases k with
  | zero => exact add_zero F (mul_lt F _ _)
  | succ k => exact add_zero F (mul_lt F _ _)
theorem Dd.sub' (F : Pm p m top) {d a b c : List Nat} (tb : ThL p m b) (tc : ThL p m c) (h : Dd p m top d a) (g : Dd p m top d b) (e : ∀ k, nth a k = add p m (nth b k) (nth c k)) : Dd p m top d c := by
  have n : Dd p m top d (b.map (mul p m top (sub p m 0 1))) := g.mul' F (q := [sub p m 0 1]) fun k => by
    rw [pl_one F, nth_mapz (mul_zero F _)]
  refine h.add' F n fun k => ?_
  rw [nth_mapz (mul_zero F _), e, add_comm F (nth b k), add_assoc F]
  have z : add p m (nth b k) (mul p m top (sub p m 0 1) (nth b k)) = 0 := by
    have e1 : mul p m top 1 (nth b k) = nth b k := one_mul F (nthT F tb k)
    have e2 : add p m 1 (sub p m 0 1) = 0 := by rw [add_comm F, sub_add F (N0 F)]
    have e3 : add p m (mul p m top 1 (nth b k)) (mul p m top (sub p m 0 1) (nth b k)) = 0 := by rw [← add_mul F, e2, zero_mul F]
    rwa [e1] at e3
  rw [z, add_zero F (nthT F tc k)]
theorem Dd.nil (F : Pm p m top) (d : List Nat) : Dd p m top d [] := ⟨[], (fun _ h => nomatch h), fun k => by rw [pl_zero F d k fun i _ => nth_hi (Nat.zero_le _)]; exact nth_hi (Nat.zero_le _)⟩
theorem Dd.self (F : Pm p m top) {d : List Nat} (t : ThL p m d) : Dd p m top d d := ⟨[1], fun a ha => by rw [List.mem_singleton.mp ha]; exact F.one_lt, fun k => by
  rw [pl_sym F d [1], pl_one F, one_mul F (nthT F t k)]⟩
theorem Dv.cd (F : Pm p m top) {xs ys fd lf : List Nat} (d : Dv p m top xs ys 0 fd lf) (D : List Nat) : (Dd p m top D xs ∧ Dd p m top D ys) ↔ (Dd p m top D ys ∧ Dd p m top D (trim lf)) := by
  have em : ∀ k, nth (rt p m top fd ys) k = rtS p m top fd ys fd.length k := rt_nth F fd ys
  have M : Dd p m top D ys → Dd p m top D (rt p m top fd ys) := fun h => h.mul' F fun k => by rw [em, rtS_pl F]
  constructor
  · rintro ⟨h1, h2⟩
    exact ⟨h2, h1.sub' F (rt_th F _ _) (trim_th d.lt) (M h2) fun k => by rw [em, trim_nth]; exact (d.eq k).symm⟩
  · rintro ⟨h2, h3⟩
    exact ⟨(M h2).add' F h3 fun k => by rw [em, trim_nth]; exact (d.eq k).symm, h2⟩
theorem pl_top (F : Pm p m top) : ∀ (a : List Nat) (n : Nat) (g : Nat → Nat) (j : Nat), a.length = n + 1 → (∀ k, j < k → g k = 0) → pl p m top a g (n + j) = mul p m top (nth a n) (g j)
  | [], _, _, _, h, _ => nomatch h
  | [x], n, g, j, h, _ => by
    have : n = 0 := by
      have h2 : 1 = n + 1 := h
      omega
    subst this
    rw [Nat.zero_add, pl_one F]; rfl
  | x :: y :: a, n, g, j, h, z => by
    obtain ⟨n', rfl⟩ : ∃ n', n = n' + 1 := ⟨n - 1, by rw [List.length_cons, List.length_cons] at h; omega⟩
    rw [show n' + 1 + j = (n' + j) + 1 by omega]
    show add p m (mul p m top x (g (n' + j + 1))) (pl p m top (y :: a) g (n' + j)) = _
    rw [z _ (by omega), mul_zero F, pl_top F (y :: a) n' g j (by rw [List.length_cons] at h; omega) z, zero_add F (mul_lt F _ _)]
    rfl
theorem Dd.len (F : Pm p m top) (nz : ∀ {a b : Nat}, a < p ^ m → b < p ^ m → mul p m top a b = 0 → a = 0 ∨ b = 0) {a b : List Nat} (ta : ThL p m a) (ra : Tr a) (rb : Tr b) (h : Dd p m top a b) (nb : b ≠ []) :
    ∃ q, ThL p m q ∧ (∀ k, nth b k = pl p m top a (nth q) k) ∧ 1 ≤ q.length ∧ a.length + q.length ≤ b.length + 1 := by
  obtain ⟨q0, t0, e0⟩ := h
  have e1 : ∀ k, nth b k = pl p m top a (nth (trim q0)) k := fun k => by rw [e0]; exact pl_congr a k fun i _ => (trim_nth q0 i).symm
  have tq := trim_th t0
  have rq := trim_tr q0
  generalize trim q0 = q at e1 tq rq
  obtain ⟨bk, ebk⟩ : ∃ bk, b.length = bk + 1 := ⟨b.length - 1, by
    have := List.length_pos_iff.mpr nb
    omega⟩
  have bne := rb bk ebk
  have qne : q ≠ [] := fun z => by
    rw [z] at e1
    rw [e1 bk, pl_zero F a bk fun i _ => nth_hi (Nat.zero_le _)] at bne
    exact bne rfl
  have ane : a ≠ [] := fun z => by
    rw [z] at e1
    rw [e1 bk] at bne
    exact bne rfl
  have q1 := List.length_pos_iff.mpr qne
  have a1 := List.length_pos_iff.mpr ane
  refine ⟨q, tq, e1, q1, ?_⟩
  have top1 := pl_top F a (a.length - 1) (nth q) (q.length - 1) (by omega) fun k hk => nth_hi (by omega)
  rw [← e1] at top1
  have x1 := ra (a.length - 1) (by omega)
  have x2 := rq (q.length - 1) (by omega)
  rcases Nat.lt_or_ge (a.length - 1 + (q.length - 1)) b.length with c | c
  · omega
  · rw [nth_hi c] at top1
    rcases nz (nthT F ta _) (nthT F tq _) top1.symm with z | z
    · exact absurd z x1
    · exact absurd z x2
theorem dd_uniq (F : Pm p m top) (nz : ∀ {a b : Nat}, a < p ^ m → b < p ^ m → mul p m top a b = 0 → a = 0 ∨ b = 0) {a b : List Nat} (ta : ThL p m a) (tb : ThL p m b) (ra : Tr a) (rb : Tr b) (ma : ∀ n, a.length = n + 1 → nth a n = 1) (mb : ∀ n, b.length = n + 1 → nth b n = 1) (h1 : Dd p m top a b) (h2 : Dd p m top b a) : a = b := by
  have nil : ∀ {a b : List Nat}, Tr b → Dd p m top a b → a = [] → b = [] := fun rb h e => by
    subst e
    obtain ⟨q, _, e⟩ := h
    exact tr_ext rb tr_nil fun k => by rw [e]; exact (nth_hi (Nat.zero_le _)).symm
  by_cases na : a = []
  · rw [na, nil rb h1 na]
  by_cases nb : b = []
  · rw [nb, nil ra h2 nb]
  obtain ⟨q, tq, e, q1, l1⟩ := h1.len F nz ta ra rb nb
  obtain ⟨q', _, _, q1', l2⟩ := h2.len F nz tb rb ra na
  have el : a.length = b.length := by omega
  have ql : q.length = 1 := by omega
  obtain ⟨c, rfl⟩ : ∃ c, q = [c] := by
    match q, ql with
    | [c], _ => exact ⟨c, rfl⟩
  have ec : ∀ k, nth b k = mul p m top c (nth a k) := fun k => by rw [e, pl_sym F a [c], pl_one F]
  have a1 := List.length_pos_iff.mpr na
  have cl : c < p ^ m := tq c List.mem_cons_self
  have c1 : c = 1 := by
    have := ec (a.length - 1)
    rw [ma (a.length - 1) (by omega), mb (a.length - 1) (by omega), mul_one F cl] at this
    exact this.symm
  refine nth_ext el fun k _ => ?_
  rw [ec, c1, one_mul F (nthT F ta k)]
structure Gc (p m top : Nat) (a b d : List Nat) : Prop where
  th : ThL p m d
  tr : Tr d
  mo : ∀ n, d.length = n + 1 → nth d n = 1
  dd : ∀ D, Dd p m top D d ↔ (Dd p m top D a ∧ Dd p m top D b)
theorem Gc.uniq (F : Pm p m top) (nz : ∀ {a b : Nat}, a < p ^ m → b < p ^ m → mul p m top a b = 0 → a = 0 ∨ b = 0) {a b d e : List Nat} (h : Gc p m top a b d) (g : Gc p m top a b e) : d = e :=
  dd_uniq F nz h.th g.th h.tr g.tr h.mo g.mo ((g.dd d).mpr ((h.dd d).mp (Dd.self F h.th))) ((h.dd e).mpr ((g.dd e).mp (Dd.self F g.th)))
end
end PF
namespace DL
open PySem PySem.Spec PyProof.Rows L2
variable {X : Cx} {mg : Gm} {W : Wd}
theorem RelK.no : ∀ {kvs : List (Key × V)} {es : List (Key × D)} {k : Key}, RelK mg W kvs es → valD es k = none → valV kvs k = none
  | _, _, k, .nil, _ => rfl
  | _, _, k, .cons (k := k') r t, h => by
    by_cases e : k' = k
    · rw [valD_pos e] at h; cases h
    · rw [valD_neg e] at h
      rw [valV_neg e]; exact RelK.no t h
theorem RelK.isSome {kvs : List (Key × V)} {es : List (Key × D)} {k : Key} (r : RelK mg W kvs es) : (valV kvs k).isSome = (valD es k).isSome := by
  cases e : valD es k with
  | none => rw [r.no e]; rfl
  | some d =>
    obtain ⟨v, h, _⟩ := r.val e
    rw [h]; rfl
end DL
namespace DL
open PySem PySem.Spec PyProof.Rows L2
section
variable {X : Cx} {mg : Gm} {K : PySem.W.Frag} {ta' tb' : TE} {ta tb : DTE}
end
end DL
namespace PF
open PySem PySem.Spec PyProof.Rows L2 DL FM
set_option maxHeartbeats 4000000
structure Pp (marks : List Nat) (n : Nat) (t : Nat × Nat × Nat) : Prop where
  f : t.1 < n
  s1 : 1 ≤ t.2.1
  s2 : t.2.1 ≤ n
  co : Nat.gcd t.2.1 n = 1
  k : t.2.2 ≤ n
  ok : ∀ j, j < t.2.2 → (t.1 + j * t.2.1) % n ∈ marks
end PF
namespace PF
open PySem PySem.Spec PyProof.Rows L2 DL FM
set_option maxHeartbeats 1000000
structure Sm (t : Nat × Nat × Nat) : Prop where
  a : t.1 ≤ 1000
  b : t.2.1 ≤ 1000
  c : t.2.2 ≤ 1000
end PF
set_option maxHeartbeats 1000000
namespace PF
open PySem PySem.Spec PyProof.Rows L2 DL FM
open FM
section
variable {p m top u thing : Nat}
def dr (p m top : Nat) (row : List Nat) : List Nat := ((List.range row.length).map fun i => mul p m top (i % p) (nth row i)).drop 1
end
end PF
namespace PF
open FM
section
variable {p m top : Nat}
theorem S_pl (F : Pm p m top) (y : Nat) {g : Nat → Nat} {b : Nat} (gl : ∀ i, g i < p ^ m) (hb : ∀ i, b ≤ i → g i = 0) : ∀ (xs : List Nat) (L : Nat), xs.length + b ≤ L → S p m L (fun k => mul p m top (pl p m top xs g k) (gp p m top y k)) = mul p m top (ev p m top y xs) (S p m b fun k => mul p m top (g k) (gp p m top y k))
  | [], L, _ => by
    have e : S p m L (fun k => mul p m top (pl p m top [] g k) (gp p m top y k)) = 0 := S_nil (F := F) fun i _ => by
      show mul p m top 0 _ = 0
      exact zero_mul F _
    rw [e]
    show 0 = mul p m top 0 _
    exact (zero_mul F _).symm
  | x :: xs, L, hL => by
    rw [List.length_cons] at hL
    obtain ⟨L', rfl⟩ : ∃ L', L = L' + 1 := ⟨L - 1, by omega⟩
    have e1 : S p m (L' + 1) (fun k => mul p m top (pl p m top (x :: xs) g k) (gp p m top y k)) = add p m (S p m (L' + 1) fun k => mul p m top x (mul p m top (g k) (gp p m top y k))) (S p m (L' + 1) fun k => mul p m top (sh (pl p m top xs g) k) (gp p m top y k)) := by
      rw [← S_add F (fun i => mul_lt F _ _) (fun i => mul_lt F _ _)]
      refine S_congr fun k _ => ?_
      rw [pl_cons F, add_mul F, mul_assoc F]
    have e2 : S p m (L' + 1) (fun k => mul p m top x (mul p m top (g k) (gp p m top y k))) = mul p m top x (S p m b fun k => mul p m top (g k) (gp p m top y k)) := by
      rw [S_mul F x (fun i => mul_lt F _ _)]
      congr 1
      rw [show L' + 1 = b + (L' + 1 - b) by omega]
      exact S_more (F := F) fun i h1 _ => by rw [hb i h1, zero_mul F]
    have e3 : S p m (L' + 1) (fun k => mul p m top (sh (pl p m top xs g) k) (gp p m top y k)) = mul p m top (S p m L' fun k => mul p m top (pl p m top xs g k) (gp p m top y k)) y := by
      rw [S_head F (fun i => mul_lt F _ _), ← S_mulr F y (fun i => mul_lt F _ _)]
      show add p m (mul p m top 0 _) _ = _
      rw [zero_mul F, zero_add F (S_lt F _ _)]
      refine S_congr fun k _ => ?_
      show mul p m top (pl p m top xs g k) (mul p m top (gp p m top y k) y) = _
      rw [mul_assoc F]
    rw [e1, e2, e3, S_pl F y gl hb xs L' (by omega)]
    show _ = mul p m top (add p m (mul p m top (ev p m top y xs) y) x) _
    rw [add_mul F, add_comm F, mul_assoc F, mul_assoc F, mul_comm F y]
theorem S_of (F : Pm p m top) (y : Nat) (xs : List Nat) {L : Nat} (h : xs.length ≤ L) : S p m L (fun k => mul p m top (nth xs k) (gp p m top y k)) = ev p m top y xs := by
  rw [show L = xs.length + (L - xs.length) by omega]
  exact ev_more F xs _
theorem ev_pl (F : Pm p m top) (y : Nat) {xs ys zs : List Nat} (ty : ThL p m ys) (e : ∀ k, nth zs k = pl p m top xs (nth ys) k) : ev p m top y zs = mul p m top (ev p m top y xs) (ev p m top y ys) := by
  rw [← S_of F y zs (L := zs.length + xs.length + ys.length) (by omega), ← S_of F y ys (Nat.le_refl _), ← S_pl F y (nthT F ty) (fun i hi => nth_hi hi) xs (zs.length + xs.length + ys.length) (by omega)]
  exact S_congr fun k _ => by rw [e]
theorem Dv.ev (F : Pm p m top) {xs ys fd lf : List Nat} (d : Dv p m top xs ys 0 fd lf) (ty : ThL p m ys) (z : ∀ k, nth lf k = 0) (y : Nat) : ev p m top y xs = mul p m top (ev p m top y fd) (ev p m top y ys) :=
  ev_pl F y ty fun k => by
    have := d.eq k
    rw [z, add_zero F (rtS_lt F ..), rtS_pl F] at this
    exact this.symm
end
end PF
set_option maxHeartbeats 1000000
namespace PF
open PySem PySem.Spec PyProof.Rows L2 DL FM
open FM
section
variable {p m top few root n g : Nat} {marks l : List Nat}
def bk (p m top root n part : Nat) (V : List Nat) : List Nat := (vls p m top (gp p m top root (n - 1)) V).map fun one => mul p m top part one
end
end PF
namespace PF
open PySem PySem.Spec PyProof.Rows L2 DL FM
set_option maxHeartbeats 1000000
structure Fa (p m n many : Nat) (L : List (Nat × Nat)) : Prop where
  rise : (L.map Prod.fst).Pairwise (· < ·)
  near : ∀ kw, kw ∈ L → kw.1 < n
  th : ∀ kw, kw ∈ L → kw.2 < p ^ m
  few : L.length ≤ many
end PF
namespace PF
open PySem PySem.Spec PyProof.Rows L2 DL FM
open FM
set_option maxHeartbeats 1000000
def ft (one other : List Nat) (n : Nat) : Option Nat := (tn n).find? fun a => decide (mv one a n = other)
end PF
set_option maxHeartbeats 1000000
namespace PF
open PySem PySem.Spec PyProof.Rows L2 DL FM
open FM
def sm : Nat → (Nat → Int) → Int
  | 0, _ => 0
  | n + 1, f => sm n f + f n
theorem sm_congr {f g : Nat → Int} : ∀ {n : Nat}, (∀ i, i < n → f i = g i) → sm n f = sm n g
  | 0, _ => rfl
  | n + 1, h => by
    show sm n f + f n = sm n g + g n
    rw [sm_congr fun i hi => h i (by omega), h n (by omega)]
theorem sm_add (f g : Nat → Int) : ∀ n, sm n (fun i => f i + g i) = sm n f + sm n g
  | 0 => rfl
  | n + 1 => by
    show sm n _ + (f n + g n) = (sm n f + f n) + (sm n g + g n)
    rw [sm_add f g n]; omega
theorem sm_mul (c : Int) (f : Nat → Int) : ∀ n, sm n (fun i => c * f i) = c * sm n f
  | 0 => (Int.mul_zero c).symm
  | n + 1 => by
    show sm n _ + c * f n = c * (sm n f + f n)
    rw [sm_mul c f n, Int.mul_add]
theorem sm_head (f : Nat → Int) : ∀ n, sm (n + 1) f = f 0 + sm n fun i => f (i + 1)
  | 0 => by show (0 : Int) + f 0 = f 0 + 0; omega
  | n + 1 => by
    show sm (n + 1) f + f (n + 1) = f 0 + (sm n _ + f (n + 1))
    rw [sm_head f n]; omega
section
variable {α β : Type}
end
section
variable {p m top few g : Nat} {l : List Nat} (T : Tt p m top g l) (f1 : 1 ≤ few) (fd : m % few = 0)
include T f1 fd
end
end PF
namespace PF
open PySem PySem.Spec PyProof.Rows L2 DL FM
open FM
section
variable {p m top few root n g : Nat} {marks l : List Nat} (T : Tt p m top g l) (W : Wh p m top few root n marks)
include T W
end
end PF
namespace PF
open PySem PySem.Spec PyProof.Rows L2 DL FM
open FM
section
variable {p m top few root n g : Nat} {marks l : List Nat} {L Lf : List (List Nat)} (T : Tt p m top g l) (W : Wh p m top few root n marks) (H : Ws p m top few root n marks L)
include T W
include H
end
end PF
set_option maxHeartbeats 1000000
namespace PF
open PySem PySem.Spec PyProof.Rows L2 DL FM
open FM
section
variable {p m top n g : Nat} {tl : List Nat} (T : Tt p m top g tl)
include T
end
end PF
set_option maxHeartbeats 1000000
namespace PF
open PySem PySem.Spec PyProof.Rows L2 DL FM
open FM
section
variable {p m top few root n g : Nat} {marks tl : List Nat} (T : Tt p m top g tl) (W : Wh p m top few root n marks)
include T W
end
end PF
set_option maxHeartbeats 1000000
namespace PF
open PySem PySem.Spec PyProof.Rows L2 DL FM
open FM
def ff (q many : Nat) : Nat → Int := fun t => ((q ^ (t - many) : Nat) : Int)
section
variable {p m top few root n g : Nat} {marks l : List Nat} (T : Tt p m top g l) (W : Wh p m top few root n marks)
end
end PF
set_option maxHeartbeats 1000000
namespace PF
open PySem PySem.Spec PyProof.Rows L2 DL FM
open FM
abbrev ch (x : Str) : List Nat := x.cps.toList
theorem ch_app (x y : Str) : ch (x ++ y) = ch x ++ ch y := TL.tl_append x y
def plainC (c : Nat) : Prop := c = 44 ∨ c = 32 ∨ (48 ≤ c ∧ c ≤ 57)
theorem ch_tuple (ts : List Str) : ch (tupleText ts) = 40 :: (TL.joinL [44, 32] (ts.map ch) ++ if ts.length = 1 then [44, 41] else [41]) := by
  unfold tupleText
  rw [ch_app, ch_app]
  have e1 : ch ("(" : Str) = [40] := by decide
  have e2 : ch (Str.join ", " ts) = TL.joinL [44, 32] (ts.map ch) := by
    have := TL.tl_join ", " ts
    exact this
  rw [e1, e2]
  by_cases h : ts.length = 1
  · rw [if_pos h, h]; rfl
  · rw [if_neg h, if_neg (by simpa using h)]; rfl
theorem item (d : PyData) (h : ∀ c, c ∈ ch d.shown → plainC c) : ∃ n : Nat, d = .int n := by
  have bad : ∀ c, c ∈ ch d.shown → ¬ plainC c → False := fun c hc no => no (h c hc)
  cases d with
  | none => exact (bad 78 (by decide) (by unfold plainC; omega)).elim
  | bool b =>
    cases b
    · exact (bad 70 (by decide) (by unfold plainC; omega)).elim
    · exact (bad 84 (by decide) (by unfold plainC; omega)).elim
  | int i =>
    match i with
    | .ofNat n => exact ⟨n, rfl⟩
    | .negSucc n =>
      refine (bad 45 ?_ (by unfold plainC; omega)).elim
      show 45 ∈ ch (Str.ofString (toString (Int.negSucc n)))
      have e1 : ch (Str.ofString (toString (Int.negSucc n))) = (toString (Int.negSucc n)).toList.map Char.toNat := TL.tl_ofString _
      rw [e1, Int.toString_eq_repr, Int.repr_eq_if, if_neg (by omega), String.toList_append, List.map_append]
      exact List.mem_append_left _ (by decide)
  | str x =>
    have e : reprQuote x ∈ ch (reprText x) := by
      unfold reprText
      show reprQuote x ∈ (Array.push _ (reprQuote x)).toList
      rw [Array.toList_push]
      exact List.mem_append_right _ (List.mem_singleton.mpr rfl)
    refine (bad _ e ?_).elim
    unfold reprQuote plainC
    split <;> omega
  | list xs =>
    refine (bad 93 ?_ (by unfold plainC; omega)).elim
    show 93 ∈ ch (listText _)
    unfold listText
    rw [ch_app]
    exact List.mem_append_right _ (by decide)
  | tuple xs =>
    refine (bad 40 ?_ (by unfold plainC; omega)).elim
    show 40 ∈ ch (tupleText _)
    rw [ch_tuple]; exact List.mem_cons_self
  | dict kvs =>
    refine (bad 125 ?_ (by unfold plainC; omega)).elim
    show 125 ∈ ch (dictText _)
    unfold dictText
    rw [ch_app]
    exact List.mem_append_right _ (by decide)
theorem items : ∀ xs : List PyData, (∀ t, t ∈ PyData.shownAll xs → ∀ c, c ∈ ch t → plainC c) → ∃ ns : List Nat, xs = ns.map fun n => PyData.int (n : Nat)
  | [], _ => ⟨[], rfl⟩
  | x :: xs, h => by
    obtain ⟨n, rfl⟩ := item x (h _ List.mem_cons_self)
    obtain ⟨ns, rfl⟩ := items xs fun t ht => h t (List.mem_cons_of_mem _ ht)
    exact ⟨n :: ns, rfl⟩
end PF
namespace DL
open PySem PySem.Spec PyProof.Rows L2
section
variable {P : Program} {w : World} {A : Around} {E : Value → Shared → Prop} {s : Shared}
end
section
variable {X : Cx} {mg : Gm} {W W' : Wd} {H H' : Hp} {v x y : V}
end
end DL
namespace DL
open PySem PySem.Spec PyProof.Rows L2
def spR (gg : Gm) (C : Value) (S : List D → Prop) : Sp := fun vs H _ E => ∃ W ds, WOk W H ∧ RelL gg W vs ds ∧ S ds ∧ ∀ W' H', WOk W' H' → Ext W H W' H' → E C none H'
structure DXs (X : Cx) (W0 : Wd) (H0 : Hp) (sts : List Stmt) (t' : TS) (t : Rh → Prop) : Prop where
  p : PSs X sts t'
  s : ∀ W H σ ρ D, EnvOk (gm X) W0 H0 W H σ ρ → t ρ → t' D σ H
def dThen (a : DTS) (t : Rh → Prop) : Rh → Prop := fun ρ => a t (fun _ => False) (fun _ => False) (fun _ => False) ρ
def dWhen (c : DTT) : Rh → Prop := fun ρ => c ρ fun b _ => b = true
section
variable {X : Cx} {W0 : Wd} {H0 : Hp} {st : Stmt} {sts : List Stmt} {a' b' : TS} {a : DTS} {t : Rh → Prop}
theorem dxs_cons (h : DS X st a' a) (g : DXs X W0 H0 sts b' t) : DXs X W0 H0 (st :: sts) (tSeq a' b') (dThen a t) := ⟨pss_cons h.p g.p, fun W H σ ρ D I q =>
  h.s W0 H0 W H σ ρ ⟨t, fun _ => False, fun _ => False, fun _ => False⟩ { D with nx := b' D } I q ⟨fun W' H' σ' ρ' _ I' q' => g.s W' H' σ' ρ' D I' q', fun _ _ _ _ _ _ z => z.elim, fun _ _ _ _ _ _ z => z.elim, fun _ _ _ _ _ _ _ z => z.elim⟩⟩
theorem pss_false {sts : List Stmt} : PSs X sts (fun _ _ _ => False) := ⟨fun _ _ _ _ _ _ z => z.elim⟩
theorem dxs_when {c e : Expr} {tc' : TT} {tc : DTT} {C : Value} {Wx : WX} {pos pos' : Pos} (hc : DT X c tc' tc) (hcalm : X.calm = true) (tk : Takes X Wx) (he : PMk X e fun _ H Q => Q C none H) (hW : ∀ W H σ ρ, EnvOk (gm X) W0 H0 W H σ ρ → Wx C none σ H) :
    DXs X W0 H0 (.If c [.Raise (some e) none pos'] [] pos :: sts) (tSeq (tIfS tc' (tSeq (fun _ σ H => Wx C none σ H) tNext) tNext) fun _ _ _ => False) (dWhen tc) :=
  ⟨pss_cons (ps_if hc.p (pss_cons (ps_raise hcalm tk he) pss_nil) pss_nil) pss_false, fun W H σ ρ D I q =>
    hc.s W0 H0 W H σ ρ _ _ I q fun W1 H1 b ρ1 I1 u1 hb => by
      subst hb
      rw [if_pos rfl]
      exact hW W1 H1 σ ρ1 I1⟩
end
theorem ok_defR {P : Program} {w : World} {K : PySem.W.Frag} {mg : Str → Option Value} {base : Heap} {x qual : Str} {st : Stmt} {f : Addr} {fd : FuncData} {N ps : List Str} {k : Nat} {S : List D → Prop} {t : Rh → Prop} {C : Value} (F : FunD K x qual (defArgs st) (defBody st) (defScope st) [] [] f fd) (sc : FnScope N ps (defScope st)) (len : ∀ ds, S ds → ds.length = ps.length)
    (body : ∀ (cdv : Value) (A : Around) (outer : List Env) (s : Shared) (H : Hp) (E : XK) (W0 : Wd), Room k (A.deeper (envOfC qual (defScope st) s.heap.objs.size f cdv)) → (∀ W' H', WOk W' H' → Ext W0 H W' H' → E C none H') →
      Takes (cxOf (L2.CX P w) P w K mg base N qual (defScope st) f cdv A outer s H E) (fun cls d _ H => E cls d H) → ∃ t', DXs (cxOf (L2.CX P w) P w K mg base N qual (defScope st) f cdv A outer s H E) W0 H (defBody st) t' t)
    (ht : ∀ ds, S ds → t (startD N ds)) : FnOk P w K mg base (L2.CX P w) (k + 1) f fd ps (spR ⟨mg, K⟩ C S) := by
  refine F.ok sc (fun vs H Q E h => ?_) (fun cdv A outer s H vs Q E hr h => ?_)
  · obtain ⟨W, ds, wk, r, hS, _⟩ := h
    rw [r.length]; exact len ds hS
  · obtain ⟨W, ds, wk, r, hS, q⟩ := h
    obtain ⟨t', h⟩ := body cdv A outer s H E W hr q (takes_of rfl rfl rfl rfl)
    exact ⟨t', h.p, h.s W H _ _ _ (env_start wk r) (ht ds hS)⟩
structure DTb (X : Cx) (C : Value) (body : List Stmt) (tb : WX → TS) (t : (Rh → Prop) → Rh → Prop) : Prop where
  p : ∀ (W : WX) (pn : List (Addr × Obj)) (xe : Value → Shared → Prop), Takes (X.tr pn xe) W → PSs (X.tr pn xe) body (tb W)
  s : ∀ W0 H0 W H σ ρ D (Wx : WX) (Z : Rh → Prop), EnvOk (gm X) W0 H0 W H σ ρ → t Z ρ → (∀ W' H' ρ', Wle W W' → EnvOk (gm X) W0 H0 W' H' σ ρ' → Z ρ' → Wx C none σ H') → tb Wx D σ H
def dRun (S : List D → Prop) (ta : DTA) : (Rh → Prop) → Rh → Prop := fun Z ρ => ta ρ fun ds ρ1 => S ds ∧ Z ρ1
section
variable {X : Cx} {C : Value} {k : Nat} {f : Addr} {fd : FuncData} {ps : List Str} {S : List D → Prop} {x : Str} {p cp pos pos' : Pos} {e : Expr} {es : List Expr} {t' : TA} {t : DTA}
theorem s_run {gg : Gm} (hs : SA gg t' t) (tb : WX → TS) (htb : ∀ Wx D σ H, t' σ H (fun vs H1 => ∃ W ds, WOk W H1 ∧ RelL gg W vs ds ∧ S ds ∧ ∀ W' H', WOk W' H' → Ext W H1 W' H' → Wx C none σ H') → tb Wx D σ H) :
    ∀ W0 H0 W H σ ρ D (Wx : WX) (Z : Rh → Prop), EnvOk gg W0 H0 W H σ ρ → dRun S t Z ρ → (∀ W' H' ρ', Wle W W' → EnvOk gg W0 H0 W' H' σ ρ' → Z ρ' → Wx C none σ H') → tb Wx D σ H := fun W0 H0 W H σ ρ D Wx Z I q k =>
  htb Wx D σ H (hs W0 H0 W H σ ρ _ _ I q fun W1 H1 vs ds ρ1 I1 u1 R1 ⟨hS, hz⟩ => ⟨W1, ds, I1.wok, R1, hS, fun W' H' w' e' => k W' H' ρ1 (u1.le.trans e'.le) (I1.step e' w') hz⟩)
theorem dtb_expr {gg : Gm} (F : FnOk X.prog X.w X.K X.mg X.base (L2.CX X.prog X.w) k f fd ps (spR gg C S)) (hr : Room k X.A) (hg : Gl X x) (hm : X.mg x = some (.ref f)) (hk : PySem.W.keepIn X.K (.ref f) = true) (hb : Binds X.K fd ps [])
    (ha : ∀ (pn : List (Addr × Obj)) (xe : Value → Shared → Prop), DA (X.tr pn xe) (e :: es) t' t) (hdb : (x == ("__debug__" : Str)) = false := by decide) (he : starEach (e :: es) X.env = (false, eval e X.env) :: starEach es X.env := by rfl) (hpl : (backTo cp (starEach es X.env)).any (·.1) = false := by rfl)
    (hsw : swapsWith (.Call (.Name x p) (e :: es) [] cp) none pos.line X.env = pure false := by rfl) (hG : gm X = gg := by rfl) :
    DTb X C [.Expr (.Call (.Name x p) (e :: es) [] cp) pos] (fun W => tSeq (tDrop (tCallS (spR gg C S) (WE W) t')) tNext) (dRun S t) := by
  subst hG
  exact ⟨fun W pn xe tk => pss_cons (ps_expr (pe_callS (X := X.tr pn xe) F hr hg hm hk hb (fun σ => passAt tk σ) (ha pn xe).p hdb he hpl) hsw) pss_nil, s_run (ha [] X.xe).s _ fun Wx D σ H h => h⟩
end

theorem EnvOk.hide {mg : Gm} {W0 W : Wd} {H0 H : Hp} {σ : L2.St} {ρ : Rh} (I : EnvOk mg W0 H0 W H σ ρ) (i : Nat) (x : Option V) : EnvOk mg W0 H0 W H (σ.set i x) (ρ.set i none) where
  wok := I.wok
  ext := I.ext
  len := by rw [List.length_set, List.length_set]; exact I.len
  im := fun j d h => by
    rcases get_set h with ⟨_, e, _⟩ | ⟨e, h⟩
    · cases e
    · obtain ⟨v, h1, h2⟩ := I.im j d h
      exact ⟨v, by rw [List.getElem?_set_ne e]; exact h1, h2⟩
  ow := fun j xs h => by
    rcases get_set h with ⟨_, e, _⟩ | ⟨e, h⟩
    · cases e
    · obtain ⟨a, vs, h1, h2⟩ := I.ow j xs h
      exact ⟨a, vs, by rw [List.getElem?_set_ne e]; exact h1, h2⟩
  sep := fun j l xs ys a h1 h2 s1 s2 => by
    rcases get_set h1 with ⟨_, e, _⟩ | ⟨e, h1⟩
    · cases e
    rcases get_set h2 with ⟨_, e2, _⟩ | ⟨e2, h2⟩
    · cases e2
    rw [List.getElem?_set_ne e] at s1
    rw [List.getElem?_set_ne e2] at s2
    exact I.sep j l xs ys a h1 h2 s1 s2
structure DSu (X : Cx) (C : Addr) (i : Nat) (suite : List Stmt) (ts : Addr → TS) (t : DTS) : Prop where
  p : ∀ (a : Addr) (oe : Obj) (pn : List (Addr × Obj)), Zc (.ref C) none oe → (∃ vs, oe.data = .fields vs) → PSs (X.suite a ((a, oe) :: pn)) suite (ts a)
  s : ∀ a W0 H0 W H σ ρ (P : DEnds) E, EnvOk (gm X) W0 H0 W H σ ρ → σ[i]? = some (some (.ref a)) → t P.nx P.rt P.bk P.ct ρ → EndsOk (gm X) W0 H0 W P E → ts a E σ H
section
variable {X : Cx} {a C : Addr} {oe : Obj} {pn : List (Addr × Obj)}
end
end DL
namespace DL
open PySem PySem.Spec PyProof.Rows L2
section
variable {X : Cx} {a C : Addr} {oe : Obj} {pn : List (Addr × Obj)}
end
section
variable {X : Cx} {C : Addr} {i m o : Nat} {xm xo : Str} {eA eB eT : Expr} {b1 b2 b3 : Bool} {vs : List V} {mp lp ap p1 apos cpos ep : Pos}
end
section
variable {X : Cx} {C : Addr} {i m o : Nat} {xm xo x0 x1 : Str} {eA eB eT : Expr} {vs : List V} {op ap1 mp q0 q1 lp ip vp np bp cp sp ap2 : Pos} {j0 j1 : Option String}
end
open He in
def excB (K : PySem.W.Frag) (x : Str) : Bool := (Fa.exc x).ok K && (eqO (PySem.W.findIn K (.ref (ga K x)) "__getattribute__") (some (some (.builtin "BaseException.__getattribute__"))) && (eqO (PySem.W.findIn K (.ref (ga K x)) "__getattr__") (some none) &&
  (PySem.W.hasDictIn K (ga K x) && (eqO (PySem.W.findIn K (.ref (ga K x)) "__class__") (some (some (.builtin "object.__class__"))) && (eqO (PySem.W.specialIn K (.builtin "object.__class__") "__get__") (some (some (.builtin "getset_descriptor.__get__"))) &&
  (decide (PySem.W.takesIn K (.builtin "object.__class__") = some true) && decide (PySem.W.mroIn K (ga K x) (.type "object") = some true)))))))
open He in
theorem excB_ok {K : PySem.W.Frag} {x : Str} (h : excB K x = true) : ExcC K (ga K x) ∧ (Fa.exc x).ok K = true := by
  obtain ⟨c0, h⟩ := ba h
  obtain ⟨c1, h⟩ := ba h
  obtain ⟨c2, h⟩ := ba h
  obtain ⟨c3, h⟩ := ba h
  obtain ⟨c4, h⟩ := ba h
  obtain ⟨c5, h⟩ := ba h
  obtain ⟨c6, c7⟩ := ba h
  exact ⟨⟨eqO_ok c1, eqO_ok c2, (exc_ok c0).2.2.1, c3, eqO_ok c4, eqO_ok c5, of_decide_eq_true c6, of_decide_eq_true c7⟩, c0⟩
inductive Cl where
  | own (x : Str) | ty (T : String)
def Cl.val (K : PySem.W.Frag) : Cl → Value
  | .own x => .ref (He.ga K x)
  | .ty T => .type T
def Cl.v (K : PySem.W.Frag) : Cl → V
  | .own x => .ref (He.ga K x)
  | .ty T => .ty T
theorem Cl.rel {K : PySem.W.Frag} (c : Cl) {u : Value} (h : RelV (c.v K) u) : u = c.val K := by cases c <;> exact h
inductive Kf where
  | exc (x : Str)
  | is (x : Str) (c : Cl) (b : Bool)
  | any (x : Str) (cs : List Cl) (b : Bool)
  | isN (c : Cl) | anyN (cs : List Cl)
def Kf.ok (K : PySem.W.Frag) : Kf → Bool
  | .exc x => excB K x
  | .is x c b => decide (PySem.W.kitOne K (.ref (He.ga K x)) (c.val K) = some b)
  | .any x cs b => decide (PySem.W.kitAny K (.ref (He.ga K x)) (cs.map (Cl.val K)) = some b)
  | .isN c => decide (PySem.W.kitOne K (.type "NoneType") (c.val K) = some false)
  | .anyN cs => decide (PySem.W.kitAny K (.type "NoneType") (cs.map (Cl.val K)) = some false)
abbrev AlX : Type := Bool × He.AlD
def obsX (n : Nat) (fa : List He.Fa) (kf : List Kf) (fn : List He.DefD) (g : Addr → Option Obj) : AlX := (kf.all fun f => f.ok (He.frG g (He.asD g n)), He.obsDG n fa fn g)
def hookX (n : Nat) (fa : List He.Fa) (kf : List Kf) (fn : List He.DefD) : PySem.W.Hook where
  α := AlX
  obs := fun s => obsX n fa kf fn s.heap.get?
  val := fun _ => (true, He.valD fn)
  says := fun _ h => ∃ K : PySem.W.Frag, K.In h ∧ He.SaysD fa fn K ∧ (kf.all fun f => f.ok K) = true
  of := fun _ _ e => ⟨_, He.frG_in, congrArg (fun z : AlX => z.2) e, congrArg (fun z : AlX => z.1) e⟩
  keeps := fun _ _ _ ⟨K, hK, c⟩ k => ⟨K, PySem.W.Frag.In.keeps hK k, c⟩
theorem obsX_eq {n : Nat} {fa : List He.Fa} {kf : List Kf} {fn : List He.DefD} {g : Addr → Option Obj} {s : Shared} (h : ∀ a, g a = s.heap.get? a) : obsX n fa kf fn g = (hookX n fa kf fn).obs s := by
  rw [show g = s.heap.get? from funext h] <;> rfl
theorem kf_at {K : PySem.W.Frag} {kf : List Kf} (c : (kf.all fun f => f.ok K) = true) (i : Nat) {f : Kf} (h : kf[i]? = some f := by rfl) : f.ok K = true := List.all_eq_true.mp c f (List.mem_of_getElem? h)
end DL
namespace DL
open PySem PySem.Spec PyProof.Rows L2
structure ErrC (K : PySem.W.Frag) (mg : Str → Option Value) (x : Str) (C : Addr) : Prop where
  g : mg x = some (.ref C)
  q : PySem.W.excIn K C He.veBase "ValueError.__new__" = true
  k : PySem.W.keepIn K (.ref C) = true
  s : PySem.W.subIn K (.ref C) (.type "BaseException") = some true
  t : PySem.W.typeIn K (.ref C) = some (.type "type")
  e : ExcC K C
theorem errC_ok {K : PySem.W.Frag} {h : Heap} {mg : Str → Option Value} {x : Str} (X : K.In h) (G : h.Ns mainGlobals mg) (cg : (He.Fa.glo x).ok K = true) (c : (Kf.exc x).ok K = true) : ErrC K mg x (He.ga K x) := by
  obtain ⟨e, f⟩ := excB_ok c
  obtain ⟨f1, f2, f3, f4⟩ := He.exc_ok f
  exact ⟨He.glo_ok X G cg, f1, f2, f3, f4, e⟩
theorem is_ok {K : PySem.W.Frag} {x : Str} {cl : Cl} {b : Bool} (c : (Kf.is x cl b).ok K = true) : PySem.W.kitOne K (.ref (He.ga K x)) (cl.val K) = some b := of_decide_eq_true c
section
variable {X : Cx} {x : Str} {C : Addr}
theorem ErrC.pmk {m : Str} {j} {p p2 pos : Pos} (E : ErrC X.K X.mg x C) (hg : Gl X x) (hdb : (x == ("__debug__" : Str)) = false := by decide) : PMk X (.Call (.Name x p) [.Constant (.str m) j p2] [] pos) (fun _ H Q => Q (.ref C) none H) :=
  pmk_own PySem.F.excBase_ValueError E.q E.g E.k (raises_own E.s E.t) hg hdb
end
end DL
namespace DL
open PySem PySem.Spec PyProof.Rows L2
end DL
namespace DL
open PySem PySem.Spec PyProof.Rows L2
theorem RelL.erase {mg : Gm} {W : Wd} : ∀ {vs : List V} {ds : List D} (k : Nat), RelL mg W vs ds → RelL mg W (vs.eraseIdx k) (ds.eraseIdx k)
  | _, _, _, .nil => .nil
  | _, _, 0, .cons _ t => t
  | _, _, k + 1, .cons h t => .cons h (RelL.erase k t)
theorem RelL.nth {mg : Gm} {W : Wd} : ∀ {vs : List V} {ds : List D} {k : Nat} {d : D}, RelL mg W vs ds → ds[k]? = some d → ∃ v, vs[k]? = some v ∧ Rel mg W v d
  | _, _, _, _, .nil, h => by cases h
  | _, _, 0, _, .cons a _, h => by cases h; exact ⟨_, rfl, a⟩
  | _, _, k + 1, _, .cons _ t, h => RelL.nth (k := k) t h
section
variable {X : Cx} {mg : Gm} {e : Expr} {te' : TE} {te : DTE} {pos : Pos} {apos cpos : Pos}
section
variable {j : Nat} {x : Str} {p1 : Pos}
end
end
end DL
namespace DL
open PySem PySem.Spec PyProof.Rows L2
section
variable {prog : Program} {w : World} {A : Around} {E : Value → Shared → Prop} {s : Shared}
end
section
variable {X : Cx} {mg : Gm} {W W' : Wd} {H H' : Hp} {v x y : V}
end
end DL
namespace DL
open PySem PySem.Spec PyProof.Rows L2
section
variable {prog : Program} {w : World} {A : Around} {E : Value → Shared → Prop} {s : Shared}
end
section
variable {X : Cx} {mg : Gm} {W W' : Wd} {H H' : Hp} {v x y : V}
end
end DL
namespace DL
open PySem PySem.Spec PyProof.Rows L2
theorem exK_ok {P : Program} {w : World} {H : Hp} {h : Heap} {a : Addr} {cls : Value} {oe : Obj} {vs : Array Value} (e : h.get? a = some oe) (z : Zc cls none oe) (d : oe.data = .fields vs) : ObjOk P w H h a (ExK cls a) :=
  ⟨⟨oe, e, z, vs, d⟩, ⟨oe, e⟩, fun _ _ ⟨o, q, r⟩ k => ⟨o, k o q, r⟩⟩
section
variable {X : Cx} {pins : List (Addr × Obj)} {σ : L2.St} {H : Hp} {s : Shared}
theorem track {a : Addr} {o : HO} (I : Inv X pins σ H s) (h0 : X.s_0.heap.get? a = none) (hn : H a = none) (np : ∀ p ∈ X.pn ++ pins, p.1 ≠ a) (nL : X.env.locals ≠ a) (nC : ∀ x c, X.env.cells.lookup x = some c → c ≠ a) (new : ObjOk X.prog X.w (upd H a o) s.heap a o) : Inv X pins σ (upd H a o) s where
  ok := I.ok
  os := I.os
  bare := I.bare
  base := ⟨I.base.keep, I.base.slot, fun b u q n hb => by rw [upd_ne (fun z => by rw [z, h0] at q; cases q)]; exact I.base.free b u q n hb, I.base.there,
    fun b xs q => by have z := I.base.tups b xs q; rw [upd_ne (ne_of_none z hn)]; exact z,
    fun b u v q => by have z := I.base.frzs b u v q; rw [upd_ne (ne_of_none z hn)]; exact z,
    fun b ps q => by obtain ⟨m, z⟩ := I.base.tbls b ps q; exact ⟨m, by rw [upd_ne (ne_of_none z hn)]; exact z⟩⟩
  loc := I.loc
  cell := I.cell
  free := by rw [upd_ne nL]; exact I.free
  freeC := fun x c e => by rw [upd_ne (nC x c e)]; exact I.freeC x c e
  pin := fun p hp => by
    obtain ⟨q1, q2, q3⟩ := I.pin p hp
    exact ⟨q1, by rw [upd_ne (np p hp)]; exact q2, q3⟩
  hok := I.hok.laidN (fun _ _ z => z) hn new
  len := I.len
theorem unsuiteP {a : Addr} {q : Addr × Obj} {pn' : List (Addr × Obj)} (I : Inv (X.suite a (q :: (X.pn ++ pins))) pn' σ H s) (ok : X.Ok) : Inv X (q :: pins) σ H s :=
  ⟨ok, I.os, I.bare, I.base, I.loc, I.cell, I.free, I.freeC, fun p hp => I.pin p (List.mem_append_left _ (by
    rcases List.mem_append.mp hp with h | h
    · exact List.mem_cons_of_mem _ (List.mem_append_left _ h)
    · rcases List.mem_cons.mp h with rfl | h
      · exact List.mem_cons_self
      · exact List.mem_cons_of_mem _ (List.mem_append_right _ h))), I.hok, I.len⟩
theorem unpin {q : Addr × Obj} (I : Inv X (q :: pins) σ H s) : Inv X pins σ H s :=
  ⟨I.ok, I.os, I.bare, I.base, I.loc, I.cell, I.free, I.freeC, fun p hp => I.pin p (by
    rcases List.mem_append.mp hp with h | h
    · exact List.mem_append_left _ h
    · exact List.mem_append_right _ (List.mem_cons_of_mem _ h)), I.hok, I.len⟩
end
def wKp (K : PySem.W.Frag) (c : Value) (i : Nat) (ts : Addr → Value → TS) (D : Ends) : WX := fun cls d σ H =>
  PySem.W.exmOne K cls c = some true ∧ d = none ∧ ∀ a, H a = none → ts a cls { nx := fun σ' H' => H' a = none → D.nx (σ'.set i none) (upd H' a (ExK cls a)), rt := fun _ _ => False, bk := fun _ _ => False, ct := fun _ _ => False } (σ.set i (some (.ref a))) H
section
variable {X : Cx} {x n : Str} {c : Value} {i : Nat} {body suite : List Stmt} {b₀ : Stmt} {np pos pos' : Pos} {tb : WX → TS} {ts : Addr → Value → TS}
theorem ps_try_kp (hs : X.stack = X.env :: X.outer) (hf : X.env.frame = some X.env.locals) (hex : X.ex = []) (hN : X.N.Nodup) (hi : X.N[i]? = some n) (hln : X.env.kindOf n = some .local) (hc : Names X x c)
    (hb : ∀ (W : WX) (pn : List (Addr × Obj)) (xe : Value → Shared → Prop), Takes (X.tr pn xe) W → PSs (X.tr pn xe) body (tb W))
    (hsu : ∀ (a : Addr) (oe : Obj) (cls : Value) (pn : List (Addr × Obj)), Zc cls none oe → (∃ vs, oe.data = .fields vs) → PSs (X.suite a ((a, oe) :: pn)) (b₀ :: suite) (ts a cls)) :
    PS X (.Try body [.ExceptHandler (some (.Name x np)) (some n) (b₀ :: suite) pos'] [] [] pos) (fun D σ H => tb (wKp X.K c i ts D) D σ H) := by
  refine ⟨fun pins s σ H D I h => ?_⟩
  have ok := I.ok
  have hfr : X.A.frames = some (X.env :: X.outer) := by rw [ok.frames, hs]
  have hloc : Loc X.env.scope n := .inl hln
  refine wpAny_Try_except ?_
  refine wpAny_mono ((hb (wKp X.K c i ts D) (X.pn ++ pins) (fun e s₁ => wpAny (model X.prog X.w) X.A (noteFrame e X.env) (fun _ s₂ => wpAny (model X.prog X.w) X.A (setFlight e none) (fun _ s₃ =>
    wpAny (model X.prog X.w) X.A (handleBy e X.env [.ExceptHandler (some (.Name x np)) (some n) (b₀ :: suite) pos']) (SP X pins D) X.xe s₃) X.xe s₂) X.xe s₁) (fun u s' xx => ?_)).run [] s σ H D (I.toTry _) h) (fun f s1 hsp => ?_) (fun e s1 he => he)
  · obtain ⟨a, B, sI, pins', σ', H', cls, d, rfl, J', nb, up, sky, na, os, ag, hb1, rfl, hyes⟩ := xx
    have J : Inv X pins σ' H' sI := J'.ofTry ok
    have sky' : Sky B (X.env :: X.outer) a (Zc cls none) X.env.locals s'.heap := by rw [← hs]; exact sky
    show wpAny (model X.prog X.w) X.A (noteFrame (.ref a) X.env) _ _ _
    refine Sky.land Zc.steady hfr hf sky' fun h3 fl3 up3 => ?_
    have J3 : Inv X pins σ' H' { s' with heap := h3 } := J.landed nb fl3.1 (up.trans up3) os ag
    obtain ⟨oe3, vs3, he3, hz3, hd3⟩ := fl3.there
    have notFr : ∀ {h : Heap} {o : Obj} {vs : Array Value}, h.FunFrames B (X.env :: X.outer) → h.get? a = some o → o.data = .fields vs → a ∉ frs (X.env :: X.outer) := fun {h o vs} ff e dd hm => by
      obtain ⟨_, o', e', hnf⟩ := ff.mem hm
      rw [e] at e'; cases e'
      exact hnf _ dd
    have nfr := notFr fl3.2.2.1 he3 hd3
    have nL : a ≠ X.env.locals := fun z => nfr (List.mem_filterMap.mpr ⟨X.env, List.mem_cons_self, by rw [hf, z]⟩)
    have nF : a ∉ X.fs := fun hm => by
      obtain ⟨e, he, q⟩ := List.mem_filterMap.mp hm
      exact nfr (List.mem_filterMap.mpr ⟨e, List.mem_cons_of_mem _ he, q⟩)
    have nI : sI.heap.get? a = none := by
      cases e : sI.heap.get? a with
      | none => rfl
      | some o =>
        have z := nb a o e (by rw [show (X.tr (X.pn ++ pins) _).stack = X.env :: X.outer from hs]; exact nfr)
        rw [fl3.2.1] at z
        cases z
    have n0 : X.s_0.heap.get? a = none := by
      cases e : X.s_0.heap.get? a with
      | none => rfl
      | some o =>
        obtain ⟨o', z⟩ := J.base.there a o e (by rw [hex]; exact fun z => nomatch z)
        rw [nI] at z
        cases z
    have nP : ∀ p ∈ X.pn ++ pins, p.1 ≠ a := fun p hp z => by
      have q := (J.pin p hp).1
      rw [z, nI] at q
      cases q
    have S3 := J3.suite he3 hd3 na nL nF
    refine wpAny_handleBy_cons (codeAny_handlers_test ?_) (by intro q; cases q)
    have LT : PySem.W.Looks (model X.prog X.w) h3 (typeOf (.ref a)) cls := fun A Q E s k q => wpAny_typeOf_ref (k _ _ he3) (by rw [hz3.1]; exact q)
    have LM := PySem.W.exm_one (M := model X.prog X.w) (J3.kIn) LT hb1
    have test : ∀ {Q : Value → Shared → Prop} {E : Value → Shared → Prop}, Q c { s' with heap := h3 } → wpAny (model X.prog X.w) (X.A.mark (some (.ref a))) (eval (.Name x np) X.env) Q E { s' with heap := h3 } := fun {Q E} q => by
      obtain ⟨hg, hdbg, hm | ⟨hm, hv, hnn⟩⟩ := hc
      · exact ld_glob (X := X.suite a ((a, oe3) :: (X.pn ++ pins))) S3 hg hm q hdbg
      · exact ld_blt (X := X.suite a ((a, oe3) :: (X.pn ++ pins))) S3 hg hm hv q hnn hdbg
    refine test (LM.here ?_)
    refine codeAny_handlers_suite_as ?_
    refine PySem.HandSPX.lands_againZ fl3 fun h4 fl4 up4 => ?_
    have J4 : Inv X pins σ' H' { s' with heap := h4 } := J.landed nb fl4.1 ((up.trans up3).trans up4) os ag
    obtain ⟨oe4, vs4, he4, hz4, hd4⟩ := fl4.there
    have S4 := J4.suite he4 hd4 na nL nF
    refine store_ok (X := X.suite a ((a, oe4) :: (X.pn ++ pins))) (v := .ref a) S4 hN hi hloc rfl (fun s5 S5 => ?_) (.inr hln)
    refine wpAny_mono ((hsu a oe4 cls (X.pn ++ pins) hz4 ⟨_, hd4⟩).run [] s5 _ H' _ S5 (hyes a na)) (fun f s6 hsp => ?_) (fun _ _ z => False.elim z)
    cases f with
    | next =>
      obtain ⟨σ6, H6, S6, q6⟩ := hsp
      refine gone_ok (unsuiteP S6 ok) hN hi hln fun s7 J7 => ?_
      obtain ⟨p1, p2, _, _, p5⟩ := J7.pin (a, oe4) (List.mem_append_right _ List.mem_cons_self)
      exact ⟨_, _, track (unpin J7) n0 p2 nP (Ne.symm nL) (fun y cc e z => by
        subst z
        obtain ⟨v, o, ho, hdt⟩ := J7.cell y _ e
        rw [p1] at ho
        cases ho
        exact p5 _ hdt) (exK_ok p1 hz4 hd4), q6 p2⟩
    | brk => obtain ⟨_, _, _, z⟩ := hsp; exact z.elim
    | cont => obtain ⟨_, _, _, z⟩ := hsp; exact z.elim
    | ret u => obtain ⟨_, _, _, _, _, z⟩ := hsp; exact z.elim
  · cases f with
    | next =>
      obtain ⟨σ', H', J', q⟩ := hsp
      exact wpAny_execs_nil ⟨σ', H', J'.ofTry ok, q⟩
    | brk =>
      obtain ⟨σ', H', J', q⟩ := hsp
      exact ⟨σ', H', J'.ofTry ok, q⟩
    | cont =>
      obtain ⟨σ', H', J', q⟩ := hsp
      exact ⟨σ', H', J'.ofTry ok, q⟩
    | ret u =>
      obtain ⟨v, σ', H', J', r, q⟩ := hsp
      exact ⟨v, σ', H', J'.ofTry ok, r, q⟩
end

section
variable {X : Cx} {C : Addr}
theorem exK_at {K : PySem.W.Frag} {pins : List (Addr × Obj)} {σ : L2.St} {H : Hp} {s : Shared} {a : Addr} (I : Inv X pins σ H s) (h : H a = some (ExK (.ref C) a)) : ∃ oe, PySem.W.InstAt s.heap a oe C none := by
  obtain ⟨⟨oe, ho, hz, fs, hv⟩, _⟩ := I.hok a _ h
  refine ⟨oe, ?_⟩
  obtain ⟨oc, od, dt, sl⟩ := oe
  obtain ⟨h1, h2⟩ := hz
  have e1 : oc = .ref C := h1
  have e2 : od = none := h2
  have e3 : dt = .fields fs := hv
  rw [e1, e2, e3] at ho ⊢
  exact ⟨ho, rfl, rfl, trivial⟩
def rKI (K : PySem.W.Frag) (C : Addr) : List V → Hp → VK → Prop := fun xs H Q => ∃ (a : Addr) (c : V) (cv : Value) (b : Bool), xs = [.ref a, c] ∧ H a = some (ExK (.ref C) a) ∧ (∀ u, RelV c u → u = cv) ∧ PySem.W.kitOne K (.ref C) cv = some b ∧ Q (.bl b) H
theorem call_kI (Ec : ExcC X.K C) : CallR X (.builtin "isinstance") (rKI X.K C) := by
  intro pins s σ H xs us Q I r h
  obtain ⟨a, c, cv, b, rfl, ha, hcv, e, q⟩ := h
  cases r with
  | cons rx rr =>
    cases rr with
    | cons rt rr =>
      cases rr
      cases rx
      have ec := hcv _ rt
      subst ec
      obtain ⟨oe, J⟩ := exK_at (K := X.K) I ha
      exact PySem.W.kia_one (PySem.W.handS_kitx_exc Ec.hg Ec.hk Ec.hs Ec.hd Ec.ha Ec.hn Ec.ht Ec.hm) I.kIn J e (fun z => nomatch z) fun tk => ⟨.bl b, H, I.kept (t' := tk) fun _ _ z => z, rfl, q⟩
end

inductive Grow : Hp → Hp → Prop
  | refl (H : Hp) : Grow H H
  | step {H H' : Hp} {q : Addr} {o : HO} : Grow H H' → H' q = none → Grow H (upd H' q o)
theorem Grow.trans {H H1 H2 : Hp} (a : Grow H H1) (b : Grow H1 H2) : Grow H H2 := by
  induction b with
  | refl => exact a
  | step g h ih => exact .step ih h
theorem Grow.keep {H H1 : Hp} (g : Grow H H1) {a : Addr} {o : HO} (h : H a = some o) : H1 a = some o := by
  induction g with
  | refl => exact h
  | step g q ih => rw [upd_ne (ne_of_none ih q)]; exact ih
theorem Grow.env {mg : Gm} {W0 W : Wd} {H0 H H1 : Hp} {σ : L2.St} {ρ : Rh} (g : Grow H H1) (I : EnvOk mg W0 H0 W H σ ρ) : EnvOk mg W0 H0 W H1 σ ρ := by
  induction g with
  | refl => exact I
  | step g q ih => exact ih.step (new_ext ih.wok q _) (ih.wok.new q _)
def Kp (C : Addr) (j : Nat) (Φ : L2.St → Prop) (σ : L2.St) (H : Hp) : Prop := ∃ a, σ[j]? = some (some (.ref a)) ∧ H a = some (ExK (.ref C) a) ∧ Φ σ
structure KE (X : Cx) (C : Addr) (j : Nat) (Φ : L2.St → Prop) (e : Expr) (t : TE) (v : V) : Prop where
  p : PE X e t
  s : ∀ σ H Q, Kp C j Φ σ H → (∀ H1, Grow H H1 → Q v H1) → t σ H Q
structure KT (X : Cx) (C : Addr) (j : Nat) (Φ : L2.St → Prop) (e : Expr) (t : TT) (b : Bool) : Prop where
  p : PT X e t
  s : ∀ σ H Q, Kp C j Φ σ H → (∀ H1, Grow H H1 → Q b H1) → t σ H Q
section
variable {X : Cx} {C : Addr} {j : Nat} {Φ : L2.St → Prop}
end
structure KS (X : Cx) (C : Addr) (j : Nat) (Φ : L2.St → Prop) (sts : List Stmt) (t : TS) (d : D) : Prop where
  p : PSs X sts t
  s : ∀ W0 H0 W H σ ρ (P : DEnds) E, EnvOk (gm X) W0 H0 W H σ ρ → Kp C j Φ σ H → P.rt (.im d) → EndsOk (gm X) W0 H0 W P E → t E σ H
section
variable {X : Cx} {C : Addr} {j : Nat} {Φ : L2.St → Prop}
end
end DL
namespace DL
open PySem PySem.Spec PyProof.Rows L2
structure ZAt (h : Heap) (z TI TO i1 i2 l1 l2 L : Addr) (xs ys : Array Value) (i : Nat) : Prop where
  ti : IsPair h TI (.ref i1) (.ref i2)
  p1 : h.IsListIter i1 l1 i
  p2 : h.IsListIter i2 l2 i
  q1 : h.IsList l1 xs
  q2 : h.IsList l2 ys
  zz : (IsZip h z TI TO .none ∧ ∃ a b, IsPair h TO a b) ∨ ∃ T f oT, IsZipHeld h z TI TO T f ∧ h.get? T = some oT ∧ T ≠ z ∧ T ≠ i1 ∧ T ≠ i2 ∧ T ≠ L
theorem ZAt.over {h h' : Heap} {z TI TO i1 i2 l1 l2 L : Addr} {xs ys : Array Value} {i : Nat} (x : ZAt h z TI TO i1 i2 l1 l2 L xs ys i) (nL : ∀ b, b = z ∨ b = TI ∨ b = TO ∨ b = i1 ∨ b = i2 ∨ b = l1 ∨ b = l2 → b ≠ L) (k : ∀ b o, b ≠ L → h.get? b = some o → h'.get? b = some o) : ZAt h' z TI TO i1 i2 l1 l2 L xs ys i where
  ti := k _ _ (nL _ (by simp)) x.ti
  p1 := x.p1.at fun o e => k _ o (nL _ (by simp)) e
  p2 := x.p2.at fun o e => k _ o (nL _ (by simp)) e
  q1 := x.q1.at fun o e => k _ o (nL _ (by simp)) e
  q2 := x.q2.at fun o e => k _ o (nL _ (by simp)) e
  zz := by
    rcases x.zz with ⟨a, b, c, d⟩ | ⟨T, f, oT, a, b, c, d, e, g⟩
    · exact .inl ⟨k _ _ (nL _ (by simp)) a, b, c, k _ _ (nL _ (by simp)) d⟩
    · exact .inr ⟨T, f, oT, k _ _ (nL _ (by simp)) a, k _ _ g b, c, d, e, g⟩
section
variable {prog : Program} {w : World} {A : Around} {E : Value → Shared → Prop} {s : Shared} {z TI TO i1 i2 l1 l2 L : Addr} {xs ys : Array Value}
structure ZGot (xs ys : Array Value) (lo : Addr) (h : Heap) (as : List Addr) : Prop where
  rise : as.Pairwise (· < ·)
  above : ∀ a ∈ as, lo < a
  pairs : ∀ (j : Nat) (a : Addr), as[j]? = some a → ∃ x y, xs[j]? = some x ∧ ys[j]? = some y ∧ h.get? a = some { cls := .type "tuple", data := .seq #[x, y] }
theorem ZGot.lt {lo : Addr} {h : Heap} {as : List Addr} (g : ZGot xs ys lo h as) {a : Addr} (ha : a ∈ as) : a < h.objs.size := by
  obtain ⟨j, hj⟩ := List.mem_iff_getElem?.mp ha
  obtain ⟨_, _, _, _, e⟩ := g.pairs j a hj
  exact Heap.lt_size e
end
inductive GrowT : Hp → List Addr → List (V × V) → Hp → Prop
  | nil (H : Hp) : GrowT H [] [] H
  | cons {H H' : Hp} {t : Addr} {ts : List Addr} {x y : V} {ps : List (V × V)} : H t = none → GrowT (upd H t (.tup [x, y])) ts ps H' → GrowT H (t :: ts) ((x, y) :: ps) H'
section
variable {mg : Gm}
end
end DL
namespace DL
open PySem PySem.Spec PyProof.Rows L2
section
variable {prog : Program} {w : World} {A : Around} {E : Value → Shared → Prop} {s : Shared} {z TI TO i1 i2 : Addr} {fp1 fp2 : List Addr} {n1 n2 i : Nat} {P1 P2 : Nat → Value → Prop} {St1 St2 : Nat → Heap → Prop}
abbrev IsZipF (h : Heap) (z TI TO : Addr) (v : Value) (f : Bool) : Prop := h.get? z = some { cls := .type "zip", dict := none, data := .fields #[v, .bool f, .bool false, .ref TI, .ref TO], slots := #[] }
structure ZStd (h : Heap) (z TI TO i1 i2 : Addr) (St1 St2 : Nat → Heap → Prop) (i : Nat) : Prop where
  ti : IsTupOf2 h TI (.ref i1) (.ref i2)
  s1 : St1 i h
  s2 : St2 i h
  to : ∃ a b, IsTupOf2 h TO a b
  zz : ∃ v f, IsZipF h z TI TO v f ∧ (v = .none ∨ ∃ T : Addr, v = rawInt T)
end
section
variable {mg : Gm} {W : Wd}
end
end DL
namespace DL
open PySem PySem.Spec PyProof.Rows L2
def dIdx (td te : DTE) : DTE := fun ρ P => td ρ fun r1 ρ1 => match r1.d with
  | .lst xs => te ρ1 fun r2 ρ2 => match r2.d with
    | .int z => ∃ (l : List Int) (j : Nat), xs = l.map D.int ∧ l[j]? = some z ∧ (∀ m, m < j → l[m]? ≠ some z) ∧ P (.im (.int (j : Nat))) ρ2
    | _ => False
  | _ => False
theorem se_idx {mg : Gm} {K : PySem.W.Frag} {to te' : TE} {td te : DTE} (ho : SE mg to td) (ha : SE mg te' te) : SE mg (tBM K "list" (rIndex K) to (tCons te' tNil)) (dIdx td te) := fun W0 H0 W H σ ρ P Q I q k =>
  ho W0 H0 W H σ ρ _ _ I q fun W1 H1 x r1 ρ1 I1 u1 R1 h1 => by
    split at h1
    · rename_i xs ed
      have a := R1.relH I1
      rw [ed] at a
      obtain ⟨p, vs, rfl, h0, n0, rr⟩ := a.lst I1.wok
      refine ⟨.inl ⟨rfl, _, SqL.of h0⟩, ha W0 H0 W1 H1 σ ρ1 _ _ I1 h1 fun W2 H2 y r2 ρ2 I2 u2 R2 h2 => ?_⟩
      split at h2
      · rename_i z ez
        obtain ⟨l, j, rfl, hj, hm, hp⟩ := h2
        have b := R2.relH I2
        rw [ez] at b
        have a2 := (R1.relH I1).up u2.toUp
        rw [ed] at a2
        obtain ⟨p2, vs2, e2, h3, n3, rr3⟩ := a2.lst I2.wok
        cases e2
        have ev := RelL.ints rr3
        subst ev
        have fl : (l.map V.int).all flatV = true := List.all_eq_true.mpr fun v hv => by
          obtain ⟨i, _, rfl⟩ := List.mem_map.mp hv
          rfl
        refine ⟨p, l.map V.int, .int z, j, .int z, rfl, by rw [b.int], SqL.of h3, rfl, fl, by rw [List.getElem?_map, hj]; rfl, by simp [eqV], fun m z' hlt hz' => ?_, k W2 H2 _ (.im _) ρ2 I2 (u1.trans u2) (Rel.int _) hp⟩
        rw [List.getElem?_map] at hz'
        cases e : l[m]? with
        | none => rw [e] at hz'; cases hz'
        | some i =>
          rw [e] at hz'
          cases hz'
          have ne : i ≠ z := fun q => hm m hlt (by rw [e, q])
          simp [eqV, ne]
      · exact h2.elim
    · exact h1.elim
section
variable {X : Cx} {o e : Expr} {to te' : TE} {td te : DTE} {apos cpos : Pos}
theorem de_idx (ho : DE X o to td) (ha : DE X e te' te) {K : PySem.W.Frag} (hK : X.K = K := by rfl)
    (hbase : attributeBase o "index" X.env (eval o X.env) = eval o X.env := by rfl)
    (hfew : (((backTo cpos (starEach [e] X.env)).all fun x => !x.1) && ((backToKw cpos (keywordEach [] X.env)).all fun x => x.1.isSome) && decide (([e].length + ([] : List Keyword).length + if ([] : List Keyword).isEmpty = true then 0 else 1) < 30)) = true := by rfl)
    (hline : (apos.endLine == cpos.line) = true := by rfl) (hs : starEach [e] X.env = (false, eval e X.env) :: starEach [] X.env := by rfl) (hplain : (backTo cpos (starEach [] X.env)).any (·.1) = false := by rfl) :
    DE X (.Call (.Attribute o "index" apos) [e] [] cpos) (tBM K "list" (rIndex K) to (tCons te' tNil)) (dIdx td te) := by
  subst hK
  exact ⟨pe_bm PySem.F.plainAttrs_list PySem.F.slot_list_index PySem.F.type_list_index mt_index ho.p (pa_cons ha.p pa_nil hs) hbase hfew hline hs hplain, se_idx ho.s ha.s⟩
end
end DL
namespace DL
open PySem PySem.Spec PyProof.Rows L2
section
variable {X : Cx} {mg : Gm} {e : Expr} {te' : TE} {te : DTE} {pos : Pos} {apos cpos bpos dpos : Pos}
end
end DL
namespace DL
open PySem PySem.Spec PyProof.Rows L2
mutual
def evenD : D → Bool
  | .tup xs => evenL xs
  | .lst _ => false
  | .dic _ => false
  | .obj _ _ => false
  | .scr _ => false
  | .dlk _ => false
  | .dlt _ _ => false
  | .exc _ => false
  | .purse => false
  | _ => true
def evenL : List D → Bool
  | [] => true
  | x :: xs => evenD x && evenL xs
end
section
variable {mg : Gm} {W W2 : Wd}
mutual
theorem Rel.even (h : ∀ a vs, W.F a = some (.tup vs) → W2.F a = some (.tup vs)) : ∀ {v : V} {d : D}, Rel mg W v d → evenD d = true → Rel mg W2 v d
  | _, _, .non, _ => .non
  | _, _, .bl b, _ => .bl b
  | _, _, .int i, _ => .int i
  | _, _, .str z, _ => .str z
  | _, _, .tup e r, c => .tup (h _ _ e) (RelL.even h r c)
  | _, _, .lst _ _, c => absurd c (by show ¬ (false = true); exact Bool.false_ne_true)
  | _, _, .dic _ _, c => absurd c (by show ¬ (false = true); exact Bool.false_ne_true)
  | _, _, .obj _ _ _, c => absurd c (by show ¬ (false = true); exact Bool.false_ne_true)
  | _, _, .purse _, c => absurd c (by show ¬ (false = true); exact Bool.false_ne_true)
  | _, _, .scr _ _, c => absurd c (by show ¬ (false = true); exact Bool.false_ne_true)
  | _, _, .dlk _ _, c => absurd c (by show ¬ (false = true); exact Bool.false_ne_true)
  | _, _, .dlt _ _ _, c => absurd c (by show ¬ (false = true); exact Bool.false_ne_true)
  | _, _, .exc _ _, c => absurd c (by show ¬ (false = true); exact Bool.false_ne_true)
theorem RelL.even (h : ∀ a vs, W.F a = some (.tup vs) → W2.F a = some (.tup vs)) : ∀ {vs : List V} {ds : List D}, RelL mg W vs ds → evenL ds = true → RelL mg W2 vs ds
  | _, _, .nil, _ => .nil
  | _, _, .cons (d := d) (ds := ds) r t, c => by
    have c2 : (evenD d && evenL ds) = true := c
    rw [Bool.and_eq_true] at c2
    exact .cons (Rel.even h r c2.1) (RelL.even h t c2.2)
end
end
theorem set_same {α : Type} {l : List α} {i : Nat} {y : α} (h : l[i]? = some y) : l.set i y = l := by
  apply List.ext_getElem?
  intro k
  by_cases e : i = k
  · subst e
    rw [List.getElem?_set_self (List.getElem?_eq_some_iff.mp h).1, h]
  · rw [List.getElem?_set_ne e]

inductive RelF (mg : Gm) (W : Wd) (g : Str) (l : Addr) (xs : List D) : List (Str × V) → List (Str × D) → Prop
  | nil : RelF mg W g l xs [] []
  | own {kvs : List (Str × V)} {fs : List (Str × D)} : RelF mg W g l xs kvs fs → RelF mg W g l xs ((g, .ref l) :: kvs) ((g, .lst xs) :: fs)
  | cons {k : Str} {v : V} {d : D} {kvs : List (Str × V)} {fs : List (Str × D)} : k ≠ g → Rel mg W v d → RelF mg W g l xs kvs fs → RelF mg W g l xs ((k, v) :: kvs) ((k, d) :: fs)
def setG (g : Str) (ys : List D) (fs : List (Str × D)) : List (Str × D) := fs.map fun p => if p.1 = g then (p.1, .lst ys) else p
section
variable {mg : Gm} {W W2 : Wd} {g : Str} {l : Addr} {xs : List D} {kvs : List (Str × V)} {fs : List (Str × D)}
theorem RelF.mono (h : Wle W W2) (r : RelF mg W g l xs kvs fs) : RelF mg W2 g l xs kvs fs := by
  induction r with
  | nil => exact .nil
  | own _ ih => exact .own ih
  | cons n a _ ih => exact .cons n (a.mono h) ih
theorem RelF.relA {us : List V} (h : Wle W W2) (hl : W2.F l = some (.lst us)) (e : RelL mg W2 us xs) (r : RelF mg W g l xs kvs fs) : RelA mg W2 kvs fs := by
  induction r with
  | nil => exact .nil
  | own _ ih => exact .cons (.lst hl e) ih
  | cons n a _ ih => exact .cons (a.mono h) ih
theorem RelF.len (r : RelF mg W g l xs kvs fs) : kvs.length = fs.length := by
  induction r with
  | nil => rfl
  | own _ ih => rw [List.length_cons, List.length_cons, ih]
  | cons _ _ _ ih => rw [List.length_cons, List.length_cons, ih]
theorem RelF.put {f : Str} {v : V} {d : D} (n : f ≠ g) (h : Rel mg W v d) (r : RelF mg W g l xs kvs fs) : RelF mg W g l xs (putF f v kvs) (putFD f d fs) := by
  induction r with
  | nil => exact .cons n h .nil
  | own _ ih =>
    unfold putF putFD
    rw [if_neg (Ne.symm n), if_neg (Ne.symm n)]
    exact .own ih
  | @cons k _ _ _ _ m a t ih =>
    unfold putF putFD
    by_cases e : k = f
    · rw [if_pos e, if_pos e]; exact .cons m h t
    · rw [if_neg e, if_neg e]; exact .cons m a ih
theorem RelF.setG {ys : List D} (r : RelF mg W g l xs kvs fs) : RelF mg W g l ys kvs (setG g ys fs) := by
  induction r with
  | nil => exact .nil
  | own _ ih =>
    show RelF mg W g l ys _ ((if g = g then (g, D.lst ys) else (g, D.lst xs)) :: DL.setG g ys _)
    rw [if_pos rfl]; exact .own ih
  | @cons k v d kvs fs m a t ih =>
    show RelF mg W g l ys _ ((if k = g then (k, D.lst ys) else (k, d)) :: DL.setG g ys _)
    rw [if_neg m]; exact .cons m a ih
theorem RelF.look {d : D} (r : RelF mg W g l xs kvs fs) (h : fs.lookup g = some d) : d = .lst xs ∧ kvs.lookup g = some (.ref l) := by
  induction r with
  | nil => cases h
  | own _ ih =>
    rw [List.lookup_cons, beq_self_eq_true] at h ⊢
    cases h
    exact ⟨rfl, rfl⟩
  | @cons k _ _ _ _ m a t ih =>
    have e : (g == k) = false := beq_eq_false_iff_ne.mpr (Ne.symm m)
    rw [List.lookup_cons, e] at h ⊢
    exact ih h
theorem RelF.lookN {f : Str} (r : RelF mg W g l xs kvs fs) (h : fs.lookup f = none) : kvs.lookup f = none := by
  induction r with
  | nil => rfl
  | own _ ih =>
    rw [List.lookup_cons] at h ⊢
    cases e : (f == g) with
    | true => rw [e] at h; cases h
    | false => rw [e] at h; exact ih h
  | @cons k _ _ _ _ m a t ih =>
    rw [List.lookup_cons] at h ⊢
    cases e : (f == k) with
    | true => rw [e] at h; cases h
    | false => rw [e] at h; exact ih h
end

structure ObA (mg : Gm) (W : Wd) (H : Hp) (x l : Addr) (c g : Str) (fs : List (Str × D)) (C dx : Addr) (kvs : List (Str × V)) (us : List V) (xs : List D) : Prop where
  hx : H x = some (.ins C dx kvs)
  hl : H l = some (.lst us)
  fx : W.F x = none
  fl : W.F l = none
  px : NotP W x
  pl : NotP W l
  rel : RelF mg W g l xs kvs fs
  els : RelL mg W us xs
  cls : mg.mg c = some (.ref C)
def ObAt (mg : Gm) (W : Wd) (H : Hp) (x l : Addr) (c g : Str) (fs : List (Str × D)) : Prop := ∃ C dx kvs us xs, ObA mg W H x l c g fs C dx kvs us xs
section
variable {mg : Gm} {W : Wd} {H : Hp} {x l : Addr} {c g : Str} {fs : List (Str × D)} {C dx : Addr} {kvs : List (Str × V)} {us : List V} {xs : List D}
theorem ObA.ne (o : ObA mg W H x l c g fs C dx kvs us xs) : x ≠ l := fun e => by
  have h := o.hx
  rw [e, o.hl] at h; cases h
end
structure NOk (mg : Gm) (W0 : Wd) (H0 : Hp) (W : Wd) (H : Hp) (σ : L2.St) (ρ : Rh) (j : Nat) (x l : Addr) (c g : Str) (fs : List (Str × D)) : Prop where
  env : EnvOk mg W0 H0 W H σ ρ
  rj : ρ[j]? = some none
  sj : σ[j]? = some (some (.ref x))
  ob : ObAt mg W H x l c g fs
  h0x : H0 x = none
  h0l : H0 l = none
  nal : ∀ (i : Nat) (ys : List D), ρ[i]? = some (some (Sl.ow ys)) → σ[i]? ≠ some (some (V.ref l))
def fzj (c : Str) (fs : List (Str × D)) (j : Nat) (ρ : Rh) : Rh := ρ.set j (some (.im (.obj c fs)))
section
variable {mg : Gm} {W0 W W1 : Wd} {H0 H H1 : Hp} {σ : L2.St} {ρ ρ1 : Rh} {v : V} {d : D} {j : Nat} {x l : Addr} {c g : Str} {fs : List (Str × D)}
theorem EnvOk.freezeAt {a : Addr} {o : HO} (I : EnvOk mg W0 H0 W H σ ρ) (h : H a = some o) (f : W.F a = none) (p : NotP W a) (h0 : H0 a = none) (n : ∀ (i : Nat) (ys : List D), ρ[i]? = some (some (Sl.ow ys)) → σ[i]? ≠ some (some (V.ref a))) : EnvOk mg W0 H0 (W.add a o) H σ ρ := by
  have up : Up W H (W.add a o) H := freeze_up f _
  refine ⟨I.wok.freeze h p, ⟨I.ext.toUp.trans up, fun b u q m => ?_⟩, I.len, fun i d q => ?_, fun i ys q => ?_, I.sep⟩
  · by_cases e : b = a
    · subst e; exact h0
    · have q2 : upd W.F a o b = some u := q
      rw [upd_ne e] at q2
      exact I.ext.new b u q2 m
  · obtain ⟨v, e1, e2⟩ := I.im i d q
    exact ⟨v, e1, e2.mono up.le⟩
  · obtain ⟨b, us, p1, p2, p3, p4, p5, p6⟩ := I.ow i ys q
    refine ⟨b, us, p1, p2, ?_, p4, p5, p6.mono up.le⟩
    show upd W.F a _ b = none
    rw [upd_ne (fun e => n i ys q (by rw [p1, e]))]
    exact p3
theorem EnvOk.slot (I : EnvOk mg W0 H0 W H σ ρ) (h : σ[j]? = some (some v)) (r : Rel mg W v d) : EnvOk mg W0 H0 W H σ (ρ.set j (some (.im d))) := by
  have q := I.put_im j r
  rw [set_same h] at q
  exact q
theorem NOk.lt (N : NOk mg W0 H0 W H σ ρ j x l c g fs) : j < ρ.length := (List.getElem?_eq_some_iff.mp N.rj).1
theorem NOk.nax (N : NOk mg W0 H0 W H σ ρ j x l c g fs) : ∀ (i : Nat) (ys : List D), ρ[i]? = some (some (Sl.ow ys)) → σ[i]? ≠ some (some (V.ref x)) := fun i ys q s => by
  obtain ⟨C, dx, kvs, us, xs, o⟩ := N.ob
  obtain ⟨b, us, p1, p2, _⟩ := N.env.ow i ys q
  rw [s] at p1
  cases p1
  rw [o.hx] at p2; cases p2
theorem NOk.ice (N : NOk mg W0 H0 W H σ ρ j x l c g fs) : ∃ Wf, EnvOk mg W0 H0 Wf H σ (fzj c fs j ρ) ∧
    ∀ W1 H1, EnvOk mg W0 H0 W1 H1 σ (fzj c fs j ρ) → Up Wf H W1 H1 → ∃ W2, Wle W W2 ∧ NOk mg W0 H0 W2 H1 σ ρ j x l c g fs ∧ ∀ {v d}, Rel mg W1 v d → evenD d = true → Rel mg W2 v d := by
  obtain ⟨C, dx, kvs, us, xs, o⟩ := N.ob
  have ne := o.ne
  have A := N.env.freezeAt o.hl o.fl o.pl N.h0l N.nal
  have fx2 : (W.add l (.lst us)).F x = none := by show upd W.F l _ x = none; rw [upd_ne ne]; exact o.fx
  have B := A.freezeAt (a := x) o.hx fx2 o.px N.h0x N.nax
  have up1 : Up W H (W.add l (.lst us)) H := freeze_up o.fl _
  have up2 : Up (W.add l (.lst us)) H ((W.add l (.lst us)).add x (.ins C dx kvs)) H := freeze_up fx2 _
  have up := up1.trans up2
  have hl : ((W.add l (.lst us)).add x (.ins C dx kvs)).F l = some (.lst us) := up2.mono _ _ upd_same
  have hx : ((W.add l (.lst us)).add x (.ins C dx kvs)).F x = some (.ins C dx kvs) := upd_same
  have rx : Rel mg ((W.add l (.lst us)).add x (.ins C dx kvs)) (.ref x) (.obj c fs) := .obj hx o.cls (o.rel.relA up.le hl (o.els.mono up.le))
  refine ⟨_, B.slot N.sj rx, fun W1 H1 I1 u => ?_⟩
  have f1 := u.mono x _ hx
  have f2 := u.mono l _ hl
  have n1 : NotP W1 x := I1.wok.notP_F f1
  have n2 : NotP W1 l := I1.wok.notP_F f2
  have nx0 : ∀ {a o}, W.F a = some o → a ≠ x := fun {a o'} q e => by rw [e, o.fx] at q; cases q
  have nl0 : ∀ {a o}, W.F a = some o → a ≠ l := fun {a o'} q e => by rw [e, o.fl] at q; cases q
  have le : Wle W ((W1.del x).del l) := ⟨fun a o' q => del_ne (del_ne (u.mono a o' (up.mono a o' q)) (nx0 q)) (nl0 q), fun y q => u.le.u y (up.le.u y q)⟩
  have w0x : W0.F x = none := by
    cases q : W0.F x with
    | none => rfl
    | some o' => have := N.env.ext.mono x o' q; rw [o.fx] at this; cases this
  have w0l : W0.F l = none := by
    cases q : W0.F l with
    | none => rfl
    | some o' => have := N.env.ext.mono l o' q; rw [o.fl] at this; cases this
  have dn : ∀ {a : Addr}, W1.F a = none → ((W1.del x).del l).F a = none := fun {a} q => by
    show (if a = l then none else if a = x then none else W1.F a) = none
    rw [q]; split
    · rfl
    · split <;> rfl
  refine ⟨(W1.del x).del l, le, ⟨⟨⟨fun a o' q => I1.wok.sub a o' (del_some (del_some q).1).1, fun a b q => ?_⟩, ⟨⟨fun a o' q => del_ne (del_ne (I1.ext.mono a o' q) (fun e => by rw [e, w0x] at q; cases q)) (fun e => by rw [e, w0l] at q; cases q), I1.ext.keep, I1.ext.dom, I1.ext.u⟩, fun a o' q n => I1.ext.new a o' (del_some (del_some q).1).1 n⟩, N.env.len, fun i d q => ?_, fun i ys q => ?_, N.env.sep⟩, N.rj, N.sj, ⟨C, dx, kvs, us, xs, I1.wok.sub _ _ f1, I1.wok.sub _ _ f2, ?_, del_self, n1, n2, o.rel.mono le, o.els.mono le, o.cls⟩, N.h0x, N.h0l, N.nal⟩, fun {v d} r f => r.even (fun a vs q => del_ne (del_ne q (fun e => by rw [e, f1] at q; cases q)) (fun e => by rw [e, f2] at q; cases q)) f⟩
  · have p := I1.wok.pu a b q
    exact ⟨dn p.fa, dn p.fg, p.ne, p.here⟩
  · obtain ⟨v, e1, e2⟩ := N.env.im i d q
    exact ⟨v, e1, e2.mono le⟩
  · obtain ⟨b, vs, p1, p2, p3, p4, p5, p6⟩ := N.env.ow i ys q
    have nj : j ≠ i := fun e => by rw [← e, N.rj] at q; cases q
    obtain ⟨b2, vs2, q1, q2, q3, q4, q5, q6⟩ := I1.ow i ys (by unfold fzj; rw [List.getElem?_set_ne nj]; exact q)
    rw [p1] at q1
    cases q1
    have k2 := u.keep b _ p2 p4
    rw [q2] at k2
    cases k2
    exact ⟨b, vs, p1, q2, dn q3, q4, p5, p6.mono le⟩
  · show (if x = l then none else (W1.del x).F x) = none
    rw [if_neg ne]; exact del_self
theorem NOk.eval {te' : TE} {te : DTE} {P : D → Prop} {Q : VK} (N : NOk mg W0 H0 W H σ ρ j x l c g fs) (he : SE mg te' te) (h : te (fzj c fs j ρ) fun r ρ1 => ∃ d, r = .im d ∧ evenD d = true ∧ ρ1 = fzj c fs j ρ ∧ P d)
    (k : ∀ W' H' v d, Wle W W' → NOk mg W0 H0 W' H' σ ρ j x l c g fs → Rel mg W' v d → evenD d = true → P d → Q v H') : te' σ H Q := by
  obtain ⟨Wf, I, th⟩ := N.ice
  refine he W0 H0 Wf H σ _ _ _ I h fun W1 H1 v r ρ1 I1 u1 R1 h1 => ?_
  obtain ⟨d, rfl, fd, rfl, p⟩ := h1
  obtain ⟨W2, le, N2, rr⟩ := th W1 H1 I1 u1.toUp
  exact k W2 H1 v d le N2 (rr R1 fd) fd p
theorem NOk.put (N : NOk mg W0 H0 W H σ ρ j x l c g fs) {i : Nat} (n : i ≠ j) (r : Rel mg W v d) : NOk mg W0 H0 W H (σ.set i (some v)) (ρ.set i (some (.im d))) j x l c g fs :=
  ⟨N.env.put_im i r, by rw [List.getElem?_set_ne n]; exact N.rj, by rw [List.getElem?_set_ne n]; exact N.sj, N.ob, N.h0x, N.h0l, fun k ys q s => by
    rcases get_set q with ⟨_, e, _⟩ | ⟨e, q⟩
    · cases e
    · rw [List.getElem?_set_ne e] at s
      exact N.nal k ys q s⟩
theorem NOk.poke {a : Addr} (N : NOk mg W0 H0 W H σ ρ j x l c g fs) (h1 : W.F a = none) (h2 : NotP W a) (h3 : H0 a = none) (hn : ∀ (i : Nat) (ys : List D), ρ[i]? = some (some (Sl.ow ys)) → σ[i]? ≠ some (some (V.ref a))) (nx : a ≠ x) (nl : a ≠ l) (o : HO) : NOk mg W0 H0 W (upd H a o) σ ρ j x l c g fs := by
  obtain ⟨C, dx, kvs, us, xs, ob⟩ := N.ob
  exact ⟨N.env.poke h1 h2 h3 hn o, N.rj, N.sj, ⟨C, dx, kvs, us, xs, by rw [upd_ne (Ne.symm nx)]; exact ob.hx, by rw [upd_ne (Ne.symm nl)]; exact ob.hl, ob.fx, ob.fl, ob.px, ob.pl, ob.rel, ob.els, ob.cls⟩, N.h0x, N.h0l, N.nal⟩
theorem NOk.field {C dx : Addr} {kvs : List (Str × V)} {us : List V} {xs : List D} (N : NOk mg W0 H0 W H σ ρ j x l c g fs) (o : ObA mg W H x l c g fs C dx kvs us xs) {f : Str} (n : f ≠ g) (r : Rel mg W v d) : NOk mg W0 H0 W (upd H x (.ins C dx (putF f v kvs))) σ ρ j x l c g (putFD f d fs) :=
  ⟨N.env.poke o.fx o.px N.h0x N.nax _, N.rj, N.sj, ⟨C, dx, _, us, xs, upd_same, by rw [upd_ne (Ne.symm o.ne)]; exact o.hl, o.fx, o.fl, o.px, o.pl, o.rel.put n r, o.els, o.cls⟩, N.h0x, N.h0l, N.nal⟩
theorem NOk.list {C dx : Addr} {kvs : List (Str × V)} {us vs : List V} {xs ys : List D} (N : NOk mg W0 H0 W H σ ρ j x l c g fs) (o : ObA mg W H x l c g fs C dx kvs us xs) (r : RelL mg W vs ys) : NOk mg W0 H0 W (upd H l (.lst vs)) σ ρ j x l c g (setG g ys fs) :=
  ⟨N.env.poke o.fl o.pl N.h0l N.nal _, N.rj, N.sj, ⟨C, dx, kvs, vs, ys, by rw [upd_ne o.ne]; exact o.hx, upd_same, o.fx, o.fl, o.px, o.pl, o.rel.setG, r, o.cls⟩, N.h0x, N.h0l, N.nal⟩
end

abbrev JTS := (Rh → List (Str × D) → Prop) → (D → List (Str × D) → Prop) → Rh → List (Str × D) → Prop
def Back (mg : Gm) (W0 : Wd) (H0 : Hp) (x l : Addr) (c g : Str) (W : Wd) (H : Hp) (v : V) (d : D) (fs : List (Str × D)) : Prop := WOk W H ∧ Ext W0 H0 W H ∧ ObAt mg W H x l c g fs ∧ Rel mg W v d ∧ evenD d = true
def SJ (mg : Gm) (j : Nat) (c g : Str) (t' : TS) (t : JTS) : Prop := ∀ W0 H0 W H σ ρ x l fs nx rt (E : Ends), NOk mg W0 H0 W H σ ρ j x l c g fs → t nx rt ρ fs →
  (∀ W' H' σ' ρ' fs', Wle W W' → NOk mg W0 H0 W' H' σ' ρ' j x l c g fs' → nx ρ' fs' → E.nx σ' H') → (∀ W' H' v d fs', Back mg W0 H0 x l c g W' H' v d fs' → rt d fs' → E.rt v H') → t' E σ H
structure DJ (X : Cx) (j : Nat) (c g : Str) (st : Stmt) (t' : TS) (t : JTS) : Prop where
  p : PS X st t'
  s : SJ (gm X) j c g t' t
structure DJs (X : Cx) (j : Nat) (c g : Str) (sts : List Stmt) (t' : TS) (t : JTS) : Prop where
  p : PSs X sts t'
  s : SJ (gm X) j c g t' t
section
variable {X : Cx} {j : Nat} {c g : Str} {st : Stmt} {rest a b : List Stmt} {t' u' : TS} {t u : JTS}
section
variable {e : Expr} {te' : TE} {te : DTE} {pos pos' p1 : Pos} {f : Str}
theorem NOk.obj {W0 W : Wd} {H0 H : Hp} {σ : L2.St} {ρ : Rh} {x l : Addr} {fs : List (Str × D)} (N : NOk (gm X) W0 H0 W H σ ρ j x l c g fs) (ok : FldOk X.K X.mg c f) : ∃ C dx kvs us xs, ObA (gm X) W H x l c g fs C dx kvs us xs ∧ Cls X.K C ∧ NoAttr X.K C f := by
  obtain ⟨C, dx, kvs, us, xs, o⟩ := N.ob
  obtain ⟨C', m, cl, na⟩ := ok.ex
  have e1 := o.cls.symm.trans m
  cases e1
  exact ⟨C, dx, kvs, us, xs, o, cl, na⟩
end
end
end DL
namespace DL
open PySem PySem.Spec PyProof.Rows L2
def hide (x l : Addr) (H : Hp) : Hp := fun a => if a = x ∨ a = l then none else H a
abbrev DSj := List (Str × D) → List D → (List (Str × D) → D → Prop) → Prop
section
variable {mg : Gm} {W0 W W1 : Wd} {H0 H H1 : Hp} {σ : L2.St} {ρ ρ1 : Rh} {v : V} {d : D} {j : Nat} {x l : Addr} {c g : Str} {fs fs' : List (Str × D)}
end

abbrev FTS := (List (Str × D) → Prop) → Rh → List (Str × D) → Prop
def SF (mg : Gm) (c g : Str) (t' : TS) (t : FTS) : Prop := ∀ W0 H0 W H σ ρ x C dx kvs fs k (E : Ends), IOk mg W0 H0 W H σ ρ x C dx kvs fs c → t k ρ fs →
  (∀ W' H' σ' l fs', WOk W' H' → Ext W0 H0 W' H' → ObAt mg W' H' x l c g fs' → H0 l = none → k fs' → E.nx σ' H') → t' E σ H
structure DF (X : Cx) (c g : Str) (sts : List Stmt) (t' : TS) (t : FTS) : Prop where
  p : PSs X sts t'
  s : SF (gm X) c g t' t
section
variable {X : Cx} {c g : Str}
section
variable {e : Expr} {te' : TE} {te : DTE} {f o : Str} {p1 pos pos' : Pos}
end
end
section
variable {P : Program} {w : World} {K : PySem.W.Frag} {mg : Str → Option Value} {base : Heap}
end

section
variable {mg : Gm} {W0 W W1 : Wd} {H0 H H1 : Hp} {σ : L2.St} {ρ ρ1 : Rh} {v : V} {d : D} {j : Nat} {x l : Addr} {c g m : Str} {fs fs' : List (Str × D)} {S : DSj}
theorem NOk.step {W' : Wd} {H' : Hp} (N : NOk mg W0 H0 W H σ ρ j x l c g fs) (e : Ext W H W' H') (w : WOk W' H') : NOk mg W0 H0 W' H' σ ρ j x l c g fs := by
  obtain ⟨C, dx, kvs, us, xs, ob⟩ := N.ob
  refine ⟨N.env.step e w, N.rj, N.sj, ⟨C, dx, kvs, us, xs, e.keep _ _ ob.hx ob.px, e.keep _ _ ob.hl ob.pl, ?_, ?_, e.notP ob.hx ob.px, e.notP ob.hl ob.pl, ob.rel.mono e.le, ob.els.mono e.le, ob.cls⟩, N.h0x, N.h0l, N.nal⟩
  · cases q : W'.F x with
    | none => rfl
    | some u => have z := e.new x u q ob.fx; rw [ob.hx] at z; cases z
  · cases q : W'.F l with
    | none => rfl
    | some u => have z := e.new l u q ob.fl; rw [ob.hl] at z; cases z
end
section
variable {X : Cx} {c g m : Str} {j k : Nat} {f C : Addr} {fd : FuncData} {ps : List Str} {p pos apos spos : Pos} {S : DSj} {gg : Gm} {pl : Sem Bool}
end
end DL
namespace DL
open PySem PySem.Spec PyProof.Rows L2
mutual
def ndD : D → Bool
  | .tup xs => ndL xs
  | .lst xs => ndL xs
  | .dic _ => false
  | .obj _ _ => false
  | .scr _ => false
  | .dlk _ => false
  | .dlt _ _ => false
  | .exc _ => false
  | .purse => false
  | _ => true
def ndL : List D → Bool
  | [] => true
  | x :: xs => ndD x && ndL xs
end
section
variable {mg : Gm} {W W2 : Wd}
mutual
theorem Rel.nd (h : ∀ a vs, W.F a = some (.tup vs) → W2.F a = some (.tup vs)) (g : ∀ a vs, W.F a = some (.lst vs) → W2.F a = some (.lst vs)) : ∀ {v : V} {d : D}, Rel mg W v d → ndD d = true → Rel mg W2 v d
  | _, _, .non, _ => .non
  | _, _, .bl b, _ => .bl b
  | _, _, .int i, _ => .int i
  | _, _, .str z, _ => .str z
  | _, _, .tup e r, c => .tup (h _ _ e) (RelL.nd h g r c)
  | _, _, .lst e r, c => .lst (g _ _ e) (RelL.nd h g r c)
  | _, _, .dic _ _, c => absurd c (by show ¬ (false = true); exact Bool.false_ne_true)
  | _, _, .obj _ _ _, c => absurd c (by show ¬ (false = true); exact Bool.false_ne_true)
  | _, _, .purse _, c => absurd c (by show ¬ (false = true); exact Bool.false_ne_true)
  | _, _, .scr _ _, c => absurd c (by show ¬ (false = true); exact Bool.false_ne_true)
  | _, _, .dlk _ _, c => absurd c (by show ¬ (false = true); exact Bool.false_ne_true)
  | _, _, .dlt _ _ _, c => absurd c (by show ¬ (false = true); exact Bool.false_ne_true)
  | _, _, .exc _ _, c => absurd c (by show ¬ (false = true); exact Bool.false_ne_true)
theorem RelL.nd (h : ∀ a vs, W.F a = some (.tup vs) → W2.F a = some (.tup vs)) (g : ∀ a vs, W.F a = some (.lst vs) → W2.F a = some (.lst vs)) : ∀ {vs : List V} {ds : List D}, RelL mg W vs ds → ndL ds = true → RelL mg W2 vs ds
  | _, _, .nil, _ => .nil
  | _, _, .cons (d := d) (ds := ds) r t, c => by
    have c2 : (ndD d && ndL ds) = true := c
    rw [Bool.and_eq_true] at c2
    exact .cons (Rel.nd h g r c2.1) (RelL.nd h g t c2.2)
end
end
abbrev Lk := Option (Obj × List (Key × V))
def lkO : Lk → List (Key × V) → HO
  | none, kvs => .dK kvs
  | some p, kvs => .frz p.1 (.dK kvs)
theorem lkO_rd {F : Hp} {x : Addr} {kvs : List (Key × V)} : ∀ {lk : Lk}, F x = some (lkO lk kvs) → Rd F x (.dK kvs)
  | none, h => .inl h
  | some p, h => .inr ⟨p.1, h⟩
theorem lkO_lst {kvs : List (Key × V)} {us : List V} : ∀ {lk : Lk}, some (lkO lk kvs) ≠ some (.lst us)
  | none, h => by cases h
  | some p, h => by cases h
structure KOk (mg : Gm) (W0 : Wd) (H0 : Hp) (W : Wd) (H : Hp) (σ : L2.St) (ρ : Rh) (j : Nat) (x : Addr) (kvs : List (Key × V)) (ps : List (Key × D)) (lk : Lk) : Prop where
  env : EnvOk mg W0 H0 W H σ ρ
  rj : ρ[j]? = some none
  sj : σ[j]? = some (some (.ref x))
  hx : H x = some (lkO lk kvs)
  hl : ∀ p, lk = some p → kvs = p.2
  fx : W.F x = none
  px : NotP W x
  h0 : H0 x = none
  rel : RelK mg W kvs ps
def fzk (ps : List (Key × D)) (j : Nat) (ρ : Rh) : Rh := ρ.set j (some (.im (.dlk ps)))
def fzd (ps : List (Key × D)) (j : Nat) (ρ : Rh) : Rh := ρ.set j (some (.im (.dic ps)))
section
variable {mg : Gm} {W0 W W1 : Wd} {H0 H H1 : Hp} {σ : L2.St} {ρ ρ1 : Rh} {v : V} {d : D} {j : Nat} {x : Addr} {kvs : List (Key × V)} {ps : List (Key × D)} {lk : Lk}
theorem KOk.nax (N : KOk mg W0 H0 W H σ ρ j x kvs ps lk) : ∀ (i : Nat) (ys : List D), ρ[i]? = some (some (Sl.ow ys)) → σ[i]? ≠ some (some (V.ref x)) := fun i ys q s => by
  obtain ⟨b, us, p1, p2, _⟩ := N.env.ow i ys q
  rw [s] at p1
  cases p1
  rw [N.hx] at p2; exact lkO_lst p2
theorem KOk.ice (N : KOk mg W0 H0 W H σ ρ j x kvs ps lk) : ∃ Wf, EnvOk mg W0 H0 Wf H σ (fzk ps j ρ) ∧
    ∀ W1 H1, EnvOk mg W0 H0 W1 H1 σ (fzk ps j ρ) → Up Wf H W1 H1 → ∃ W2, Wle W W2 ∧ KOk mg W0 H0 W2 H1 σ ρ j x kvs ps lk ∧ ∀ {v d}, Rel mg W1 v d → ndD d = true → Rel mg W2 v d := by
  have B := N.env.freezeAt N.hx N.fx N.px N.h0 N.nax
  have up : Up W H (W.add x (lkO lk kvs)) H := freeze_up N.fx _
  have hx : (W.add x (lkO lk kvs)).F x = some (lkO lk kvs) := upd_same
  have rx : Rel mg (W.add x (lkO lk kvs)) (.ref x) (.dlk ps) := .dlk (lkO_rd hx) (N.rel.mono up.le)
  refine ⟨_, B.slot N.sj rx, fun W1 H1 I1 u => ?_⟩
  have f1 := u.mono x _ hx
  have n1 : NotP W1 x := I1.wok.notP_F f1
  have nx0 : ∀ {a o}, W.F a = some o → a ≠ x := fun {a o'} q e => by rw [e, N.fx] at q; cases q
  have le : Wle W (W1.del x) := ⟨fun a o' q => del_ne (u.mono a o' (up.mono a o' q)) (nx0 q), fun y q => u.le.u y (up.le.u y q)⟩
  have w0x : W0.F x = none := by
    cases q : W0.F x with
    | none => rfl
    | some o' => have := N.env.ext.mono x o' q; rw [N.fx] at this; cases this
  have dn : ∀ {a : Addr}, W1.F a = none → (W1.del x).F a = none := fun {a} q => by
    show (if a = x then none else W1.F a) = none
    rw [q]; split <;> rfl
  refine ⟨W1.del x, le, ⟨⟨⟨fun a o' q => I1.wok.sub a o' (del_some q).1, fun a b q => ?_⟩, ⟨⟨fun a o' q => del_ne (I1.ext.mono a o' q) (fun e => by rw [e, w0x] at q; cases q), I1.ext.keep, I1.ext.dom, I1.ext.u⟩, fun a o' q n => I1.ext.new a o' (del_some q).1 n⟩, N.env.len, fun i d q => ?_, fun i ys q => ?_, N.env.sep⟩, N.rj, N.sj, I1.wok.sub _ _ f1, N.hl, del_self, n1, N.h0, N.rel.mono le⟩, fun {v d} r f => r.nd (fun a vs q => del_ne q (fun e => by rw [e, f1] at q; cases lk <;> cases q)) (fun a vs q => del_ne q (fun e => by rw [e, f1] at q; exact lkO_lst q)) f⟩
  · have p := I1.wok.pu a b q
    exact ⟨dn p.fa, dn p.fg, p.ne, p.here⟩
  · obtain ⟨v, e1, e2⟩ := N.env.im i d q
    exact ⟨v, e1, e2.mono le⟩
  · obtain ⟨b, vs, p1, p2, p3, p4, p5, p6⟩ := N.env.ow i ys q
    have nj : j ≠ i := fun e => by rw [← e, N.rj] at q; cases q
    obtain ⟨b2, vs2, q1, q2, q3, q4, q5, q6⟩ := I1.ow i ys (by unfold fzk; rw [List.getElem?_set_ne nj]; exact q)
    rw [p1] at q1
    cases q1
    have k2 := u.keep b _ p2 p4
    rw [q2] at k2
    cases k2
    exact ⟨b, vs, p1, q2, dn q3, q4, p5, p6.mono le⟩
theorem KOk.eval {te' : TE} {te : DTE} {P : D → Prop} {Q : VK} (N : KOk mg W0 H0 W H σ ρ j x kvs ps lk) (he : SE mg te' te) (h : te (fzk ps j ρ) fun r ρ1 => ndD r.d = true ∧ frz r ρ1 = fzk ps j ρ ∧ P r.d)
    (k : ∀ W' H' v d, Wle W W' → KOk mg W0 H0 W' H' σ ρ j x kvs ps lk → Rel mg W' v d → ndD d = true → P d → Q v H') : te' σ H Q := by
  obtain ⟨Wf, I, th⟩ := N.ice
  refine he W0 H0 Wf H σ _ _ _ I h fun W1 H1 v r ρ1 I1 u1 R1 h1 => ?_
  obtain ⟨fd, e, p⟩ := h1
  obtain ⟨W3, I3, u3, r3⟩ := u1.settle I I1 R1
  rw [e] at I3
  obtain ⟨W2, le, N2, rr⟩ := th W3 H1 I3 u3.toUp
  exact k W2 H1 v _ le N2 (rr r3 fd) fd p
theorem KOk.put (N : KOk mg W0 H0 W H σ ρ j x kvs ps lk) {i : Nat} (n : i ≠ j) (r : Rel mg W v d)  : KOk mg W0 H0 W H (σ.set i (some v)) (ρ.set i (some (.im d))) j x kvs ps lk :=
  ⟨N.env.put_im i r, by rw [List.getElem?_set_ne n]; exact N.rj, by rw [List.getElem?_set_ne n]; exact N.sj, N.hx, N.hl, N.fx, N.px, N.h0, N.rel⟩
theorem KOk.set {kvs' : List (Key × V)} {ps' : List (Key × D)} (N : KOk mg W0 H0 W H σ ρ j x kvs ps none) (r : RelK mg W kvs' ps') : KOk mg W0 H0 W (upd H x (.dK kvs')) σ ρ j x kvs' ps' none :=
  ⟨N.env.poke N.fx N.px N.h0 N.nax _, N.rj, N.sj, upd_same, (fun _ e => (nomatch e)), N.fx, N.px, N.h0, r⟩
theorem KOk.step {W' : Wd} {H' : Hp} (N : KOk mg W0 H0 W H σ ρ j x kvs ps lk) (e : Ext W H W' H') (w : WOk W' H') : KOk mg W0 H0 W' H' σ ρ j x kvs ps lk := by
  refine ⟨N.env.step e w, N.rj, N.sj, e.keep _ _ N.hx N.px, N.hl, ?_, e.notP N.hx N.px, N.h0, N.rel.mono e.le⟩
  cases q : W'.F x with
  | none => rfl
  | some u => have z := e.new x u q N.fx; rw [N.hx] at z; cases z
end

abbrev KTS := (Rh → List (Key × D) → Prop) → (D → Prop) → Rh → List (Key × D) → Prop
def SK (mg : Gm) (j : Nat) (b : Bool) (t' : TS) (t : KTS) : Prop := ∀ W0 H0 W H σ ρ x kvs ps nx rt (E : Ends) lk, lk.isSome = b → KOk mg W0 H0 W H σ ρ j x kvs ps lk → t nx rt ρ ps →
  (∀ W' H' σ' ρ' kvs' ps', Wle W W' → KOk mg W0 H0 W' H' σ' ρ' j x kvs' ps' lk → nx ρ' ps' → E.nx σ' H') → (∀ W' H' σ' ρ' kvs' ps' v d, KOk mg W0 H0 W' H' σ' ρ' j x kvs' ps' lk → Rel mg W' v d → rt d → E.rt v H') → t' E σ H
structure DK (X : Cx) (j : Nat) (b : Bool) (st : Stmt) (t' : TS) (t : KTS) : Prop where
  p : PS X st t'
  s : SK (gm X) j b t' t
structure DKs (X : Cx) (j : Nat) (b : Bool) (sts : List Stmt) (t' : TS) (t : KTS) : Prop where
  p : PSs X sts t'
  s : SK (gm X) j b t' t
section
variable {X : Cx} {j : Nat} {lb : Bool} {st : Stmt} {rest a b : List Stmt} {t' u' : TS} {t u : KTS}
section
variable {e : Expr} {te' : TE} {te : DTE} {pos pos' p1 : Pos}
end
end

section
variable {mg : Gm} {j q : Nat} {tb' : TS} {tb : KTS} {K : PySem.W.Frag}
end
section
variable {mg : Gm} {j q : Nat} {tb' : TS} {tb : KTS}
end
section
variable {mg : Gm} {j : Nat} {tr' : TS} {tr : KTS}
theorem KOk.done {W0 W W' : Wd} {H0 H : Hp} {σ : L2.St} {ρ : Rh} {x : Addr} {kvs : List (Key × V)} {ps : List (Key × D)} {P : DEnds} {E : Ends} (N : KOk mg W0 H0 W' H σ ρ j x kvs ps none) (k : EndsOk mg W0 H0 W P E) (l : Wle W W') (h : P.nx (fzd ps j ρ)) : E.nx σ H := by
  have B := N.env.freezeAt N.hx N.fx N.px N.h0 N.nax
  have up : Up W' H (W'.add x (.dK kvs)) H := freeze_up N.fx _
  exact k.nx _ H σ _ (l.trans up.le) (B.slot N.sj (.dic upd_same (N.rel.mono up.le))) h
end
section
variable {X : Cx} {j : Nat} {rest : List Stmt} {tr' : TS} {tr : KTS} {pos yp p : Pos}
end
end DL
namespace DL
open PySem PySem.Spec PyProof.Rows L2
abbrev KeyT := List Key
inductive RelT (mg : Gm) (W : Wd) : List (KeyT × V) → List (KeyT × D) → Prop
  | nil : RelT mg W [] []
  | cons {k : KeyT} {v : V} {vs : List (KeyT × V)} {d : D} {ds : List (KeyT × D)} : Rel mg W v d → RelT mg W vs ds → RelT mg W ((k, v) :: vs) ((k, d) :: ds)
def putT (ps : List (KeyT × D)) (k : KeyT) (d : D) : List (KeyT × D) :=
  if (ps.any fun kv => decide (kv.1 = k)) = true then ps.map (fun kv => if kv.1 = k then (kv.1, d) else kv) else ps ++ [(k, d)]
section
variable {mg : Gm} {W W' : Wd}
theorem RelT.mono (l : Wle W W') : ∀ {kvs : List (KeyT × V)} {ps : List (KeyT × D)}, RelT mg W kvs ps → RelT mg W' kvs ps
  | _, _, .nil => .nil
  | _, _, .cons r t => .cons (r.mono l) (RelT.mono l t)
theorem RelT.len : ∀ {kvs : List (KeyT × V)} {ps : List (KeyT × D)}, RelT mg W kvs ps → kvs.length = ps.length
  | _, _, .nil => rfl
  | _, _, .cons _ t => congrArg (· + 1) (RelT.len t)
theorem RelT.keys : ∀ {kvs : List (KeyT × V)} {ps : List (KeyT × D)}, RelT mg W kvs ps → kvs.map Prod.fst = ps.map Prod.fst
  | _, _, .nil => rfl
  | _, _, .cons _ t => by rw [List.map_cons, List.map_cons, RelT.keys t]
theorem RelT.any (k : KeyT) : ∀ {kvs : List (KeyT × V)} {ps : List (KeyT × D)}, RelT mg W kvs ps → (kvs.any fun kv => decide (kv.1 = k)) = ps.any fun kv => decide (kv.1 = k)
  | _, _, .nil => rfl
  | _, _, .cons _ t => by rw [List.any_cons, List.any_cons, RelT.any k t]
theorem RelT.over {v : V} {d : D} (k : KeyT) (r : Rel mg W v d) : ∀ {kvs : List (KeyT × V)} {ps : List (KeyT × D)}, RelT mg W kvs ps → RelT mg W (kvs.map fun kv => if kv.1 = k then (kv.1, v) else kv) (ps.map fun kv => if kv.1 = k then (kv.1, d) else kv)
  | _, _, .nil => .nil
  | _, _, .cons (k := k') q t => by
    rw [List.map_cons, List.map_cons]
    by_cases e : k' = k
    · rw [if_pos e, if_pos e]; exact .cons r (RelT.over k r t)
    · rw [if_neg e, if_neg e]; exact .cons q (RelT.over k r t)
theorem RelT.push {v : V} {d : D} (k : KeyT) (r : Rel mg W v d) : ∀ {kvs : List (KeyT × V)} {ps : List (KeyT × D)}, RelT mg W kvs ps → RelT mg W (kvs ++ [(k, v)]) (ps ++ [(k, d)])
  | _, _, .nil => .cons r .nil
  | _, _, .cons q t => .cons q (RelT.push k r t)
theorem RelT.put {v : V} {d : D} (k : KeyT) (r : Rel mg W v d) {kvs : List (KeyT × V)} {ps : List (KeyT × D)} (t : RelT mg W kvs ps) : RelT mg W (putK kvs k v) (putT ps k d) := by
  unfold putK putT
  rw [t.any k]
  split
  · exact t.over k r
  · exact t.push k r
end
structure TOk (mg : Gm) (W0 : Wd) (H0 : Hp) (W : Wd) (H : Hp) (σ : L2.St) (ρ : Rh) (j : Nat) (x : Addr) (kvs : List (KeyT × V)) (ps : List (KeyT × D)) : Prop where
  env : EnvOk mg W0 H0 W H σ ρ
  rj : ρ[j]? = some none
  sj : σ[j]? = some (some (.ref x))
  hx : H x = some (.dT kvs)
  fx : W.F x = none
  px : NotP W x
  h0 : H0 x = none
  rel : RelT mg W kvs ps
section
variable {mg : Gm} {W0 W W1 : Wd} {H0 H H1 : Hp} {σ : L2.St} {ρ ρ1 : Rh} {v : V} {d : D} {j : Nat} {x : Addr} {kvs : List (KeyT × V)} {ps : List (KeyT × D)}
theorem TOk.nax (N : TOk mg W0 H0 W H σ ρ j x kvs ps) : ∀ (i : Nat) (ys : List D), ρ[i]? = some (some (Sl.ow ys)) → σ[i]? ≠ some (some (V.ref x)) := fun i ys q s => by
  obtain ⟨b, us, p1, p2, _⟩ := N.env.ow i ys q
  rw [s] at p1
  cases p1
  rw [N.hx] at p2; cases p2
theorem TOk.up (N : TOk mg W0 H0 W H σ ρ j x kvs ps) (I : EnvOk mg W0 H0 W1 H1 σ ρ) (u : Stp σ ρ W H ρ1 W1 H1) : TOk mg W0 H0 W1 H1 σ ρ j x kvs ps := by
  refine ⟨I, N.rj, N.sj, u.keep _ _ N.hx N.px, ?_, u.toUp.notP N.hx N.px, N.h0, N.rel.mono u.le⟩
  cases q : W1.F x with
  | none => rfl
  | some o =>
    rcases u.new x o q N.fx with z | ⟨i, ys, z1, z2⟩
    · rw [N.hx] at z; cases z
    · exact absurd z2 (N.nax i ys z1)
theorem TOk.eval {te' : TE} {te : DTE} {P : D → Prop} {Q : VK} (N : TOk mg W0 H0 W H σ ρ j x kvs ps) (he : SE mg te' te) (h : te ρ fun r ρ1 => frz r ρ1 = ρ ∧ P r.d)
    (k : ∀ W' H' v d, Wle W W' → TOk mg W0 H0 W' H' σ ρ j x kvs ps → Rel mg W' v d → P d → Q v H') : te' σ H Q := by
  refine he W0 H0 W H σ _ _ _ N.env h fun W1 H1 v r ρ1 I1 u1 R1 h1 => ?_
  obtain ⟨e, p⟩ := h1
  obtain ⟨W3, I3, u3, r3⟩ := u1.settle N.env I1 R1
  rw [e] at I3
  exact k W3 H1 v _ u3.le (N.up I3 u3) r3 p
theorem TOk.put (N : TOk mg W0 H0 W H σ ρ j x kvs ps) {i : Nat} (n : i ≠ j) (r : Rel mg W v d) : TOk mg W0 H0 W H (σ.set i (some v)) (ρ.set i (some (.im d))) j x kvs ps :=
  ⟨N.env.put_im i r, by rw [List.getElem?_set_ne n]; exact N.rj, by rw [List.getElem?_set_ne n]; exact N.sj, N.hx, N.fx, N.px, N.h0, N.rel⟩
theorem TOk.set {kvs' : List (KeyT × V)} {ps' : List (KeyT × D)} (N : TOk mg W0 H0 W H σ ρ j x kvs ps) (r : RelT mg W kvs' ps') : TOk mg W0 H0 W (upd H x (.dT kvs')) σ ρ j x kvs' ps' :=
  ⟨N.env.poke N.fx N.px N.h0 N.nax _, N.rj, N.sj, upd_same, N.fx, N.px, N.h0, r⟩
theorem TOk.step {W' : Wd} {H' : Hp} (N : TOk mg W0 H0 W H σ ρ j x kvs ps) (e : Ext W H W' H') (w : WOk W' H') : TOk mg W0 H0 W' H' σ ρ j x kvs ps := N.up (N.env.step e w) (e.stp (ρ := ρ))
end
abbrev TTS := (Rh → List (KeyT × D) → Prop) → Rh → List (KeyT × D) → Prop
def ST (mg : Gm) (j : Nat) (t' : TS) (t : TTS) : Prop := ∀ W0 H0 W H σ ρ x kvs ps nx (E : Ends), TOk mg W0 H0 W H σ ρ j x kvs ps → t nx ρ ps →
  (∀ W' H' σ' ρ' kvs' ps', Wle W W' → TOk mg W0 H0 W' H' σ' ρ' j x kvs' ps' → nx ρ' ps' → E.nx σ' H') → t' E σ H
structure DTk (X : Cx) (j : Nat) (st : Stmt) (t' : TS) (t : TTS) : Prop where
  p : PS X st t'
  s : ST (gm X) j t' t
structure DTks (X : Cx) (j : Nat) (sts : List Stmt) (t' : TS) (t : TTS) : Prop where
  p : PSs X sts t'
  s : ST (gm X) j t' t
section
variable {X : Cx} {j : Nat} {st : Stmt} {rest a b : List Stmt} {t' u' : TS} {t u : TTS}
section
variable {e : Expr} {te' : TE} {te : DTE} {pos pos' p1 : Pos}
end
end
section
variable {mg : Gm} {j q : Nat} {tb' : TS} {tb : TTS} {K : PySem.W.Frag}
end
section
variable {X : Cx}
end
section
variable {mg : Gm} {j : Nat} {t' : TS} {t : TTS} {te' : TE} {te : DTE}
end
end DL
namespace DL
open PySem PySem.Spec PyProof.Rows L2
variable {X : Cx}
end DL
namespace DL
open PySem PySem.Spec PyProof.Rows L2
section
variable {X : Cx} {mg : Gm} {W W' : Wd} {H H' : Hp} {v x y : V}
end
end DL
namespace DL
open PySem PySem.Spec PyProof.Rows L2
section
variable {X : Cx} {mg : Gm} {W W' : Wd} {H H' : Hp} {v x y : V}
end
end DL
namespace DL
open PySem PySem.Spec PyProof.Rows L2
section
variable {X : Cx} {mg : Gm} {W W' : Wd} {H H' : Hp} {v x y : V}
end
section
variable {P : Program} {w : World} {K : PySem.W.Frag} {mg : Str → Option Value} {base : Heap}
end
end DL
namespace DL
open PySem PySem.Spec PyProof.Rows L2
section
variable {X : Cx} {mg : Gm} {W W' : Wd} {H H' : Hp} {v x y : V}
end
end DL
namespace DL
open PySem PySem.Spec PyProof.Rows L2
def kPy : Key → PyData
  | .inl i => .int i
  | .inr x => .str x
mutual
def D.pyF : D → PyData
  | .bl b => .bool b
  | .int i => .int i
  | .str x => .str x
  | .tup xs => .tuple (D.pyFL xs)
  | .dic ps => .dict (D.pyFK ps)
  | _ => .none
def D.pyFL : List D → List PyData
  | [] => []
  | x :: xs => D.pyF x :: D.pyFL xs
def D.pyFK : List (Key × D) → List (PyData × PyData)
  | [] => []
  | (k, d) :: r => (kPy k, D.pyF d) :: D.pyFK r
end
mutual
def tupO : D → Bool
  | .non => true
  | .bl _ => true
  | .int _ => true
  | .str _ => true
  | .tup xs => tupOL xs
  | .dic ps => tupOK ps
  | _ => false
def tupOL : List D → Bool
  | [] => true
  | x :: xs => tupO x && tupOL xs
def tupOK : List (Key × D) → Bool
  | [] => true
  | (_, d) :: r => tupO d && tupOK r
end
section
variable {X : Cx} {mg : Gm} {W : Wd} {H : Hp} {pins : List (Addr × Obj)} {σ : L2.St} {s : Shared}
mutual
theorem Rel.readsF (I : L2.Inv X pins σ H s) (w : WOk W H) : ∀ {v : V} {d : D}, Rel mg W v d → tupO d = true → ∀ u, RelV v u → ∃ as, Reads s.heap u d.pyF as ∧ ∀ a, a ∈ as → a ≠ sysModules
  | _, _, .non, _, u, r => by
    cases r
    exact ⟨_, .none, fun a h => nomatch h⟩
  | _, _, .bl b, _, u, r => by
    cases r
    exact ⟨_, .bool b, fun a h => nomatch h⟩
  | _, _, .int i, _, u, r => by
    obtain ⟨t, rfl⟩ := r
    exact ⟨_, .int i t, fun a h => nomatch h⟩
  | _, _, .str x, _, u, r => by
    obtain ⟨t, rfl⟩ := r
    exact ⟨_, .str x t, fun a h => nomatch h⟩
  | _, _, .tup h q, c, u, r => by
    cases r
    obtain ⟨its, rv, ⟨o, e1, e2, n, e3⟩, _⟩ := I.tuple (SqT.of (w.sub _ _ h))
    obtain ⟨as, a1, a2⟩ := RelL.readsF I w q c its rv
    exact ⟨as, .tuple e1 e2 e3 a1, a2⟩
  | _, _, .dic h q, c, u, r => by
    cases r
    obtain ⟨_, ns, vs, kv, o, es, ep, e1, ⟨e2, _⟩, e3, _, pr, _⟩ := dk_of I.hok (w.sub _ _ h)
    obtain ⟨bs, a1, a2, a3⟩ := RelK.readsF I w q c vs es.toList kv pr
    refine ⟨_, .dict e1 e2 e3 a1 a2, fun b hb => ?_⟩
    rcases List.mem_append.mp hb with z | z
    · rcases List.mem_cons.mp z with rfl | z
      · exact fun e => by rw [e] at ns; exact absurd ns (by simp)
      · exact nomatch z
    · exact a3 b z
  | _, _, .lst _ _, c, _, _ => absurd c (by show ¬ (false = true); exact Bool.false_ne_true)
  | _, _, .obj _ _ _, c, _, _ => absurd c (by show ¬ (false = true); exact Bool.false_ne_true)
  | _, _, .purse _, c, _, _ => absurd c (by show ¬ (false = true); exact Bool.false_ne_true)
  | _, _, .scr _ _, c, _, _ => absurd c (by show ¬ (false = true); exact Bool.false_ne_true)
  | _, _, .dlk _ _, c, _, _ => absurd c (by show ¬ (false = true); exact Bool.false_ne_true)
  | _, _, .dlt _ _ _, c, _, _ => absurd c (by show ¬ (false = true); exact Bool.false_ne_true)
  | _, _, .exc _ _, c, _, _ => absurd c (by show ¬ (false = true); exact Bool.false_ne_true)
theorem RelL.readsF (I : L2.Inv X pins σ H s) (w : WOk W H) : ∀ {vs : List V} {ds : List D}, RelL mg W vs ds → tupOL ds = true → ∀ us, Vals vs us → ∃ as, ReadsAll s.heap us (D.pyFL ds) as ∧ ∀ a, a ∈ as → a ≠ sysModules
  | _, _, .nil, _, us, r => by
    cases r
    exact ⟨_, .nil, fun a h => nomatch h⟩
  | _, _, .cons (d := d) (ds := ds) h t, c, us, r => by
    have c2 : (tupO d && tupOL ds) = true := c
    rw [Bool.and_eq_true] at c2
    cases r with
    | cons r1 r2 =>
      obtain ⟨as, a1, a2⟩ := Rel.readsF I w h c2.1 _ r1
      obtain ⟨bs, b1, b2⟩ := RelL.readsF I w t c2.2 _ r2
      exact ⟨_, .cons a1 b1, fun a ha => (List.mem_append.mp ha).elim (a2 a) (b2 a)⟩
theorem RelK.readsF (I : L2.Inv X pins σ H s) (w : WOk W H) : ∀ {kvs : List (Key × V)} {es : List (Key × D)}, RelK mg W kvs es → tupOK es = true → ∀ (vs : List (Key × Value)) (ents : List DictEntry), KV kvs vs → Pairs (mixKind X.prog X.w) ents vs →
    ∃ bs, ReadsAll s.heap (ents.map (·.key)) ((D.pyFK es).map (·.1)) [] ∧ ReadsAll s.heap (ents.map (·.val)) ((D.pyFK es).map (·.2)) bs ∧ ∀ a, a ∈ bs → a ≠ sysModules
  | _, _, .nil, _, vs, ents, r, p => by
    cases r
    cases p
    exact ⟨_, .nil, .nil, fun a h => nomatch h⟩
  | _, _, .cons (k := k) (d := d) (ds := ds) h t, c, vs, ents, r, p => by
    have c2 : (tupO d && tupOK ds) = true := c
    rw [Bool.and_eq_true] at c2
    cases r with
    | @cons _ q _ qs r1 r2 =>
      cases p with
      | @cons e _ es _ p1 p2 p3 =>
        obtain ⟨e1, e2⟩ := r1
        obtain ⟨as, a1, a2⟩ := Rel.readsF I w h c2.1 _ (show RelV _ e.val by rw [p2]; exact e2)
        obtain ⟨bs, b1, b2, b3⟩ := RelK.readsF I w t c2.2 _ _ r2 p3
        have kr : Reads s.heap e.key (kPy k) [] := by
          have e1 : k = q.1 := e1
          rw [e1]
          rcases keyIs_shape p1 with ⟨i, t, h1, h2⟩ | ⟨x, t, h1, h2⟩
          · rw [h1, h2]; exact .int i t
          · rw [h1, h2]; exact .str x t
        exact ⟨_, .cons (as := []) kr b1, .cons a1 b2, fun a ha => (List.mem_append.mp ha).elim (a2 a) (b3 a)⟩
end
end
end DL
namespace DL
open PySem PySem.Spec PyProof.Rows L2
end DL
namespace PF
open PySem PySem.Spec PyProof.Rows L2 DL FM
set_option maxHeartbeats 1000000
def Wg : Nat → D → Prop
  | 0 => fun d => ∃ i : Int, d = .int i ∧ i.natAbs < 10 ^ 12
  | n + 1 => fun d => (∃ i : Int, d = .int i ∧ i.natAbs < 10 ^ 12) ∨ ∃ xs, d = .tup xs ∧ xs.length ≤ 70 ∧ ∀ x, x ∈ xs → Wg n x
theorem Wg.int {i : Int} (h : i.natAbs < 10 ^ 12) : ∀ n, Wg n (.int i)
  | 0 => ⟨i, rfl, h⟩
  | _ + 1 => .inl ⟨i, rfl, h⟩
theorem Wg.up : ∀ {n : Nat} {d : D}, Wg n d → Wg (n + 1) d
  | 0, _, ⟨i, e, h⟩ => .inl ⟨i, e, h⟩
  | _ + 1, _, .inl h => .inl h
  | _ + 1, _, .inr ⟨xs, e, h, q⟩ => .inr ⟨xs, e, h, fun x hx => Wg.up (q x hx)⟩
end PF
set_option maxHeartbeats 1000000
namespace PF
open PySem PySem.Spec PyProof.Rows L2 DL FM
open FM
structure SwF (k w : Nat) (d : D) : Prop where
  ok : tupO d = true
  dep : d.pyF.depth ≤ k
  blk : d.pyF.bulk ≤ w
  sho : d.pyF.showable = true
  lea : d.pyF.leavesShort 40 = true
end PF
namespace PF
open PySem PySem.Spec PyProof.Rows L2 DL FM
set_option maxHeartbeats 1000000
def inR (n : Nat) : D → Bool
  | .int i => decide (0 ≤ i) && decide (i < n)
  | _ => false
def nts (xs : List D) : List Nat := xs.map fun x => match x with
  | .int i => i.toNat
  | _ => 0
def mkO (n q : Nat) (ks : List Nat) : Bool := decide (ks.Pairwise (· < ·)) && ks.all fun i => decide (i * q % n ∈ ks)
def mkB (n q : Nat) : D → Bool
  | .tup xs => xs.all (inR n) && mkO n q (nts xs)
  | _ => false
noncomputable def rdN (p m top a : Nat) : Nat := Classical.epsilon fun n => FM.Rd p m top a n
theorem rdN_eq {p m top a n : Nat} (h : FM.Rd p m top a n) : rdN p m top a = n := (Classical.epsilon_spec (p := fun n => FM.Rd p m top a n) ⟨n, h⟩).uniq h
noncomputable def whlB : D → Bool
  | .tup [f, .int few, .int root, mk] => match f with
    | .tup [.int p, .int m, .int top] => fieldB p m top && (decide (1 ≤ few) && decide (m % few = 0)) && (decide (1 ≤ root) && decide (root < ((p.toNat ^ m.toNat : Nat) : Int))) && mkB (rdN p.toNat m.toNat top.toNat root.toNat) (p.toNat ^ few.toNat) mk
    | _ => false
  | _ => false
theorem pms_prime {p m : Nat} (h : (p, m) ∈ pms) : primeB p = true ∧ p < 64 ∧ m < 7 := by
  have : pms.all (fun x => primeB x.1 && decide (x.1 < 64) && decide (x.2 < 7)) = true := by decide +kernel
  have q := List.all_eq_true.mp this _ h
  simp only [Bool.and_eq_true, decide_eq_true_eq] at q
  exact ⟨q.1.1, q.1.2, q.2⟩
theorem plain_good : [2, 3, 5, 7, 11, 13, 17, 19, 23, 29, 31, 37, 41, 43, 47, 53, 59, 61].all (fun p => (List.range p).all fun a => (List.range p).all fun b => decide (a = 0) || decide (b = 0) || !decide (a * b % p = 0)) = true := by decide +kernel
theorem pms_p {p m : Nat} (h : (p, m) ∈ pms) : p ∈ [2, 3, 5, 7, 11, 13, 17, 19, 23, 29, 31, 37, 41, 43, 47, 53, 59, 61] := by
  have : pms.all (fun x => decide (x.1 ∈ [2, 3, 5, 7, 11, 13, 17, 19, 23, 29, 31, 37, 41, 43, 47, 53, 59, 61])) = true := by decide +kernel
  exact of_decide_eq_true (List.all_eq_true.mp this _ h)
theorem mul_one_digit {p top a b : Nat} (hp : 0 < p) : mul p 1 top a b = (a * b) % p := by
  unfold mul
  show 0 + (pr 1 (vec p top) (vec p a) (vec p b) 0 % (p : Int)).toNat * p ^ 0 = _
  have e : pr 1 (vec p top) (vec p a) (vec p b) 0 = ((a % p * (b % p) : Nat) : Int) := by
    show (0 : Int) + (0 + vec p a 0 * vec p b 0 * (if (0 : Nat) = 0 then 1 else 0)) = _
    rw [if_pos rfl, vec0, vec0]; simp
  rw [e, ← Int.natCast_emod]
  show 0 + (a % p * (b % p) % p) * p ^ 0 = _
  rw [Nat.pow_zero, Nat.mul_one, Nat.zero_add, ← Nat.mul_mod]
theorem good_one {p m top : Nat} (h : (p, m) ∈ pms) : goodB p 1 top = true := by
  have hp := (pms_sz (pms_one h)).p0
  have q := List.all_eq_true.mp plain_good p (pms_p h)
  refine List.all_eq_true.mpr fun i hi => List.all_eq_true.mpr fun j hj => ?_
  have h1 := List.mem_range.mp hi
  have h2 := List.mem_range.mp hj
  rw [Nat.pow_one] at h1 h2
  have q2 := List.all_eq_true.mp (List.all_eq_true.mp q (1 + i) (List.mem_range.mpr (by omega))) (1 + j) (List.mem_range.mpr (by omega))
  rw [mul_one_digit hp]
  simp only [Bool.or_eq_true, decide_eq_true_eq, Bool.not_eq_true', decide_eq_false_iff_not] at q2
  refine decide_eq_true ?_
  rcases q2 with (q2 | q2) | q2
  · omega
  · omega
  · exact Nat.pos_of_ne_zero q2
theorem Fl.goodB {p m top : Nat} (f : Fl p m top) : PF.goodB p m top = true := by
  rcases f.good with e | e
  · subst e; exact good_one f.pm
  · exact e
theorem Fl.isF {p m top : Nat} (f : Fl p m top) : isFieldD (fld p m top) = true := by
  show fieldB (p : Int) (m : Int) (top : Int) = true
  obtain ⟨h1, h2, h3⟩ := pms_prime f.pm
  have s := f.sz
  have s2 := s.p2
  have s1 := s.m1
  have sf := s.few
  have st := f.tp
  unfold fieldB
  rw [Int.toNat_natCast, Int.toNat_natCast, Int.toNat_natCast, decide_eq_true (show (1 : Int) < (p : Int) by omega), decide_eq_true (show (p : Int) < 64 by omega), h1, decide_eq_true (show (0 : Int) < (m : Int) by omega), decide_eq_true (show (m : Int) < 7 by omega), decide_eq_true sf, decide_eq_true (show (0 : Int) ≤ (top : Int) by omega), decide_eq_true (show (top : Int) < ((p ^ m : Nat) : Int) by omega), Fl.goodB f]
  rfl
end PF
namespace DL
open PySem PySem.Spec PyProof.Rows L2
section
variable {X : Cx} {mg : Gm} {W W' : Wd} {H H' : Hp} {v x y : V}
end
end DL
namespace DL
open PySem PySem.Spec PyProof.Rows L2
variable {X : Cx} {C : Addr} {j : Nat} {Φ : L2.St → Prop}
end DL
namespace DL
open PySem PySem.Spec PyProof.Rows L2
section
variable {mg : Gm} {W0 W W1 : Wd} {H0 H H1 : Hp} {σ : L2.St} {ρ ρ1 : Rh} {v : V} {d : D} {j k : Nat} {a : Addr} {xs : List D}
end
section
variable {X : Cx} {j k : Nat}
end
end DL
namespace DL
open PySem PySem.Spec PyProof.Rows L2
abbrev Fs := List (Str × D)
abbrev DYE := Rh → Fs → (D → Fs → Prop) → Prop
abbrev DYT := Rh → Fs → (Bool → Fs → Prop) → Prop
def SYE (mg : Gm) (j : Nat) (c g : Str) (t' : TE) (t : DYE) : Prop := ∀ W0 H0 W H σ ρ x l fs P Q, NOk mg W0 H0 W H σ ρ j x l c g fs → t ρ fs P →
  (∀ W' H' v d fs', Wle W W' → NOk mg W0 H0 W' H' σ ρ j x l c g fs' → Rel mg W' v d → evenD d = true → P d fs' → Q v H') → t' σ H Q
def SYT (mg : Gm) (j : Nat) (c g : Str) (t' : TT) (t : DYT) : Prop := ∀ W0 H0 W H σ ρ x l fs P Q, NOk mg W0 H0 W H σ ρ j x l c g fs → t ρ fs P →
  (∀ W' H' b fs', Wle W W' → NOk mg W0 H0 W' H' σ ρ j x l c g fs' → P b fs' → Q b H') → t' σ H Q
structure YE (X : Cx) (j : Nat) (c g : Str) (e : Expr) (t' : TE) (t : DYE) : Prop where
  p : PE X e t'
  s : SYE (gm X) j c g t' t
structure YT (X : Cx) (j : Nat) (c g : Str) (e : Expr) (t' : TT) (t : DYT) : Prop where
  p : PT X e t'
  s : SYT (gm X) j c g t' t
structure YW (X : Cx) (j : Nat) (c g : Str) (e : Expr) (t' : TT) (t : DYT) : Prop where
  p : PW X e t'
  s : SYT (gm X) j c g t' t
section
variable {mg : Gm} {W0 W W1 : Wd} {H0 H H1 : Hp} {σ : L2.St} {ρ ρ1 : Rh} {v : V} {d : D} {j : Nat} {x l : Addr} {c g m : Str} {fs fs' : Fs} {S : DSj}
end
section
variable {X : Cx} {j : Nat} {c g m : Str} {a b e o : Expr} {es rest : List Expr} {pos apos cpos p p1 : Pos} {ta' tb' te' : TE} {ta tb te : DYE} {t' u' : TT} {t u : DYT} {S : DSj} {f C : Addr} {fd : FuncData} {ps : List Str} {k : Nat} {gg : Gm} {pl : Sem Bool}
end
end DL
namespace DL
open PySem PySem.Spec PyProof.Rows L2
section
variable {mg : Gm} {W0 W W1 : Wd} {H0 H H1 : Hp} {σ : L2.St} {ρ ρ1 : Rh} {v : V} {d : D} {j : Nat} {x l : Addr} {c g m : Str} {fs fs' : Fs} {S : DSj}
theorem NOk.own {i : Nat} {xs ys : List D} {a : Addr} {us : List V} (N : NOk mg W0 H0 W H σ ρ j x l c g fs) (h1 : ρ[i]? = some (some (.ow xs))) (h2 : σ[i]? = some (some (.ref a))) (hr : RelL mg W us ys) : NOk mg W0 H0 W (upd H a (.lst us)) σ (ρ.set i (some (.ow ys))) j x l c g fs := by
  have nj : i ≠ j := fun e => by rw [e, N.rj] at h1; cases h1
  have nx : a ≠ x := fun e => N.nax i xs h1 (by rw [h2, e])
  have nl : a ≠ l := fun e => N.nal i xs h1 (by rw [h2, e])
  obtain ⟨C, dx, kvs, us2, xs2, ob⟩ := N.ob
  refine ⟨N.env.store_own h1 h2 hr, by rw [List.getElem?_set_ne nj]; exact N.rj, N.sj, ⟨C, dx, kvs, us2, xs2, by rw [upd_ne (Ne.symm nx)]; exact ob.hx, by rw [upd_ne (Ne.symm nl)]; exact ob.hl, ob.fx, ob.fl, ob.px, ob.pl, ob.rel, ob.els, ob.cls⟩, N.h0x, N.h0l, fun k zs q s => ?_⟩
  rcases get_set q with ⟨e, _, _⟩ | ⟨e, q⟩
  · subst e
    rw [h2] at s
    cases s
    exact nl rfl
  · exact N.nal k zs q s
end
section
variable {X : Cx} {j : Nat} {c g m : Str} {st : Stmt} {a b : List Stmt} {e : Expr} {t' u' : TS} {t u : JTS} {te' : TE} {pos pos' p1 apos cpos : Pos} {y : Str}
end
end DL
namespace DL
open PySem PySem.Spec PyProof.Rows L2
section
variable {mg : Gm} {j i : Nat} {c g : Str} {C : Addr} {S : List D → (Fs → Prop) → Prop} {ta' : TA} {ta : DTA} {te' : TE} {te : DTE} {tr' : TS} {tr : JTS}
end
section
variable {X : Cx} {c g n y z : Str} {i j k : Nat} {f C : Addr} {fd : FuncData} {ps : List Str} {p pos spos px py pt pt2 lp : Pos} {kt k2 lk : Nat} {S : List D → (Fs → Prop) → Prop} {gg : Gm} {e a : Expr} {es : List Expr} {t' : TA} {t : DTA} {te' : TE} {te : DTE} {rest : List Stmt} {tr' : TS} {tr : JTS}
end
end DL
namespace DL
open PySem PySem.Spec PyProof.Rows L2
section
variable {X : Cx} {j : Nat} {c g : Str} {e : Expr} {body : List Stmt} {pos spos p : Pos} {tb' : TS} {tb : JTS}
end
end DL
namespace DL
open PySem PySem.Spec PyProof.Rows L2
end DL
namespace DL
open PySem PySem.Spec PyProof.Rows L2
abbrev DRx := (Rh → Prop) → Rh → Prop
structure GE (X : Cx) (C : Value) (e : Expr) (te : WX → TE) (t : DRx) : Prop where
  p : ∀ W : WX, Takes X W → PE X e (te W)
  s : ∀ W0 H0 W H σ ρ (Q : VK) (Wx : WX) (Z : Rh → Prop), EnvOk (gm X) W0 H0 W H σ ρ → t Z ρ → (∀ W' H' ρ', Wle W W' → EnvOk (gm X) W0 H0 W' H' σ ρ' → Z ρ' → Wx C none σ H') → te Wx σ H Q
structure GA (X : Cx) (C : Value) (es : List Expr) (te : WX → TA) (t : DRx) : Prop where
  p : ∀ W : WX, Takes X W → PA X es (te W)
  s : ∀ W0 H0 W H σ ρ (Q : List V → Hp → Prop) (Wx : WX) (Z : Rh → Prop), EnvOk (gm X) W0 H0 W H σ ρ → t Z ρ → (∀ W' H' ρ', Wle W W' → EnvOk (gm X) W0 H0 W' H' σ ρ' → Z ρ' → Wx C none σ H') → te Wx σ H Q
structure GX (X : Cx) (C : Value) (sts : List Stmt) (tb : WX → TS) (t : DRx) : Prop where
  p : ∀ W : WX, Takes X W → PSs X sts (tb W)
  s : ∀ W0 H0 W H σ ρ D (Wx : WX) (Z : Rh → Prop), EnvOk (gm X) W0 H0 W H σ ρ → t Z ρ → (∀ W' H' σ' ρ', Wle W W' → EnvOk (gm X) W0 H0 W' H' σ' ρ' → Z ρ' → Wx C none σ' H') → tb Wx D σ H
section
variable {X : Cx} {CX : CXT} {k : Nat} {f C : Addr} {fd : FuncData} {ps : List Str} {sp : Sp} {E : L2.St → XK} {x m : Str} {p pos apos : Pos} {e o : Expr} {es : List Expr} {ta : TE} {t : TA}
end
section
variable {X : Cx} {Ce : Value} {k : Nat} {f C : Addr} {fd : FuncData} {ps : List Str} {S : List D → Prop} {sp : Sp} {x c m : Str} {p cp pos apos : Pos} {e o : Expr} {es : List Expr} {t' : TA} {t : DTA} {te' : TE} {te : DTE} {ta' : WX → TA} {u v : DRx} {gg : Gm} {pl : Sem Bool}
end
section
variable {X : Cx} {Ce : Value} {e c : Expr} {st : Stmt} {sts rest a b : List Stmt} {pos pos' : Pos} {te : WX → TE} {ta tb : WX → TS} {u v : DRx} {a' : TS} {d : DTS} {tc' : TT} {tc : DTT}
end
end DL
namespace DL
open PySem PySem.Spec PyProof.Rows L2
section
variable {mg : Gm} {W0 W W1 : Wd} {H0 H H1 : Hp} {σ : L2.St} {ρ ρ1 : Rh} {v : V} {d : D} {j : Nat} {x l : Addr} {c g : Str} {fs fs' : Fs}
end
section
variable {P : Program} {w : World} {K : PySem.W.Frag} {mg : Str → Option Value} {base : Heap}
end
section
variable {X : Cx} {j : Nat} {c g : Str} {e o : Expr} {es : List Expr} {body : List Stmt} {pos spos p : Pos} {te' : TE} {te : DTE} {S : DSj} {f : Addr} {fd : FuncData} {ps : List Str} {k : Nat} {gg : Gm}
end
end DL
namespace DL
open PySem PySem.Spec PyProof.Rows L2
end DL
namespace DL
open PySem PySem.Spec PyProof.Rows L2
section
variable {mg : Gm} {j i : Nat} {c g : Str} {C : Addr} {S : List D → (Fs → Prop) → Prop} {ta' : TA} {ta : DTA} {te' : TE} {te : DTE} {tr' : TS} {tr : JTS}
end
section
variable {X : Cx} {c g n y z : Str} {i j k : Nat} {f C : Addr} {fd : FuncData} {ps : List Str} {p pos spos px py pt pt2 lp : Pos} {kt k2 lk : Nat} {S : List D → (Fs → Prop) → Prop} {gg : Gm} {e a : Expr} {es : List Expr} {t' : TA} {t : DTA} {te' : TE} {te : DTE} {rest : List Stmt} {tr' : TS} {tr : JTS}
end
end DL
namespace DL
open PySem PySem.Spec PyProof.Rows L2
section
variable {mg : Gm} {W0 W W1 : Wd} {H0 H H1 : Hp} {σ : L2.St} {ρ ρ1 : Rh} {v : V} {d : D} {j : Nat} {x l : Addr} {c g : Str} {fs fs' : Fs}
theorem NOk.stp (N : NOk mg W0 H0 W H σ ρ j x l c g fs) (I : EnvOk mg W0 H0 W1 H1 σ ρ) (e : Stp σ ρ W H ρ W1 H1) : NOk mg W0 H0 W1 H1 σ ρ j x l c g fs := by
  obtain ⟨C, dx, kvs, us, xs, ob⟩ := N.ob
  refine ⟨I, N.rj, N.sj, ⟨C, dx, kvs, us, xs, e.keep _ _ ob.hx ob.px, e.keep _ _ ob.hl ob.pl, ?_, ?_, e.notP ob.hx ob.px, e.notP ob.hl ob.pl, ob.rel.mono e.le, ob.els.mono e.le, ob.cls⟩, N.h0x, N.h0l, N.nal⟩
  · cases q : W1.F x with
    | none => rfl
    | some u =>
      rcases e.new x u q ob.fx with z | ⟨i, ys, z1, z2⟩
      · rw [ob.hx] at z; cases z
      · exact absurd z2 (N.nax i ys z1)
  · cases q : W1.F l with
    | none => rfl
    | some u =>
      rcases e.new l u q ob.fl with z | ⟨i, ys, z1, z2⟩
      · rw [ob.hl] at z; cases z
      · exact absurd z2 (N.nal i ys z1)
end
section
variable {X : Cx} {c g m : Str} {i j k : Nat} {f : Addr} {fd : FuncData} {ps : List Str} {p pos apos spos : Pos} {S : DSj} {gg : Gm} {e o : Expr} {es : List Expr} {te' : TE}
end
end DL
namespace DL
open PySem PySem.Spec PyProof.Rows L2
section
variable {mg : Gm} {K : PySem.W.Frag} {j i : Nat} {c g : Str} {C : Addr} {S : List D → (Fs → Prop) → Prop} {ta' : TA} {ta : DTA} {te' : TE} {te : DTE} {tr' : TS} {tr : JTS}
end
section
variable {X : Cx} {c g n y z : Str} {i j k : Nat} {f C : Addr} {fd : FuncData} {ps : List Str} {p pos spos px py pt pt2 lp : Pos} {kt k2 lk : Nat} {S : List D → (Fs → Prop) → Prop} {gg : Gm} {e a : Expr} {es : List Expr} {t' : TA} {t : DTA} {te' : TE} {te : DTE} {rest : List Stmt} {tr' : TS} {tr : JTS}
end
end DL
namespace DL
open PySem PySem.Spec PyProof.Rows L2
section
variable {X : Cx} {o e : Expr} {to te' : TE} {td te : DTE} {apos cpos : Pos}
end
end DL
namespace DL
open PySem PySem.Spec PyProof.Rows L2
abbrev DYA := Rh → Fs → (List D → Fs → Prop) → Prop
def SYZ (mg : Gm) (j : Nat) (c g : Str) (t' : TE) (t : DYE) : Prop := ∀ W0 H0 W H σ ρ x l fs P Q, NOk mg W0 H0 W H σ ρ j x l c g fs → t ρ fs P →
  (∀ W' H' v d fs', Wle W W' → NOk mg W0 H0 W' H' σ ρ j x l c g fs' → Rel mg W' v d → P d fs' → Q v H') → t' σ H Q
def SYA (mg : Gm) (j : Nat) (c g : Str) (t' : TA) (t : DYA) : Prop := ∀ W0 H0 W H σ ρ x l fs P Q, NOk mg W0 H0 W H σ ρ j x l c g fs → t ρ fs P →
  (∀ W' H' vs ds fs', Wle W W' → NOk mg W0 H0 W' H' σ ρ j x l c g fs' → RelL mg W' vs ds → P ds fs' → Q vs H') → t' σ H Q
structure YZ (X : Cx) (j : Nat) (c g : Str) (e : Expr) (t' : TE) (t : DYE) : Prop where
  p : PE X e t'
  s : SYZ (gm X) j c g t' t
structure YA (X : Cx) (j : Nat) (c g : Str) (es : List Expr) (t' : TA) (t : DYA) : Prop where
  p : PA X es t'
  s : SYA (gm X) j c g t' t
section
variable {mg : Gm} {W0 W W1 : Wd} {H0 H H1 : Hp} {σ : L2.St} {ρ ρ1 : Rh} {v : V} {d : D} {j : Nat} {x l : Addr} {c g m : Str} {fs fs' : Fs} {r : R}
theorem NOk.thing {W' : Wd} {H' : Hp} (N : NOk mg W0 H0 W H σ ρ j x l c g fs) (w : WOk W' H') (e : Ext W H W' H') (f : RF mg H W' H' v r) : ∃ W2, Wle W W2 ∧ NOk mg W0 H0 W2 H' σ ρ j x l c g fs ∧ Rel mg W2 v r.d := by
  obtain ⟨W3, I3, u3, r3⟩ := (Ext.stp e).settle N.env (N.env.step e w) (f.rr N.env)
  have ef : frz r ρ = ρ := by
    cases r with
    | im d => rfl
    | fr xs => rfl
    | al i xs => exact f.elim
  rw [ef] at I3 u3
  exact ⟨W3, u3.le, N.stp I3 u3, r3⟩
end
section
variable {X : Cx} {j : Nat} {c g m : Str} {a b e o : Expr} {es rest : List Expr} {pos apos cpos p p1 spos : Pos} {ta' tb' te' : TE} {ta tb : DYE} {t' : TA} {t : DYA} {S : DSj} {f C : Addr} {fd : FuncData} {ps : List Str} {k : Nat} {gg : Gm} {y : Str}
end
end DL
namespace DL
open PySem PySem.Spec PyProof.Rows L2
section
variable {X : Cx} {C : Addr} {bm : List Value} {T i1 i2 : String}
end
structure GXN (X : Cx) (C : Value) (sts : List Stmt) (tb : WX → TS) (t : DRx) : Prop where
  p : ∀ W : WX, L2N.Takes X W → PSs X sts (tb W)
  s : ∀ W0 H0 W H σ ρ D (Wx : WX) (Z : Rh → Prop), EnvOk (gm X) W0 H0 W H σ ρ → t Z ρ → (∀ W' H' σ' ρ', Wle W W' → EnvOk (gm X) W0 H0 W' H' σ' ρ' → Z ρ' → Wx C none σ' H') → tb Wx D σ H
section
variable {X : Cx} {Ce : Value} {c e : Expr} {st : Stmt} {sts : List Stmt} {pos pos' : Pos} {tb : WX → TS} {u : DRx} {a' : TS} {d : DTS} {tc' : TT} {tc : DTT}
end
section
variable {X : Cx} {Ce : Value} {a b e : Expr} {es : List Expr} {pos : Pos} {ta' : TE} {ta : DTE} {tb : WX → TE} {tl : WX → TA} {u : DRx} {op : Operator} {r : R2} {o : D → D → (R → Prop) → Prop}
end
end DL
namespace DL
open PySem PySem.Spec PyProof.Rows L2
theorem RelH.exc {mg : Gm} {W : Wd} {H : Hp} {v : V} {c : Str} (h : RelH mg W H v (.exc c)) (w : WOk W H) : ∃ a C, v = .ref a ∧ mg.mg c = some (.ref C) ∧ H a = some (ExK (.ref C) a) := by
  rcases h with h | ⟨_, _, _, _, e, _⟩
  · cases h with
    | exc m h => exact ⟨_, _, rfl, m, w.sub _ _ h⟩
  · cases e
section
variable {X : Cx} {C : Addr}
def dIsX (c : Str) (b : Bool) (te : DTE) : DTE := fun ρ P => te ρ fun r ρ1 => r.d = .exc c ∧ P (.im (.bl b)) ρ1
theorem de_isX {e e2 : Expr} {te' : TE} {te : DTE} {c : Str} {v : V} {cv : Value} {b : Bool} {p2 pos : Pos} (Ec : ExcC X.K C) (hC : X.mg c = some (.ref C)) (he : DE X e te' te) (h2 : PE X e2 (tC v)) (hcv : ∀ u, RelV v u → u = cv)
    (hk : PySem.W.kitOne X.K (.ref C) cv = some b) (hg : Gl X "isinstance") (hm : X.mg "isinstance" = none)
    (h1 : starEach [e, e2] X.env = (false, eval e X.env) :: starEach [e2] X.env := by rfl) (h3 : starEach [e2] X.env = (false, eval e2 X.env) :: starEach [] X.env := by rfl) (hpl : (backTo pos (starEach [e2] X.env)).any (·.1) = false := by rfl) :
    DE X (.Call (.Name "isinstance" p2) [e, e2] [] pos) (tCB (rKI X.K C) (tCons te' (tCons (tC v) tNil))) (dIsX c b te) :=
  ⟨pe_callB (call_kI Ec) hg hm boot_isinstance (pa_cons he.p (pa_cons h2 pa_nil h3) h1) (by decide) (by decide) h1 hpl, fun W0 H0 W H σ ρ P Q I q k =>
    he.s W0 H0 W H σ ρ _ _ I q fun W1 H1 x r ρ1 I1 u1 R1 h1 => by
      obtain ⟨e, h1⟩ := h1
      have a := R1.relH I1
      rw [e] at a
      obtain ⟨ad, C', rfl, m, ha⟩ := a.exc I1.wok
      have ec : C' = C := by
        have z : some (Value.ref C') = some (Value.ref C) := m.symm.trans hC
        cases z; rfl
      subst ec
      exact ⟨ad, v, cv, b, rfl, ha, hcv, hk, k W1 H1 _ (.im _) ρ1 I1 u1 (Rel.bl _) h1⟩⟩
def dKpE (i j : Nat) (c : Str) (tb : (Rh → Prop) → Rh → Prop) (tr : DTS) : DTS := fun nx rt bk ct ρ => (i < ρ.length ∧ j < ρ.length) ∧ tb (fun ρ1 => tr nx rt bk ct (((ρ1.set i none).set j (some (.im (.exc c)))).set i none)) ρ
theorem dss_kpE {c : Addr} {cn x n y : Str} {i j : Nat} {body rest : List Stmt} {np pos pos' yp ep ap : Pos} {tb : WX → TS} {tbd : (Rh → Prop) → Rh → Prop} {tr : TS} {trd : DTS} (hs : X.stack = X.env :: X.outer) (hf : X.env.frame = some X.env.locals) (hex : X.ex = []) (hN : X.N.Nodup) (hi : X.N[i]? = some n) (hln : X.env.kindOf n = some .local) (hc : Names X x (.ref c))
    (hx : PySem.W.exmOne X.K (.ref C) (.ref c) = some true) (hC : X.mg cn = some (.ref C)) (hj : X.N[j]? = some y) (hy : Loc X.env.scope y) (hne : i ≠ j) (hb : DTb X (.ref C) body tb tbd) (hr : DSs X rest tr trd)
    (hd : (n == ("__debug__" : Str)) = false := by decide) (hcd : (n == ("__classdict__" : Str)) = false := by decide)
    (hsw : swapsWith (.Name n ep) (some (.Name y yp)) ap.line X.env = pure false := by rfl) (hfn : X.fn y = true ∨ X.env.scope.names.lookup y = some .local := by first | exact .inl rfl | exact .inr rfl | assumption) :
    DSs X (.Try body [.ExceptHandler (some (.Name x np)) (some n) [.Assign [.Name y yp] (.Name n ep) ap] pos'] [] [] pos :: rest)
      (tSeq (fun D σ H => tb (wKp X.K (.ref c) i (fun _ _ => tSeq (tAsg (tVar i) (gName j)) tNext) D) D σ H) tr) (dKpE i j cn tbd trd) where
  p := pss_cons (ps_try_kp hs hf hex hN hi hln hc hb.p fun a oe cls pn hz hv => pss_cons (ps_set (X := X.suite a ((a, oe) :: pn)) hN hj hy (pe_var (X := X.suite a ((a, oe) :: pn)) hi (.inl hln) hd hcd) hsw hfn) pss_nil) hr.p
  s := fun W0 H0 W H σ ρ P E I q k => hb.s W0 H0 W H σ ρ _ _ _ I q.2 fun W1 H1 ρ1 l1 I1 hz => ⟨hx, rfl, fun a ha => by
    have li : i < σ.length := by rw [I.len]; exact q.1.1
    have lj : j < σ.length := by rw [I.len]; exact q.1.2
    refine ⟨.ref a, List.getElem?_set_self li, fun _ => ?_⟩
    have I2 := I1.hide i (some (.ref a))
    have ex := add_ext I2.wok ha (ExK (.ref C) a)
    have I3 := ((I2.step ex (add_ok I2.wok ha (ExK (.ref C) a))).put_im j (Rel.exc hC upd_same)).hide i none
    exact hr.s W0 H0 _ _ _ _ P E I3 hz (k.le (l1.trans ex.le))⟩
end
end DL
namespace LW
open PySem PySem.Spec PyProof.Rows L2 DL
def top (i : Nat) : Stmt := PySem.Challenge.pw_roundwords_k05_rounds_and_roots.main.body.getD i (.Pass ⟨0, 0, 0, 0⟩)
abbrev FnQ (K : PySem.W.Frag) (x q : Str) (st : Stmt) (f : Addr) (fd : FuncData) : Prop := FunD K x q (defArgs st) (defBody st) (defScope st) [] [] f fd
abbrev FnP (K : PySem.W.Frag) (x : Str) (st : Stmt) (f : Addr) (fd : FuncData) : Prop := FunD K x x (defArgs st) (defBody st) (defScope st) [] [] f fd
open FM PF
set_option maxHeartbeats 1000000
theorem run_of {t : DTS} {P : R → Prop} {ρ : Rh} (h : t (fun _ => P (.im .non)) P (fun _ => False) (fun _ => False) ρ) : runD t P ρ := h
theorem seq_viaU {t u : DTS} {nx : Rh → Prop} {rt : R → Prop} {bk ct : Rh → Prop} {ρ : Rh} (Q : Rh → Prop) (h : ∀ U : DTS, (∀ ρ, Q ρ → U nx rt bk ct ρ) → t (fun ρ' => U nx rt bk ct ρ') rt bk ct ρ) (k : ∀ ρ, Q ρ → u nx rt bk ct ρ) : dSeq t u nx rt bk ct ρ := h u k
section
variable {p m top : Nat}
theorem rd_eq {a : Nat} (Fd : Fl p m top) (a1 : 1 ≤ a) (a2 : a < p ^ m) : ∃ n, Rd p m top a n ∧ n ∣ p ^ m - 1 ∧ rdN p m top a = n := by
  obtain ⟨g, l, _, T⟩ := fl_tb Fd
  obtain ⟨n, r, dv⟩ := T.round (Fd.sz.pm Fd.tp) a1 a2
  exact ⟨n, r, dv, rdN_eq r⟩
theorem rd_part {n : Nat} (Fd : Fl p m top) (n1 : 1 ≤ n) (d : n ∣ p ^ m - 1) : ∃ a, 1 ≤ a ∧ a < p ^ m ∧ rdN p m top a = n := by
  have F := Fd.sz.pm Fd.tp
  obtain ⟨g, l, _, T⟩ := fl_tb Fd
  have hs := T.size F
  obtain ⟨k, ek⟩ := d
  have k0 : 0 < k := by
    rcases Nat.eq_zero_or_pos k with z | z
    · rw [z, Nat.mul_zero] at ek; omega
    · exact z
  have r := (T.rd F).gp F (i := k)
  have e : (p ^ m - 1) / Nat.gcd (p ^ m - 1) k = n := by
    rw [ek, Nat.gcd_mul_left_left, Nat.mul_div_cancel _ k0]
  rw [e] at r
  exact ⟨gp p m top g k, T.gp_pos F k, gp_lt F k, rdN_eq r⟩
noncomputable def rds (p m top : Nat) : List Nat := (List.range (p ^ m - 1)).map fun k => rdN p m top (1 + k)
theorem rds_len : (rds p m top).length = p ^ m - 1 := by unfold rds; rw [List.length_map, List.length_range]
theorem rds_get {k : Nat} (h : k < p ^ m - 1) : (rds p m top)[k]? = some (rdN p m top (1 + k)) := by
  unfold rds
  rw [List.getElem?_map, List.getElem?_range h]; rfl
theorem rds_pos {a : Nat} (Fd : Fl p m top) (h : a ∈ rds p m top) : 1 ≤ a ∧ a ∣ p ^ m - 1 := by
  obtain ⟨k, hk, rfl⟩ := List.mem_map.mp h
  have hk := List.mem_range.mp hk
  obtain ⟨n, r, dv, e⟩ := rd_eq Fd (show 1 ≤ 1 + k by omega) (by omega)
  rw [e]; exact ⟨r.n1, dv⟩
theorem rds_all {n : Nat} (Fd : Fl p m top) (n1 : 1 ≤ n) (d : n ∣ p ^ m - 1) : n ∈ rds p m top := by
  obtain ⟨a, a1, a2, e⟩ := rd_part Fd n1 d
  rw [← e]
  exact List.mem_map.mpr ⟨a - 1, List.mem_range.mpr (by omega), by rw [show 1 + (a - 1) = a by omega]⟩
theorem first_of {l : List Nat} {n : Nat} (h : n ∈ l) : ∃ i : Nat, l[i]? = some n ∧ ∀ j, j < i → l[j]? ≠ some n := by
  induction l with
  | nil => cases h
  | cons x l ih =>
    by_cases e : x = n
    · exact ⟨0, by rw [e]; rfl, fun j hj => by omega⟩
    · obtain ⟨i, h1, h2⟩ := ih ((List.mem_cons.mp h).resolve_left (Ne.symm e))
      refine ⟨i + 1, h1, fun j hj => ?_⟩
      cases j with
      | zero => exact fun z => e (Option.some.inj z)
      | succ j => exact h2 j (by omega)
theorem filt_first {q : Nat → Bool} : ∀ (N i s : Nat), i < N → q (s + i) = true → (∀ j, j < i → q (s + j) = false) → ((List.range' s N).filter q)[0]? = some (s + i)
  | 0, i, s, h, _, _ => absurd h (Nat.not_lt_zero _)
  | N + 1, 0, s, _, h, _ => by
    rw [List.range'_succ, List.filter_cons_of_pos (by rwa [Nat.add_zero] at h)]; rfl
  | N + 1, i + 1, s, hi, h, b => by
    have b0 := b 0 (Nat.succ_pos i)
    rw [Nat.add_zero] at b0
    rw [List.range'_succ, List.filter_cons_of_neg (by rw [b0]; exact Bool.false_ne_true)]
    have e := filt_first N i (s + 1) (by omega) (by rw [show s + 1 + i = s + (i + 1) by omega]; exact h) fun j hj => by
      rw [show s + 1 + j = s + (j + 1) by omega]; exact b (j + 1) (by omega)
    rw [e, show s + 1 + i = s + (i + 1) by omega]
end
abbrev s_raised : Stmt := top 9
abbrev sp_raised := PF.sp_raised
abbrev t_raised := PF.t_raised
theorem pure_raised (ds : List D) (P : R → Prop) (h : sp_raised ds P) : runD t_raised P (startD ["one", "many", "found", "turn"] ds) := toN (PF.pure_raised ds P h)
theorem len_raised {ds P} (h : sp_raised ds P) : ds.length = 2 := PF.len_raised h
abbrev s_common_part : Stmt := top 10
abbrev sp_common_part := PF.sp_common_part
abbrev t_common_part := PF.t_common_part
theorem pure_common_part (ds : List D) (P : R → Prop) (h : sp_common_part ds P) : runD t_common_part P (startD ["one", "other"] ds) := toN (PF.pure_common_part ds P h)
theorem len_common_part {ds P} (h : sp_common_part ds P) : ds.length = 2 := PF.len_common_part h
abbrev s_put_together : Stmt := top 11
abbrev sp_put_together := PF.sp_put_together
abbrev t_put_together := PF.t_put_together
theorem pure_put_together (ds : List D) (P : R → Prop) (h : sp_put_together ds P) : runD t_put_together P (startD ["p", "one", "other", "found", "place"] ds) := toN (PF.pure_put_together ds P h)
theorem len_put_together {ds P} (h : sp_put_together ds P) : ds.length = 3 := PF.len_put_together h
abbrev s_so_many : Stmt := top 12
abbrev sp_so_many := PF.sp_so_many
abbrev t_so_many := PF.t_so_many
theorem pure_so_many (ds : List D) (P : R → Prop) (h : sp_so_many ds P) : runD t_so_many P (startD ["p", "digit", "thing", "found", "turn"] ds) := toN (PF.pure_so_many ds P h)
theorem len_so_many {ds P} (h : sp_so_many ds P) : ds.length = 3 := PF.len_so_many h
abbrev s_lifted : Stmt := top 13
abbrev sp_lifted := PF.sp_lifted
abbrev t_lifted := PF.t_lifted
theorem pure_lifted (ds : List D) (P : R → Prop) (h : sp_lifted ds P) : runD t_lifted P (startD ["field", "thing", "p", "m", "top", "high"] ds) := toN (PF.pure_lifted ds P h)
theorem len_lifted {ds P} (h : sp_lifted ds P) : ds.length = 2 := PF.len_lifted h
abbrev s_plain_times : Stmt := top 14
abbrev sp_plain_times := PF.sp_plain_times
abbrev t_plain_times := PF.t_plain_times
theorem pure_plain_times (ds : List D) (P : R → Prop) (h : sp_plain_times ds P) : runD t_plain_times P (startD ["field", "one", "other", "found"] ds) := toN (PF.pure_plain_times ds P h)
theorem len_plain_times {ds P} (h : sp_plain_times ds P) : ds.length = 3 := PF.len_plain_times h
abbrev s_many_things : Stmt := top 15
abbrev sp_many_things := PF.sp_many_things
abbrev t_many_things := PF.t_many_things
theorem pure_many_things (ds : List D) (P : R → Prop) (h : sp_many_things ds P) : runD t_many_things P (startD ["field"] ds) := toN (PF.pure_many_things ds P h)
theorem len_many_things {ds P} (h : sp_many_things ds P) : ds.length = 1 := PF.len_many_things h
abbrev s_Table__powers_of : Stmt := (cbody (top 16)).getD 1 (.Pass ⟨0, 0, 0, 0⟩)
abbrev sp_Table__powers_of := PF.sp_Table__powers_of
abbrev t_Table__powers_of := PF.t_Table__powers_of
theorem pure_Table__powers_of (ds : List D) (P : R → Prop) (h : sp_Table__powers_of ds P) : runD t_Table__powers_of P (startD ["self", "maker", "found", "thing"] ds) := toN (PF.pure_Table__powers_of ds P h)
theorem len_Table__powers_of {ds P} (h : sp_Table__powers_of ds P) : ds.length = 2 := PF.len_Table__powers_of h
abbrev s_Table____init__ : Stmt := (cbody (top 16)).getD 0 (.Pass ⟨0, 0, 0, 0⟩)
abbrev sp_Table____init__ := PF.sp_Table____init__
abbrev t_Table____init__ := PF.t_Table____init__
theorem pure_Table____init__ (ds : List D) (P : R → Prop) (h : sp_Table____init__ ds P) : t_Table____init__ (fun ρ fs => P (.im (.obj "Table" fs))) (startI ["self", "field", "maker", "at", "thing"] ds) [] := PF.pure_Table____init__ ds P h
theorem len_Table____init__ {ds P} (h : sp_Table____init__ ds P) : ds.length = 1 := PF.len_Table____init__ h
abbrev s_Table__round_of : Stmt := (cbody (top 16)).getD 7 (.Pass ⟨0, 0, 0, 0⟩)
abbrev sp_Table__round_of := PF.sp_Table__round_of
abbrev t_Table__round_of := PF.t_Table__round_of
theorem pure_Table__round_of (ds : List D) (P : R → Prop) (h : sp_Table__round_of ds P) : runD t_Table__round_of P (startD ["self", "one"] ds) := toN (PF.pure_Table__round_of ds P h)
theorem len_Table__round_of {ds P} (h : sp_Table__round_of ds P) : ds.length = 2 := PF.len_Table__round_of h
abbrev s_table_of : Stmt := top 17
abbrev sp_table_of := PF.sp_table_of
abbrev t_table_of := PF.t_table_of
theorem pure_table_of (ds : List D) (P : R → Prop) (h : sp_table_of ds P) : runD t_table_of P (startD ["field"] ds) := toN (PF.pure_table_of ds P h)
theorem len_table_of {ds P} (h : sp_table_of ds P) : ds.length = 1 := PF.len_table_of h
abbrev s_round_of : Stmt := top 18
abbrev sp_round_of := PF.sp_round_of
abbrev t_round_of := PF.t_round_of
theorem pure_round_of (ds : List D) (P : R → Prop) (h : sp_round_of ds P) : runD t_round_of P (startD ["field", "one"] ds) := toN (PF.pure_round_of ds P h)
theorem len_round_of {ds P} (h : sp_round_of ds P) : ds.length = 2 := PF.len_round_of h
abbrev s_root_of : Stmt := top 19
def sp_root_of : DSp := fun ds P => ∃ (p m top n i : Nat), ds = [fld p m top, .int (n : Nat)] ∧ Fl p m top ∧ 1 ≤ n ∧ n ∣ p ^ m - 1 ∧ i < p ^ m - 1 ∧ rdN p m top (1 + i) = n ∧ (∀ j, j < i → rdN p m top (1 + j) ≠ n) ∧ P (.im (.int ((1 + i : Nat) : Int)))
theorem len_root_of {ds P} (h : sp_root_of ds P) : ds.length = 2 := by obtain ⟨_, _, _, _, _, rfl, _⟩ := h; rfl
def t_root_of : DTS := (dSeq (dAsg (dCall sp_table_of (dCons (dVar 0) dNil)) (gNm 2))
    (dSeq (dIf (dTest (dOp (oGt) (dOp oMod (dFld "Table" "size" (dVar 2)) (dVar 1)) (dC (.int 0)))) dNever dNext)
    (dRet (dOp oIx (dLc (dRng2 (dConsH (dC (.int 1)) (dConsH (dFld "Table" "many" (dVar 2)) dNil))) (gNm 3) (dTest (dOp (oEq) (dMeth "Table" "round_of" sp_Table__round_of (dVar 2) (dCons (dVar 3) dNil)) (dVar 1))) (dVar 3) [3]) (dC (.int 0))))))
theorem pure_root_of (ds : List D) (P : R → Prop) (h : sp_root_of ds P) : runD t_root_of P (startD ["field", "n", "table", "one"] ds) := by
  obtain ⟨p, m, top, n, i, rfl, Fd, n1, dv, hi, ei, hj, h⟩ := h
  have hN := Fd.sz.few
  refine ⟨p, m, top, rfl, Fd, fun g l T => ?_⟩
  refine ckN [some (.im (fld p m top)), some (.im (.int n)), some (.im (tabD p m top l)), none] ?_
  have F := T.pm
  have hs := T.tb.size F
  have e1 : ((p ^ m : Nat) : Int) - 1 = ((p ^ m - 1 : Nat) : Int) := by omega
  refine seq_via (fun ρ => ρ = [some (.im (fld p m top)), some (.im (.int n)), some (.im (tabD p m top l)), none]) (fun key => ⟨rfl, _, rfl, by show (0 : Int) < (n : Int); omega, fun h1 => ?_, fun _ => key _ rfl⟩) ?_
  · have h2 : (((p ^ m : Nat) : Int) - 1) % (n : Int) > 0 := of_decide_eq_true h1
    rw [e1, ← Int.natCast_emod, Nat.mod_eq_zero_of_dvd dv] at h2
    exact absurd h2 (by decide)
  rintro _ rfl
  refine ⟨rfl, _, rfl, ⟨by decide, by decide⟩, ⟨by show -(2 ^ 62) ≤ ((p ^ m : Nat) : Int); omega, by show ((p ^ m : Nat) : Int) < 2 ^ 62; omega⟩, noOwn_one rfl rfl, lc_sel (lo := 1) (fun k => decide (rdN p m top (1 + k) = n)) (by show Int.toNat (((p ^ m : Nat) : Int) - 1) ≤ _; omega) (fun k hk C hC => ?_) ?_⟩
  · obtain ⟨a, ea⟩ : ∃ a : Nat, (((1 : Nat) : Int) + (k : Int)) = a := ⟨1 + k, by omega⟩
    have ea2 : 1 + k = a := by omega
    rw [ea2] at hC
    have hk2 : k < Int.toNat (((p ^ m : Nat) : Int) - 1) := hk
    refine ⟨rfl, rfl, p, m, top, g, l, a, congrArg (fun z => [tabD p m top l, D.int z]) ea, T, by omega, by omega, fun n2 r2 dv2 => ⟨fun h1 => ⟨rfl, ?_⟩, fun h1 => ⟨rfl, ?_⟩⟩⟩
    · have h2 : (n2 : Int) = (n : Int) := of_decide_eq_true h1
      rw [if_pos (decide_eq_true (by rw [rdN_eq r2]; omega))] at hC
      show C (some (.int (((1 : Nat) : Int) + (k : Int))))
      rw [ea]; exact hC
    · have h2 : ¬ (n2 : Int) = (n : Int) := of_decide_eq_false h1
      rw [decide_eq_false (by rw [rdN_eq r2]; omega), if_neg Bool.false_ne_true] at hC
      exact hC
  have eN : Int.toNat (((p ^ m : Nat) : Int) - 1) = p ^ m - 1 := by omega
  have ef : ((((List.range (p ^ m - 1)).filter fun k => decide (rdN p m top (1 + k) = n)).map (1 + ·)))[0]? = some (1 + i) := by
    have q := filt_first (q := fun k => decide (rdN p m top (1 + k) = n)) (p ^ m - 1) i 0 hi (by rw [Nat.zero_add]; exact decide_eq_true ei) fun j hj2 => by rw [Nat.zero_add]; exact decide_eq_false (hj j hj2)
    rw [← List.range_eq_range', Nat.zero_add] at q
    rw [List.getElem?_map, q]; rfl
  exact ⟨_, atI_nat (j := 0) (thD_get (by rw [← eN] at ef; exact ef)), h⟩
def spR_root_of : List D → Prop := fun ds => ∃ (p m top n : Nat), ds = [fld p m top, .int (n : Nat)] ∧ Fl p m top ∧ 1 ≤ n ∧ ¬ n ∣ p ^ m - 1
theorem lenR_root_of {ds} (h : spR_root_of ds) : ds.length = 2 := by obtain ⟨_, _, _, _, rfl, _⟩ := h; rfl
def tR_root_of : Rh → Prop := (dThen (dAsg (dCall sp_table_of (dCons (dVar 0) dNil)) (gNm 2))
    (dWhen (dTest (dOp (oGt) (dOp oMod (dFld "Table" "size" (dVar 2)) (dVar 1)) (dC (.int 0))))))
theorem pureR_root_of (ds : List D) (h : spR_root_of ds) : tR_root_of (startD ["field", "n", "table", "one"] ds) := by
  obtain ⟨p, m, top, n, rfl, Fd, n1, nd⟩ := h
  refine ⟨p, m, top, rfl, Fd, fun g l T => ?_⟩
  have F := T.pm
  have hs := T.tb.size F
  have e1 : ((p ^ m : Nat) : Int) - 1 = ((p ^ m - 1 : Nat) : Int) := by omega
  refine ⟨rfl, _, rfl, by show (0 : Int) < (n : Int); omega, ?_⟩
  refine decide_eq_true ?_
  show (((p ^ m : Nat) : Int) - 1) % (n : Int) > 0
  rw [e1, ← Int.natCast_emod]
  have : (p ^ m - 1) % n ≠ 0 := fun z => nd (Nat.dvd_of_mod_eq_zero z)
  omega
abbrev s__law_purse : Stmt := top 21
abbrev s__law_pick : Stmt := top 22
abbrev s__law_raised : Stmt := top 23
abbrev sp__law_raised := PF.sp__law_raised
abbrev t__law_raised := PF.t__law_raised
theorem pure__law_raised (ds : List D) (P : R → Prop) (h : sp__law_raised ds P) : runD t__law_raised P (startD ["_law_one", "_law_many", "_law_found", "_law_turn"] ds) := toN (PF.pure__law_raised ds P h)
theorem len__law_raised {ds P} (h : sp__law_raised ds P) : ds.length = 2 := PF.len__law_raised h
abbrev s__law_digits : Stmt := top 24
abbrev sp__law_digits := PF.sp__law_digits
abbrev t__law_digits := PF.t__law_digits
theorem pure__law_digits (ds : List D) (P : R → Prop) (h : sp__law_digits ds P) : runD t__law_digits P (startD ["_law_field_here", "_law_thing", "_law_found", "_law_k"] ds) := toN (PF.pure__law_digits ds P h)
theorem len__law_digits {ds P} (h : sp__law_digits ds P) : ds.length = 2 := PF.len__law_digits h
abbrev s__law_number : Stmt := top 25
abbrev sp__law_number := PF.sp__law_number
abbrev t__law_number := PF.t__law_number
theorem pure__law_number (ds : List D) (P : R → Prop) (h : sp__law_number ds P) : runD t__law_number P (startD ["_law_field_here", "_law_digits_here", "_law_found", "_law_digit"] ds) := toN (PF.pure__law_number ds P h)
theorem len__law_number {ds P} (h : sp__law_number ds P) : ds.length = 2 := PF.len__law_number h
abbrev s__law_product : Stmt := top 26
abbrev sp__law_product := PF.sp__law_product
abbrev t__law_product := PF.t__law_product
theorem pure__law_product (ds : List D) (P : R → Prop) (h : sp__law_product ds P) : runD t__law_product P (startD ["_law_field_here", "_law_one", "_law_other", "_law_p", "_law_m", "_law_top", "_law_row", "_law_j", "_law_digit", "_law_k", "_law_by", "_law_place", "_law_at"] ds) := toN (PF.pure__law_product ds P h)
theorem len__law_product {ds P} (h : sp__law_product ds P) : ds.length = 3 := PF.len__law_product h
abbrev s__law_is_good : Stmt := top 27
abbrev sp__law_is_good := PF.sp__law_is_good
abbrev t__law_is_good := PF.t__law_is_good
theorem pure__law_is_good (ds : List D) (P : R → Prop) (h : sp__law_is_good ds P) : runD t__law_is_good P (startD ["_law_field_here", "_law_p", "_law_m", "_law_top", "_law_many", "_law_one", "_law_other"] ds) := toN (PF.pure__law_is_good ds P h)
theorem len__law_is_good {ds P} (h : sp__law_is_good ds P) : ds.length = 1 := PF.len__law_is_good h
abbrev s__law_field : Stmt := top 28
abbrev sp__law_field := PF.sp__law_field
def t__law_field : DTS := (dSeq (dAsg (dLst (dCons (dTup (dCons (dC (.int 2)) (dCons (dC (.int 1)) dNil))) (dCons (dTup (dCons (dC (.int 2)) (dCons (dC (.int 2)) dNil))) (dCons (dTup (dCons (dC (.int 2)) (dCons (dC (.int 3)) dNil))) (dCons (dTup (dCons (dC (.int 2)) (dCons (dC (.int 4)) dNil))) (dCons (dTup (dCons (dC (.int 3)) (dCons (dC (.int 1)) dNil))) (dCons (dTup (dCons (dC (.int 3)) (dCons (dC (.int 2)) dNil))) (dCons (dTup (dCons (dC (.int 3)) (dCons (dC (.int 3)) dNil))) (dCons (dTup (dCons (dC (.int 5)) (dCons (dC (.int 1)) dNil))) (dCons (dTup (dCons (dC (.int 5)) (dCons (dC (.int 2)) dNil))) (dCons (dTup (dCons (dC (.int 7)) (dCons (dC (.int 1)) dNil))) (dCons (dTup (dCons (dC (.int 11)) (dCons (dC (.int 1)) dNil))) (dCons (dTup (dCons (dC (.int 13)) (dCons (dC (.int 1)) dNil))) dNil))))))))))))) (gNm 1))
    (dSeq (dAsg (dCall sp__law_pick (dCons (dVar 0) (dCons (dC (.int 8)) dNil))) (gNm 2))
    (dSeq (dIf (dTest (dOp (oEq) (dVar 2) (dC (.int 7)))) (dAsg (dLst (dCons (dTup (dCons (dC (.int 2)) (dCons (dC (.int 5)) dNil))) (dCons (dTup (dCons (dC (.int 2)) (dCons (dC (.int 6)) dNil))) (dCons (dTup (dCons (dC (.int 7)) (dCons (dC (.int 2)) dNil))) (dCons (dTup (dCons (dC (.int 61)) (dCons (dC (.int 1)) dNil))) dNil))))) (gNm 1)) dNext)
    (dSeq (dIf (dTest (dOp (oEq) (dVar 2) (dC (.int 6)))) (dAsg (dLc (dSeqI (dLst (dCons (dC (.int 17)) (dCons (dC (.int 19)) (dCons (dC (.int 23)) (dCons (dC (.int 29)) (dCons (dC (.int 31)) (dCons (dC (.int 37)) (dCons (dC (.int 41)) (dCons (dC (.int 43)) (dCons (dC (.int 47)) (dCons (dC (.int 53)) (dCons (dC (.int 59)) dNil))))))))))))) (gNm 3) tYesD (dTup (dCons (dVar 3) (dCons (dC (.int 1)) dNil))) [3]) (gNm 1)) dNext)
    (dSeq (dAsg (dOp oIx (dVar 1) (dCall sp__law_pick (dCons (dVar 0) (dCons (dCB oLen (dConsH (dVar 1) dNil)) dNil)))) (gTu 2 (gCo (gNm 3) (gCo (gNm 4) gNi))))
    (dSeq (dAsg (dCall sp__law_raised (dCons (dVar 3) (dCons (dVar 4) dNil))) (gNm 5))
    (dSeq (dAsg (dCall sp__law_pick (dCons (dVar 0) (dCons (dVar 5) dNil))) (gNm 6))
    (dSeq (dFor (dRng1 (dConsH (dVar 5) dNil)) (gNm 7) (dSeq (dAsg (dTup (dCons (dVar 3) (dCons (dVar 4) (dCons (dOp oMod (dOp oAdd (dVar 6) (dVar 7)) (dVar 5)) dNil)))) (gNm 8))
    (dIf (dOr (dTest (dOp (oEq) (dVar 4) (dC (.int 1)))) (dTru (dCall sp__law_is_good (dCons (dVar 8) dNil)))) (dRet (dVar 8)) dNext)))
    (dRet (dTup (dCons (dVar 3) (dCons (dC (.int 1)) (dCons (dC (.int 0)) dNil)))))))))))))
theorem pure__law_field (ds : List D) (P : R → Prop) (h : sp__law_field ds P) : runD t__law_field P (startD ["_law_purse_here", "_law_some", "_law_size", "_law_p", "_law_m", "_law_many", "_law_start", "_law_turn", "_law_field_here"] ds) := toN (PF.pure__law_field ds P h)
theorem len__law_field {ds P} (h : sp__law_field ds P) : ds.length = 1 := PF.len__law_field h
abbrev s__law_same : Stmt := top 29
abbrev sp__law_same (n : Nat) := PF.sp__law_same n
abbrev t__law_same (n : Nat) := PF.t__law_same n
theorem pure__law_same (n : Nat) (ds : List D) (P : R → Prop) (h : sp__law_same (n + 1) ds P) : runD (t__law_same n) P (startD ["_law_found", "_law_due", "_law_one", "_law_other"] ds) := toN (PF.pure__law_same n ds P h)
theorem len__law_same {n : Nat} {ds P} (h : sp__law_same n ds P) : ds.length = 2 := PF.len__law_same h
theorem sp0__law_same {ds P} (h : sp__law_same 0 ds P) : False := PF.sp0__law_same h
abbrev s__law_word : Stmt := top 30
def sp__law_word : DSp := fun ds P => ds = [.exc "NoRoot"] ∧ P (.im (.str "root"))
theorem len__law_word {ds P} (h : sp__law_word ds P) : ds.length = 1 := by rw [h.1]; rfl
def t__law_word : DTS := (dSeq (dAsg (dLst (dCons (dTup (dCons (dC (.str "nought")) (dCons (dIsX "NoRoot" false (dVar 0)) dNil))) (dCons (dTup (dCons (dC (.str "root")) (dCons (dIsX "NoRoot" true (dVar 0)) dNil))) (dCons (dTup (dCons (dC (.str "many")) (dCons (dIsX "NoRoot" false (dVar 0)) dNil))) dNil)))) (gNm 1))
    (dSeq (dAsg (dOp oAdd (dVar 1) (dLst (dCons (dTup (dCons (dC (.str "text")) (dCons (dIsX "NoRoot" false (dVar 0)) dNil))) (dCons (dTup (dCons (dC (.str "line")) (dCons (dIsX "NoRoot" false (dVar 0)) dNil))) dNil)))) (gNm 1))
    (dSeq (dAsg (dLc (dSeqI (dVar 1)) (gTu 2 (gCo (gNm 3) (gCo (gNm 4) gNi))) (dTru (dVar 4)) (dVar 3) [3, 4]) (gNm 2))
    (dRet (dIfE (dAnd (dTest (dOp (oEq) (dCB oLen (dConsH (dVar 2) dNil)) (dC (.int 1)))) (dTru (dIsX "NoRoot" true (dVar 0)))) (dOp oIx (dVar 2) (dC (.int 0))) (dC (.str "other")))))))
def wd (x : Str) (b : Bool) : D := .tup [.str x, .bl b]
def wds1 : List D := [wd "nought" false, wd "root" true, wd "many" false]
def wds2 : List D := [wd "nought" false, wd "root" true, wd "many" false, wd "text" false, wd "line" false]
theorem pure__law_word (ds : List D) (P : R → Prop) (h : sp__law_word ds P) : runD t__law_word P (startD ["_law_e", "_law_some", "_law_found", "_law_word_here", "_law_truth"] ds) := by
  obtain ⟨rfl, h⟩ := h
  refine run_of ?_
  refine seq_viaU (fun ρ => ρ = [some (.im (.exc "NoRoot")), some (.ow wds1), none, none, none]) (fun U key => ?_) ?_
  · exact ⟨rfl, sz1 (show 2 ≤ 1000 by decide), rfl, sz1 (show 2 ≤ 1000 by decide), rfl, sz1 (show 2 ≤ 1000 by decide), sz1 (show 3 ≤ 1000 by decide), key _ rfl⟩
  rintro _ rfl
  refine seq_viaU (fun ρ => ρ = [some (.im (.exc "NoRoot")), some (.ow wds2), none, none, none]) (fun U key => ?_) ?_
  · exact ⟨rfl, sz1 (show 2 ≤ 1000 by decide), rfl, sz1 (show 2 ≤ 1000 by decide), sz1 (show 2 ≤ 1000 by decide), sz1 (show 5 ≤ 1000 by decide), key _ rfl⟩
  rintro _ rfl
  refine seq_viaU (fun ρ => ρ = [some (.im (.exc "NoRoot")), some (.im (.lst wds2)), some (.ow ([.str "root"])), none, none]) (fun U key => ?_) ?_
  · refine ⟨rfl, ?_⟩
    refine lcL_fn (fun d => match d with
      | .tup [x, .bl true] => some x
      | _ => none) _ [] _ (by show 0 + 5 ≤ _; decide) (fun d hd C hC => ?_) (key _ rfl)
    obtain ⟨x, b, rfl⟩ : ∃ (x : Str) (b : Bool), d = wd x b := by
      simp only [wds2, List.mem_cons, List.not_mem_nil, or_false] at hd
      rcases hd with rfl | rfl | rfl | rfl | rfl <;> exact ⟨_, _, rfl⟩
    clear hd
    cases b
    · exact ⟨rfl, rfl, fun z => (nomatch z), fun _ => ⟨rfl, hC⟩⟩
    · exact ⟨rfl, rfl, fun _ => ⟨rfl, hC⟩, fun z => (nomatch z)⟩
  rintro _ rfl
  refine ⟨fun _ => ⟨rfl, fun _ => ⟨_, atI_nat (j := 0) rfl, h⟩, fun z => (nomatch z)⟩, fun z => absurd z (by decide)⟩
abbrev s__law_round : Stmt := top 31
def sp__law_round : DSp := fun ds P => ∃ (p m top : Nat) (a : Nat), ds = [fld p m top, .int (a : Nat)] ∧ Fl p m top ∧ 1 ≤ a ∧ a < p ^ m ∧ P (.im (.int ((rdN p m top a : Nat) : Int)))
theorem len__law_round {ds P} (h : sp__law_round ds P) : ds.length = 2 := by obtain ⟨_, _, _, _, rfl, _⟩ := h; rfl
def t__law_round : DTS := (dSeq (dPar 2 3 (dC (.int 1)) (dVar 1))
    (dSeq (dWhile (dTest (dOp (oNe) (dVar 3) (dC (.int 1)))) (dPar 2 3 (dOp oAdd (dVar 2) (dC (.int 1))) (dCall sp__law_product (dCons (dVar 0) (dCons (dVar 3) (dCons (dVar 1) dNil))))))
    (dRet (dVar 2))))
theorem pure__law_round (ds : List D) (P : R → Prop) (h : sp__law_round ds P) : runD t__law_round P (startN 4 ds) := by
  obtain ⟨p, m, top, a, rfl, Fd, a1, a2, h⟩ := h
  have F := Fd.sz.pm Fd.tp
  obtain ⟨n, r, dv, e⟩ := rd_eq Fd a1 a2
  rw [e] at h
  refine ⟨fun i ρ => ∃ k, 1 ≤ k ∧ k ≤ n ∧ i = n - k ∧ ρ = [some (.im (fld p m top)), some (.im (.int a)), some (.im (.int (k : Nat))), some (.im (.int (gp p m top a k : Nat)))], ⟨n - 1, 1, Nat.le_refl 1, r.n1, rfl, ?_⟩, ?_⟩
  · rw [gp_one F a2]; rfl
  · rintro i _ ⟨k, k1, k2, rfl, rfl⟩
    refine ⟨fun h1 => ?_, fun h1 => ?_⟩
    · have ne : gp p m top a k ≠ 1 := fun e => by
        rw [e] at h1
        exact absurd h1 (by simp)
      have lt : k < n := by
        rcases Nat.lt_or_ge k n with q | q
        · exact q
        · exact absurd (by rw [show k = n by omega]; exact r.one) ne
      refine ⟨_, _, _, _, _, rfl, Fd.sz, n - (k + 1), by omega, k + 1, by omega, lt, rfl, ?_⟩
      show _ = [_, _, some (Sl.im (.int ((k + 1 : Nat) : Int))), some (Sl.im (.int (mul p m top (gp p m top a k) a : Nat)))]
      rw [show ((k + 1 : Nat) : Int) = (k : Int) + 1 by omega]; rfl
    · have e : gp p m top a k = 1 := by
        have h2 : (!decide (((gp p m top a k : Nat) : Int) = 1)) = false := h1
        have h3 : decide (((gp p m top a k : Nat) : Int) = 1) = true := by simpa using h2
        have := of_decide_eq_true h3
        omega
      have : k = n := by
        rcases Nat.lt_or_ge k n with q | q
        · exact absurd e (r.least k k1 q)
        · omega
      subst this
      exact h
abbrev s__law_refused : Stmt := top 32
def spR__law_refused : DSp := fun ds P => ∃ (p m top n : Nat), ds = [fld p m top, .int (n : Nat)] ∧ Fl p m top ∧ 1 ≤ n ∧ ¬ n ∣ p ^ m - 1 ∧ P (.im (.bl true))
theorem lenR__law_refused {ds P} (h : spR__law_refused ds P) : ds.length = 2 := by obtain ⟨_, _, _, _, rfl, _⟩ := h; rfl
def tR__law_refused : DTS := (dSeq (dAsg (dC .non) (gNm 2))
    (dKpE 3 2 "NoRoot" (dRun spR_root_of (dCons (dVar 0) (dCons (dVar 1) dNil))) (dRet (dAndV (dOp (oIsN not) (dVar 2) (dC .non)) (dOp (oEq) (dCall sp__law_word (dCons (dVar 2) dNil)) (dC (.str "root")))))))
theorem pureR__law_refused (ds : List D) (P : R → Prop) (h : spR__law_refused ds P) : runD tR__law_refused P (startD ["_law_field_here", "_law_n", "_law_caught", "_law_e"] ds) := by
  obtain ⟨p, m, top, n, rfl, Fd, n1, nd, h⟩ := h
  refine ckN [some (.im (fld p m top)), some (.im (.int n)), some (.im .non), none] ?_
  refine ⟨⟨by show 3 < 4; decide, by show 2 < 4; decide⟩, ⟨p, m, top, n, rfl, Fd, n1, nd⟩, ?_⟩
  refine ⟨fun _ => ⟨rfl, by decide +kernel, by decide +kernel, ?_⟩, fun z => (nomatch z)⟩
  have e : PyData.eqv (D.py (.str "root")) (D.py (.str "root")) = true := by decide +kernel
  have k : ∀ b : Bool, b = true → P (.im (.bl (id b))) := fun b z => by rw [z]; exact h
  exact k _ e
def sp__law_refused : DSp := fun ds P => spR__law_refused ds P
abbrev s_law : Stmt := top 33
def t_law : DTS := (dSeq (dFor (dRng1 (dConsH (dCB oMax2 (dConsH (dC (.int 1)) (dConsH (dCB oMin2 (dConsH (dC (.int 4)) (dConsH (dCB oLen (dConsH (dVar 0) dNil)) dNil))) dNil))) dNil)) (gNm 2) (dSeq (dAsg (dCall sp__law_field (dCons (dVar 1) dNil)) (gNm 3))
    (dSeq (dAsg (dCall sp__law_raised (dCons (dOp oIx (dVar 3) (dC (.int 0))) (dCons (dOp oIx (dVar 3) (dC (.int 1))) dNil))) (gNm 4))
    (dSeq (dAsg (dOp oAdd (dLst (dCons (dC (.int 0)) dNil)) (dLc (dRng2 (dConsH (dC (.int 1)) (dConsH (dVar 4) dNil))) (gNm 7) tYesD (dCall sp__law_round (dCons (dVar 3) (dCons (dVar 7) dNil))) [7])) (gNm 5))
    (dSeq (dAsg (dOp oAdd (dVar 4) (dCall sp__law_pick (dCons (dVar 1) (dCons (dOp oPow (dC (.int 10)) (dC (.int 30))) dNil)))) (gNm 6))
    (dSeq (dFor (dRng2 (dConsH (dC (.int 1)) (dConsH (dVar 4) dNil))) (gNm 7) (dIf (dNot (dTru (dCall (sp__law_same 4) (dCons (dCall sp_round_of (dCons (dVar 3) (dCons (dVar 7) dNil))) (dCons (dOp oIx (dVar 5) (dVar 7)) dNil))))) (dRet (dC (.bl false))) dNext))
    (dFor (dSeqI (dOp oAdd (dLstR2 (dC (.int 1)) (dOp oAdd (dVar 4) (dC (.int 2)))) (dLst (dCons (dVar 6) (dCons (dVar 6) dNil))))) (gNm 8) (dIf (dTest (dOp (oIn id) (dVar 8) (dVar 5))) (dIf (dOr (dNot (dTru (dCall (sp__law_same 4) (dCons (dCall sp_root_of (dCons (dVar 3) (dCons (dVar 8) dNil))) (dCons (dIdx (dVar 5) (dVar 8)) dNil))))) (dTest (dOp (oGt) (dOp oMod (dOp oSub (dVar 4) (dC (.int 1))) (dVar 8)) (dC (.int 0))))) (dRet (dC (.bl false))) dNext) (dIf (dOr (dNot (dTru (dCall sp__law_refused (dCons (dVar 3) (dCons (dVar 8) dNil))))) (dTest (dOp (oEq) (dOp oMod (dOp oSub (dVar 4) (dC (.int 1))) (dVar 8)) (dC (.int 0))))) (dRet (dC (.bl false))) dNext)))))))))
    (dRet (dC (.bl true))))
theorem pure_law (ns : List Int) (hn : ns.length ≤ 63) : runD t_law (fun r => r = .im (.bl true)) (lawRho ["_law_script", "_law_purse_here", "_law_turn", "_law_field_here", "_law_many", "_law_rounds", "_law_far", "_law_one", "_law_n"] ns) := by
  refine run_of ?_
  refine seq_viaU (fun ρ => True) (fun U key => ?_) ?_
  · refine ⟨?_, fun i ρ => ∃ a2 a3 a4 a5 a6 a7 a8, still a7 = true ∧ ρ = [some (.im (.scr (ns.map D.int))), some (.im .purse), a2, a3, a4, a5, a6, a7, a8], ⟨none, none, none, none, none, none, none, rfl, rfl⟩, ?_, fun ρ hq => key ρ trivial⟩
    · have e : ∀ j : Int, 0 ≤ j → okR (if (if j < 4 then j else 4) > 1 then (if j < 4 then j else 4) else 1) := fun j hj => by
        split <;> split <;> exact ⟨by omega, by omega⟩
      exact e _ (Int.natCast_nonneg _)
    clear key
    rintro i d _ hd ⟨a2, a3, a4, a5, a6, a7, a8, s7, rfl⟩
    obtain ⟨hi, rfl⟩ := rngD_get hd
    refine ckN [some (.im (.scr (ns.map D.int))), some (.im .purse), some (.im (.int (0 + (i : Int)))), a3, a4, a5, a6, a7, a8] ?_
    refine seq_viaU (fun ρ => ∃ p m top, Fl p m top ∧ ρ = [some (.im (.scr (ns.map D.int))), some (.im .purse), some (.im (.int (0 + (i : Int)))), some (.im (fld p m top)), a4, a5, a6, a7, a8]) (fun U key => ?_) ?_
    · exact ⟨rfl, fun p m top Fd => key _ ⟨p, m, top, Fd, rfl⟩⟩
    rintro _ ⟨p, m, top, Fd, rfl⟩
    have F := Fd.sz.pm Fd.tp
    have hN := Fd.sz.few
    have m6 := Fd.sz.m6
    have p2 := F.p2
    have p64 := Fd.sz.p64
    have o1 := F.one_lt
    have e1 : ((p ^ m : Nat) : Int) - 1 = ((p ^ m - 1 : Nat) : Int) := by omega
    refine seq_viaU (fun ρ => ρ = [some (.im (.scr (ns.map D.int))), some (.im .purse), some (.im (.int (0 + (i : Int)))), some (.im (fld p m top)), some (.im (.int ((p ^ m : Nat) : Int))), a5, a6, a7, a8]) (fun U key => ?_) ?_
    · exact ⟨_, rfl, _, rfl, p, m, rfl, by omega, by omega, .inr (by omega), key _ rfl⟩
    rintro _ rfl
    refine seq_viaU (fun ρ => ρ = [some (.im (.scr (ns.map D.int))), some (.im .purse), some (.im (.int (0 + (i : Int)))), some (.im (fld p m top)), some (.im (.int ((p ^ m : Nat) : Int))), some (.ow (thD (0 :: rds p m top))), a6, a7, a8]) (fun U key => ?_) ?_
    · refine ⟨sz1 (show 1 ≤ 1000 by decide), ⟨by decide, by decide⟩, ⟨by show -(2 ^ 62) ≤ ((p ^ m : Nat) : Int); omega, by show ((p ^ m : Nat) : Int) < 2 ^ 62; omega⟩, noOwn_one rfl s7, lc_rngF (fun k => some (.int ((rdN p m top (1 + k) : Nat) : Int))) (by show Int.toNat (((p ^ m : Nat) : Int) - 1) ≤ _; omega) (fun k hk C hC => ?_) ?_⟩
      · have hk2 : k < Int.toNat (((p ^ m : Nat) : Int) - 1) := hk
        obtain ⟨a, ea⟩ : ∃ a : Nat, ((1 : Int) + (k : Int)) = a := ⟨1 + k, by omega⟩
        have ea2 : 1 + k = a := by omega
        rw [ea2] at hC
        exact ⟨fun _ => ⟨p, m, top, a, congrArg (fun z => [fld p m top, D.int z]) ea, Fd, by omega, by omega, rfl, hC⟩, fun z => (nomatch z)⟩
      have eN : Int.toNat (((p ^ m : Nat) : Int) - 1) = p ^ m - 1 := by omega
      have el : (List.range (Int.toNat (((p ^ m : Nat) : Int) - 1))).filterMap (fun k => some (D.int ((rdN p m top (1 + k) : Nat) : Int))) = thD (rds p m top) := by
        rw [eN]
        unfold rds thD
        rw [List.map_map]
        generalize List.range (p ^ m - 1) = r
        induction r with
        | nil => rfl
        | cons x r ih => exact (List.filterMap_cons_some (f := fun k => some (D.int ((rdN p m top (1 + k) : Nat) : Int))) (b := D.int ((rdN p m top (1 + x) : Nat) : Int)) rfl).trans (congrArg (_ :: ·) ih)
      rw [el]
      refine ⟨sz1 (by show 1 + (thD (rds p m top)).length ≤ 1000; rw [thD_len, rds_len]; omega), ?_⟩
      exact key _ rfl
    rintro _ rfl
    refine seq_viaU (fun ρ => ∃ far : Nat, 1 ≤ far ∧ ρ = [some (.im (.scr (ns.map D.int))), some (.im .purse), some (.im (.int (0 + (i : Int)))), some (.im (fld p m top)), some (.im (.int ((p ^ m : Nat) : Int))), some (.ow (thD (0 :: rds p m top))), some (.im (.int far)), a7, a8]) (fun U key => ?_) ?_
    · refine ⟨by unfold CPow; decide, ⟨_, rfl, by show (0 : Int) < 10 ^ 30; decide, by show ((10 : Int) ^ 30).natAbs < 2 ^ 200; decide, fun r r0 r1 => ?_⟩⟩
      obtain ⟨r, rfl⟩ := Int.eq_ofNat_of_zero_le r0
      have k2 := key _ ⟨p ^ m + r, by omega, rfl⟩
      have e2 : ((p ^ m + r : Nat) : Int) = ((p ^ m : Nat) : Int) + (r : Int) := by omega
      rw [e2] at k2
      exact k2
    rintro _ ⟨far, far1, rfl⟩
    refine seq_viaU (fun ρ => ∃ a7, still a7 = true ∧ ρ = [some (.im (.scr (ns.map D.int))), some (.im .purse), some (.im (.int (0 + (i : Int)))), some (.im (fld p m top)), some (.im (.int ((p ^ m : Nat) : Int))), some (.ow (thD (0 :: rds p m top))), some (.im (.int far)), a7, a8]) (fun U key => ?_) ?_
    · refine ⟨⟨by decide, by decide⟩, ⟨by show -(2 ^ 62) ≤ ((p ^ m : Nat) : Int); omega, by show ((p ^ m : Nat) : Int) < 2 ^ 62; omega⟩, fun _ ρ => ∃ a7, still a7 = true ∧ ρ = [some (.im (.scr (ns.map D.int))), some (.im .purse), some (.im (.int (0 + (i : Int)))), some (.im (fld p m top)), some (.im (.int ((p ^ m : Nat) : Int))), some (.ow (thD (0 :: rds p m top))), some (.im (.int far)), a7, a8], ⟨a7, s7, rfl⟩, ?_, fun ρ hq => key ρ hq⟩
      clear key
      rintro j d _ hd ⟨a7, s7, rfl⟩
      obtain ⟨hi, rfl⟩ := rngD_get hd
      have hi2 : j < Int.toNat (((p ^ m : Nat) : Int) - 1) := hi
      obtain ⟨a, ea⟩ : ∃ a : Nat, ((1 : Int) + (j : Int)) = a := ⟨1 + j, by omega⟩
      rw [ea]
      refine ckN [some (.im (.scr (ns.map D.int))), some (.im .purse), some (.im (.int (0 + (i : Int)))), some (.im (fld p m top)), some (.im (.int ((p ^ m : Nat) : Int))), some (.ow (thD (0 :: rds p m top))), some (.im (.int far)), some (.im (.int a)), a8] ?_
      refine ⟨p, m, top, a, rfl, Fd, by omega, by omega, fun n2 r2 dv2 => ?_⟩
      refine ⟨_, atI_nat (thD_get (show (0 :: rds p m top)[a]? = some n2 from ?_)), _, rfl, trivial, ?_⟩
      · obtain ⟨k, rfl⟩ : ∃ k, a = 1 + k := ⟨a - 1, by omega⟩
        rw [Nat.add_comm 1 k, List.getElem?_cons_succ, rds_get (by omega), rdN_eq (by rwa [Nat.add_comm] at r2)]
      exact ⟨fun z => (nomatch z), fun _ => ⟨_, rfl, rfl⟩⟩
    rintro _ ⟨a7, s7, rfl⟩
    have eR : Int.toNat (((p ^ m : Nat) : Int) + 2 - 1) = p ^ m + 1 := by omega
    refine ⟨RgOk.of_le (by decide) (by omega) (by omega) (by omega), sz1 (show 2 ≤ 1000 by decide), sz1 (by show (rngD 1 (Int.toNat (((p ^ m : Nat) : Int) + 2 - 1))).length + 2 ≤ 1000; rw [rngD_len]; omega), fun _ ρ => ∃ a7 a8, still a7 = true ∧ ρ = [some (.im (.scr (ns.map D.int))), some (.im .purse), some (.im (.int (0 + (i : Int)))), some (.im (fld p m top)), some (.im (.int ((p ^ m : Nat) : Int))), some (.ow (thD (0 :: rds p m top))), some (.im (.int far)), a7, a8], ⟨a7, a8, s7, rfl⟩, ?_, fun ρ hq => ?_⟩
    rotate_left
    · obtain ⟨a7, a8, s7, rfl⟩ := hq
      exact ⟨_, _, _, _, _, _, _, s7, rfl⟩
    rintro j d _ hd ⟨a7, a8, s7, rfl⟩
    obtain ⟨n, n1, rfl⟩ : ∃ n : Nat, 1 ≤ n ∧ d = .int (n : Nat) := by
      rcases List.mem_append.mp (List.mem_of_getElem? hd) with q | q
      · obtain ⟨k, _, rfl⟩ := rngD_mem q
        exact ⟨1 + k, by omega, congrArg D.int (by omega)⟩
      · simp only [List.mem_cons, List.not_mem_nil, or_false, or_self] at q
        exact ⟨far, far1, q⟩
    clear hd
    refine ckN [some (.im (.scr (ns.map D.int))), some (.im .purse), some (.im (.int (0 + (i : Int)))), some (.im (fld p m top)), some (.im (.int ((p ^ m : Nat) : Int))), some (.ow (thD (0 :: rds p m top))), some (.im (.int far)), a7, some (.im (.int n))] ?_
    refine ⟨rfl, flat_th (0 :: rds p m top), fun c => ?_, fun c => ?_⟩
    · have c : inF (.int (n : Nat)) (thD (0 :: rds p m top)) = true := c
      rw [inF_th] at c
      have hm : n ∈ rds p m top := (List.mem_cons.mp (of_decide_eq_true c)).resolve_left (by omega)
      obtain ⟨_, dv⟩ := rds_pos Fd hm
      obtain ⟨k, k1, k2⟩ := first_of hm
      have kl : k < p ^ m - 1 := by
        have := (List.getElem?_eq_some_iff.mp k1).1
        rwa [rds_len] at this
      have ek : rdN p m top (1 + k) = n := by rw [rds_get kl] at k1; exact Option.some.inj k1
      refine ⟨p, m, top, n, k, rfl, Fd, n1, dv, kl, ek, fun j hj z => k2 j hj (by rw [rds_get (by omega), z]), ?_⟩
      refine ⟨(0 :: rds p m top).map fun a : Nat => (a : Int), 1 + k, ?_, ?_, fun j hj => ?_, ?_⟩
      · unfold thD
        rw [List.map_map]; rfl
      · rw [Nat.add_comm 1 k, List.map_cons, List.getElem?_cons_succ, List.getElem?_map, k1]; rfl
      · cases j with
        | zero =>
          intro z
          have z : (some ((0 : Nat) : Int)) = some (n : Int) := z
          have := Option.some.inj z
          omega
        | succ j =>
          rw [List.map_cons, List.getElem?_cons_succ, List.getElem?_map]
          intro z
          obtain ⟨b, hb, eb⟩ := Option.map_eq_some_iff.mp z
          exact k2 j (by omega) (by rw [hb]; exact congrArg some (by omega))
      refine ⟨_, rfl, trivial, ?_⟩
      refine ⟨fun z => (nomatch z), fun _ => ?_⟩
      refine ⟨by show (0 : Int) < (n : Int); omega, fun h1 => ?_, fun _ => ⟨_, _, s7, rfl⟩⟩
      have h2 : (((p ^ m : Nat) : Int) - 1) % (n : Int) > 0 := of_decide_eq_true h1
      rw [e1, ← Int.natCast_emod, Nat.mod_eq_zero_of_dvd dv] at h2
      exact absurd h2 (by decide)
    · have c : inF (.int (n : Nat)) (thD (0 :: rds p m top)) = false := c
      rw [inF_th] at c
      have hm : n ∉ rds p m top := fun z => of_decide_eq_false c (List.mem_cons_of_mem _ z)
      have nd : ¬ n ∣ p ^ m - 1 := fun z => hm (rds_all Fd n1 z)
      refine ⟨p, m, top, n, rfl, Fd, n1, nd, ?_⟩
      refine ⟨fun z => (nomatch z), fun _ => ?_⟩
      refine ⟨by show (0 : Int) < (n : Int); omega, fun h1 => ?_, fun _ => ⟨_, _, s7, rfl⟩⟩
      have h2 : (((p ^ m : Nat) : Int) - 1) % (n : Int) = 0 := of_decide_eq_true h1
      rw [e1, ← Int.natCast_emod] at h2
      exact absurd (Nat.dvd_of_mod_eq_zero (by omega)) nd
  intro ρ _
  exact rfl

section
variable {P : Program} {w : World} {K : PySem.W.Frag} {mg : Str → Option Value} {base : Heap}
theorem sc_raised : FnScope ["one", "many", "found", "turn"] ["one", "many"] (defScope s_raised) := ⟨rfl, rfl, rfl, by decide +kernel, rfl, by decide +kernel, by decide +kernel⟩
set_option maxHeartbeats 4000000 in
theorem ok_raised {f : Addr} {fd : FuncData} (F : FnQ K "raised" "raised" s_raised f fd) (z_range : mg "range" = none) : FnOk P w K mg base CX0 1 f fd ["one", "many"] (spOf ⟨mg, K⟩ sp_raised) :=
  DL.ok_def (t := t_raised) F sc_raised (fun ds P h => len_raised h) (fun cdv A outer s H E hr => ⟨_, (dss_cons (ds_set (i := 2) sc_raised.nd rfl (Or.inl rfl) de_int)
    (dss_cons (ds_for PassesOwn.never rfl (di_rng1 (by rfl) z_range (dh_cons (de_var 1) dh_nil)) (dg_name (i := 3) sc_raised.nd rfl (Or.inl rfl)) (dss_one (ds_set (i := 2) sc_raised.nd rfl (Or.inl rfl) (de_op (do_mul (K := K)) (de_var 2) (de_var 0)))))
    (dss_one (ds_ret (de_var 2)))))⟩) pure_raised
theorem sc_common_part : FnScope ["one", "other"] ["one", "other"] (defScope s_common_part) := ⟨rfl, rfl, rfl, by decide +kernel, rfl, by decide +kernel, by decide +kernel⟩
set_option maxHeartbeats 4000000 in
theorem ok_common_part {f : Addr} {fd : FuncData} (F : FnQ K "common_part" "common_part" s_common_part f fd) : FnOk P w K mg base CX0 1 f fd ["one", "other"] (spOf ⟨mg, K⟩ sp_common_part) :=
  DL.ok_def (t := t_common_part) F sc_common_part (fun ds P h => len_common_part h) (fun cdv A outer s H E hr => ⟨_, (dss_cons (ds_while PassesOwn.never (dt_cmp do_gt (de_var 1) de_int (nomark _)) (dss_one (ds_par (i := 0) (j := 1) rfl sc_common_part.nd rfl rfl (by decide) rfl rfl (de_var 1) (de_op do_mod (de_var 0) (de_var 1)) rfl)))
    (dss_one (ds_ret (de_var 0))))⟩) pure_common_part
theorem sc_put_together : FnScope ["p", "one", "other", "found", "place"] ["p", "one", "other"] (defScope s_put_together) := ⟨rfl, rfl, rfl, by decide +kernel, rfl, by decide +kernel, by decide +kernel⟩
set_option maxHeartbeats 4000000 in
theorem ok_put_together {f : Addr} {fd : FuncData} (F : FnQ K "put_together" "put_together" s_put_together f fd) : FnOk P w K mg base CX0 1 f fd ["p", "one", "other"] (spOf ⟨mg, K⟩ sp_put_together) :=
  DL.ok_def (t := t_put_together) F sc_put_together (fun ds P h => len_put_together h) (fun cdv A outer s H E hr => ⟨_, (dss_cons (ds_if (dt_cmp (do_eq hr.units (K := K)) (de_var 0) de_int (nomark _)) (dss_one (ds_ret (de_op do_xor (de_var 1) (de_var 2)))) dss_nil)
    (dss_cons (ds_set (i := 3) sc_put_together.nd rfl (Or.inl rfl) de_int)
    (dss_cons (ds_set (i := 4) sc_put_together.nd rfl (Or.inl rfl) de_int)
    (dss_cons (ds_while PassesOwn.never (DW.dt (dw_or (dt_cmp do_gt (de_var 1) de_int (nomark _)) (dw_or1 (dt_cmp do_gt (de_var 2) de_int (nomark _))))) (dss_cons (ds_set (i := 3) sc_put_together.nd rfl (Or.inl rfl) (de_op (do_add (K := K)) (de_var 3) (de_op (do_mul (K := K)) (de_op do_mod (de_op (do_add (K := K)) (de_var 1) (de_var 2)) (de_var 0)) (de_var 4))))
    (dss_cons (ds_par (i := 1) (j := 2) rfl sc_put_together.nd rfl rfl (by decide) rfl rfl (de_op do_fdiv (de_var 1) (de_var 0)) (de_op do_fdiv (de_var 2) (de_var 0)) rfl)
    (dss_one (ds_set (i := 4) sc_put_together.nd rfl (Or.inl rfl) (de_op (do_mul (K := K)) (de_var 4) (de_var 0)))))))
    (dss_one (ds_ret (de_var 3)))))))⟩) pure_put_together
theorem sc_so_many : FnScope ["p", "digit", "thing", "found", "turn"] ["p", "digit", "thing"] (defScope s_so_many) := ⟨rfl, rfl, rfl, by decide +kernel, rfl, by decide +kernel, by decide +kernel⟩
set_option maxHeartbeats 4000000 in
theorem ok_so_many {f : Addr} {fd : FuncData} (F : FnQ K "so_many" "so_many" s_so_many f fd) {f_put_together : Addr} {fd_put_together : FuncData} (F_put_together : FnQ K "put_together" "put_together" s_put_together f_put_together fd_put_together) (G_put_together : FnOk P w K mg base CX0 1 f_put_together fd_put_together ["p", "one", "other"] (spOf ⟨mg, K⟩ sp_put_together)) (b_put_together : Binds K fd_put_together ["p", "one", "other"] []) (m_put_together : mg "put_together" = some (.ref f_put_together)) (z_range : mg "range" = none) : FnOk P w K mg base CX0 2 f fd ["p", "digit", "thing"] (spOf ⟨mg, K⟩ sp_so_many) :=
  DL.ok_def (t := t_so_many) F sc_so_many (fun ds P h => len_so_many h) (fun cdv A outer s H E hr => ⟨_, (dss_cons (ds_set (i := 3) sc_so_many.nd rfl (Or.inl rfl) de_int)
    (dss_cons (ds_for PassesOwn.never rfl (di_rng1 (by rfl) z_range (dh_cons (de_var 1) dh_nil)) (dg_name (i := 4) sc_so_many.nd rfl (Or.inl rfl)) (dss_one (ds_set (i := 3) sc_so_many.nd rfl (Or.inl rfl) (de_call (gg := ⟨mg, K⟩) G_put_together (hr.mono (by omega)) (by rfl) m_put_together F_put_together.kp b_put_together (da_cons (de_var 0) (da_cons (de_var 3) (da_cons (de_var 2) da_nil)))))))
    (dss_one (ds_ret (de_var 3)))))⟩) pure_so_many
theorem sc_lifted : FnScope ["field", "thing", "p", "m", "top", "high"] ["field", "thing"] (defScope s_lifted) := ⟨rfl, rfl, rfl, by decide +kernel, rfl, by decide +kernel, by decide +kernel⟩
set_option maxHeartbeats 4000000 in
theorem ok_lifted {f : Addr} {fd : FuncData} (F : FnQ K "lifted" "lifted" s_lifted f fd) {f_raised : Addr} {fd_raised : FuncData} (F_raised : FnQ K "raised" "raised" s_raised f_raised fd_raised) (G_raised : FnOk P w K mg base CX0 1 f_raised fd_raised ["one", "many"] (spOf ⟨mg, K⟩ sp_raised)) (b_raised : Binds K fd_raised ["one", "many"] []) (m_raised : mg "raised" = some (.ref f_raised)) {f_put_together : Addr} {fd_put_together : FuncData} (F_put_together : FnQ K "put_together" "put_together" s_put_together f_put_together fd_put_together) (G_put_together : FnOk P w K mg base CX0 1 f_put_together fd_put_together ["p", "one", "other"] (spOf ⟨mg, K⟩ sp_put_together)) (b_put_together : Binds K fd_put_together ["p", "one", "other"] []) (m_put_together : mg "put_together" = some (.ref f_put_together)) {f_so_many : Addr} {fd_so_many : FuncData} (F_so_many : FnQ K "so_many" "so_many" s_so_many f_so_many fd_so_many) (G_so_many : FnOk P w K mg base CX0 2 f_so_many fd_so_many ["p", "digit", "thing"] (spOf ⟨mg, K⟩ sp_so_many)) (b_so_many : Binds K fd_so_many ["p", "digit", "thing"] []) (m_so_many : mg "so_many" = some (.ref f_so_many)) : FnOk P w K mg base CX0 3 f fd ["field", "thing"] (spOf ⟨mg, K⟩ sp_lifted) :=
  DL.ok_def (t := t_lifted) F sc_lifted (fun ds P h => len_lifted h) (fun cdv A outer s H E hr => ⟨_, (dss_cons (ds_asg (de_var 0) (dg_tup rfl (dgs_cons (dg_name (i := 2) sc_lifted.nd rfl (Or.inl rfl)) (dgs_cons (dg_name (i := 3) sc_lifted.nd rfl (Or.inl rfl)) (dgs_cons (dg_name (i := 4) sc_lifted.nd rfl (Or.inl rfl)) dgs_nil)))))
    (dss_cons (ds_set (i := 5) sc_lifted.nd rfl (Or.inl rfl) (de_call (gg := ⟨mg, K⟩) G_raised (hr.mono (by omega)) (by rfl) m_raised F_raised.kp b_raised (da_cons (de_var 2) (da_cons (de_op do_sub (de_var 3) de_int) da_nil))))
    (dss_one (ds_ret (de_call (gg := ⟨mg, K⟩) G_put_together (hr.mono (by omega)) (by rfl) m_put_together F_put_together.kp b_put_together (da_cons (de_var 2) (da_cons (de_op (do_mul (K := K)) (de_op do_mod (de_var 1) (de_var 5)) (de_var 2)) (da_cons (de_call (gg := ⟨mg, K⟩) G_so_many (hr.mono (by omega)) (by rfl) m_so_many F_so_many.kp b_so_many (da_cons (de_var 2) (da_cons (de_op do_fdiv (de_var 1) (de_var 5)) (da_cons (de_var 4) da_nil)))) da_nil))))))))⟩) pure_lifted
theorem sc_plain_times : FnScope ["field", "one", "other", "found"] ["field", "one", "other"] (defScope s_plain_times) := ⟨rfl, rfl, rfl, by decide +kernel, rfl, by decide +kernel, by decide +kernel⟩
set_option maxHeartbeats 4000000 in
theorem ok_plain_times {f : Addr} {fd : FuncData} (F : FnQ K "plain_times" "plain_times" s_plain_times f fd) {f_put_together : Addr} {fd_put_together : FuncData} (F_put_together : FnQ K "put_together" "put_together" s_put_together f_put_together fd_put_together) (G_put_together : FnOk P w K mg base CX0 1 f_put_together fd_put_together ["p", "one", "other"] (spOf ⟨mg, K⟩ sp_put_together)) (b_put_together : Binds K fd_put_together ["p", "one", "other"] []) (m_put_together : mg "put_together" = some (.ref f_put_together)) {f_so_many : Addr} {fd_so_many : FuncData} (F_so_many : FnQ K "so_many" "so_many" s_so_many f_so_many fd_so_many) (G_so_many : FnOk P w K mg base CX0 2 f_so_many fd_so_many ["p", "digit", "thing"] (spOf ⟨mg, K⟩ sp_so_many)) (b_so_many : Binds K fd_so_many ["p", "digit", "thing"] []) (m_so_many : mg "so_many" = some (.ref f_so_many)) {f_lifted : Addr} {fd_lifted : FuncData} (F_lifted : FnQ K "lifted" "lifted" s_lifted f_lifted fd_lifted) (G_lifted : FnOk P w K mg base CX0 3 f_lifted fd_lifted ["field", "thing"] (spOf ⟨mg, K⟩ sp_lifted)) (b_lifted : Binds K fd_lifted ["field", "thing"] []) (m_lifted : mg "lifted" = some (.ref f_lifted)) : FnOk P w K mg base CX0 4 f fd ["field", "one", "other"] (spOf ⟨mg, K⟩ sp_plain_times) :=
  DL.ok_def (t := t_plain_times) F sc_plain_times (fun ds P h => len_plain_times h) (fun cdv A outer s H E hr => ⟨_, (dss_cons (ds_set (i := 3) sc_plain_times.nd rfl (Or.inl rfl) de_int)
    (dss_cons (ds_while PassesOwn.never (dt_cmp do_gt (de_var 1) de_int (nomark _)) (dss_cons (ds_set (i := 3) sc_plain_times.nd rfl (Or.inl rfl) (de_call (gg := ⟨mg, K⟩) G_put_together (hr.mono (by omega)) (by rfl) m_put_together F_put_together.kp b_put_together (da_cons (de_ix (K := K) (de_var 0) de_int) (da_cons (de_var 3) (da_cons (de_call (gg := ⟨mg, K⟩) G_so_many (hr.mono (by omega)) (by rfl) m_so_many F_so_many.kp b_so_many (da_cons (de_ix (K := K) (de_var 0) de_int) (da_cons (de_op do_mod (de_var 1) (de_ix (K := K) (de_var 0) de_int)) (da_cons (de_var 2) da_nil)))) da_nil)))))
    (dss_cons (ds_set (i := 1) sc_plain_times.nd rfl (Or.inl rfl) (de_op do_fdiv (de_var 1) (de_ix (K := K) (de_var 0) de_int)))
    (dss_one (ds_if (dt_cmp do_gt (de_var 1) de_int (nomark _)) (dss_one (ds_set (i := 2) sc_plain_times.nd rfl (Or.inl rfl) (de_call (gg := ⟨mg, K⟩) G_lifted (hr.mono (by omega)) (by rfl) m_lifted F_lifted.kp b_lifted (da_cons (de_var 0) (da_cons (de_var 2) da_nil))))) dss_nil)))))
    (dss_one (ds_ret (de_var 3)))))⟩) pure_plain_times
theorem sc_many_things : FnScope ["field"] ["field"] (defScope s_many_things) := ⟨rfl, rfl, rfl, by decide +kernel, rfl, by decide +kernel, by decide +kernel⟩
set_option maxHeartbeats 4000000 in
theorem ok_many_things {f : Addr} {fd : FuncData} (F : FnQ K "many_things" "many_things" s_many_things f fd) {f_raised : Addr} {fd_raised : FuncData} (F_raised : FnQ K "raised" "raised" s_raised f_raised fd_raised) (G_raised : FnOk P w K mg base CX0 1 f_raised fd_raised ["one", "many"] (spOf ⟨mg, K⟩ sp_raised)) (b_raised : Binds K fd_raised ["one", "many"] []) (m_raised : mg "raised" = some (.ref f_raised)) : FnOk P w K mg base CX0 2 f fd ["field"] (spOf ⟨mg, K⟩ sp_many_things) :=
  DL.ok_def (t := t_many_things) F sc_many_things (fun ds P h => len_many_things h) (fun cdv A outer s H E hr => ⟨_, (dss_one (ds_ret (de_call (gg := ⟨mg, K⟩) G_raised (hr.mono (by omega)) (by rfl) m_raised F_raised.kp b_raised (da_cons (de_ix (K := K) (de_var 0) de_int) (da_cons (de_ix (K := K) (de_var 0) de_int) da_nil)))))⟩) pure_many_things
theorem sc_Table__powers_of : FnScope ["self", "maker", "found", "thing"] ["self", "maker"] (defScope s_Table__powers_of) := ⟨rfl, rfl, rfl, by decide +kernel, rfl, by decide +kernel, by decide +kernel⟩
set_option maxHeartbeats 4000000 in
theorem ok_Table__powers_of {f : Addr} {fd : FuncData} (F : FnQ K "powers_of" "Table.powers_of" s_Table__powers_of f fd) {C_Table : Addr} (m_Table : mg "Table" = some (.ref C_Table)) (k_Table_field : FldOk K mg "Table" "field") {f_plain_times : Addr} {fd_plain_times : FuncData} (F_plain_times : FnQ K "plain_times" "plain_times" s_plain_times f_plain_times fd_plain_times) (G_plain_times : FnOk P w K mg base CX0 4 f_plain_times fd_plain_times ["field", "one", "other"] (spOf ⟨mg, K⟩ sp_plain_times)) (b_plain_times : Binds K fd_plain_times ["field", "one", "other"] []) (m_plain_times : mg "plain_times" = some (.ref f_plain_times)) : FnOk P w K mg base CX0 5 f fd ["self", "maker"] (spOf ⟨mg, K⟩ sp_Table__powers_of) :=
  DL.ok_def (t := t_Table__powers_of) F sc_Table__powers_of (fun ds P h => len_Table__powers_of h) (fun cdv A outer s H E hr => ⟨_, (dss_cons (ds_set (i := 2) sc_Table__powers_of.nd rfl (Or.inl rfl) (de_lst (da_cons de_int da_nil)))
    (dss_cons (ds_set (i := 3) sc_Table__powers_of.nd rfl (Or.inl rfl) (de_var 1))
    (dss_cons (ds_while PassesOwn.never (dt_cmp (do_ne hr.units (K := K)) (de_var 3) de_int (nomark _)) (dss_cons (ds_append (de_var 2) (de_var 3))
    (dss_one (ds_set (i := 3) sc_Table__powers_of.nd rfl (Or.inl rfl) (de_call (gg := ⟨mg, K⟩) G_plain_times (hr.mono (by omega)) (by rfl) m_plain_times F_plain_times.kp b_plain_times (da_cons (de_fld (K := K) (de_var 0) k_Table_field) (da_cons (de_var 3) (da_cons (de_var 1) da_nil))))))))
    (dss_one (ds_ret (de_var 2))))))⟩) pure_Table__powers_of
theorem sc_Table____init__ : FnScope ["self", "field", "maker", "at", "thing"] ["self", "field"] (defScope s_Table____init__) := ⟨rfl, rfl, rfl, by decide +kernel, rfl, by decide +kernel, by decide +kernel⟩
set_option maxHeartbeats 4000000 in
theorem ok_Table____init__ {f : Addr} {fd : FuncData} (F : FnQ K "__init__" "Table.__init__" s_Table____init__ f fd) {C_Table : Addr} (m_Table : mg "Table" = some (.ref C_Table)) (k_Table_field : FldOk K mg "Table" "field") (k_Table_p : FldOk K mg "Table" "p") (k_Table_many : FldOk K mg "Table" "many") (k_Table_size : FldOk K mg "Table" "size") (k_Table_powers : FldOk K mg "Table" "powers") (k_Table_logs : FldOk K mg "Table" "logs") {f_many_things : Addr} {fd_many_things : FuncData} (F_many_things : FnQ K "many_things" "many_things" s_many_things f_many_things fd_many_things) (G_many_things : FnOk P w K mg base CX0 2 f_many_things fd_many_things ["field"] (spOf ⟨mg, K⟩ sp_many_things)) (b_many_things : Binds K fd_many_things ["field"] []) (m_many_things : mg "many_things" = some (.ref f_many_things)) {f_Table__powers_of : Addr} {fd_Table__powers_of : FuncData} (F_Table__powers_of : FnQ K "powers_of" "Table.powers_of" s_Table__powers_of f_Table__powers_of fd_Table__powers_of) (G_Table__powers_of : FnOk P w K mg base CX0 5 f_Table__powers_of fd_Table__powers_of ["self", "maker"] (spOf ⟨mg, K⟩ sp_Table__powers_of)) (b_Table__powers_of : Binds K fd_Table__powers_of ["self", "maker"] []) (k_Table__powers_of : MthOk K mg "Table" "powers_of" f_Table__powers_of) (z_len : mg "len" = none) (z_enumerate : mg "enumerate" = none) (z_dict : mg "dict" = none) : FnOk P w K mg base CX0 6 f fd ["self", "field"] (spInit ⟨mg, K⟩ C_Table sp_Table____init__) :=
  DL.ok_init (c := "Table") (t := t_Table____init__) m_Table F sc_Table____init__ (fun ds P h => congrArg (· + 1) (len_Table____init__ h)) (fun cdv A outer s H E hr => ⟨_, (ins_cons (in_fld (de_var 0) (de_var 1) k_Table_field)
    (ins_cons (in_fld (de_var 0) (de_ix (K := K) (de_var 1) de_int) k_Table_p)
    (ins_cons (in_fld (de_var 0) (de_call (gg := ⟨mg, K⟩) G_many_things (hr.mono (by omega)) (by rfl) m_many_things F_many_things.kp b_many_things (da_cons (de_var 1) da_nil)) k_Table_many)
    (ins_cons (in_fld (de_var 0) (de_op do_sub (de_fld (K := K) (de_var 0) k_Table_many) de_int) k_Table_size)
    (ins_cons (in_fld (de_var 0) (de_lst da_nil) k_Table_powers)
    (ins_cons (in_set (i := 1) sc_Table____init__.nd rfl (Or.inl rfl) de_int)
    (ins_cons (in_while PassesOwn.never (dt_cmp do_lt (de_callB (dc_len (K := K)) (by rfl) z_len boot_len (dh_cons (de_fld (K := K) (de_var 0) k_Table_powers) dh_nil)) (de_fld (K := K) (de_var 0) k_Table_size) (nomark _)) (ins_cons (in_fld (de_var 0) (de_meth (gg := ⟨mg, K⟩) (de_var 0) k_Table__powers_of G_Table__powers_of (hr.mono (by omega)) b_Table__powers_of (da_cons (de_var 2) da_nil) m_Table) k_Table_powers)
    (ins_one (in_set (i := 1) sc_Table____init__.nd rfl (Or.inl rfl) (de_op (do_add (K := K)) (de_var 2) de_int)))))
    (ins_one (in_fld (de_var 0) (de_callTy (dc_dict rfl (K := K)) (by rfl) z_dict boot_dict (dh_cons (de_lc (own := [("at", 3), ("thing", 4)]) rfl sc_Table____init__.nd (di_enum (by rfl) z_enumerate (da_cons (de_fld (K := K) (de_var 0) k_Table_powers) da_nil) (K := K)) (blkOk_by (N := ["self", "field", "maker", "at", "thing"]) (sc := defScope s_Table____init__) (by decide +kernel)) (fun _ _ _ _ _ => (pgk_tup (K := K) rfl (pgs_cons (pg_name (i := 3) sc_Table____init__.nd rfl (Or.inl rfl)) (pgs_cons (pg_name (i := 4) sc_Table____init__.nd rfl (Or.inl rfl)) pgs_nil)))) (fun _ => (gc_tup (gcs_cons (gc_name (by decide)) (gcs_cons (gc_name (by decide)) gcs_nil)))) (fun _ _ _ _ _ => dts_nil) (fun _ _ _ _ _ => (de_tup (da_cons (de_var 4) (da_cons (de_var 3) da_nil))))) dh_nil)) k_Table_logs)))))))))⟩) pure_Table____init__
theorem sc_Table__round_of : FnScope ["self", "one"] ["self", "one"] (defScope s_Table__round_of) := ⟨rfl, rfl, rfl, by decide +kernel, rfl, by decide +kernel, by decide +kernel⟩
set_option maxHeartbeats 4000000 in
theorem ok_Table__round_of {f : Addr} {fd : FuncData} (F : FnQ K "round_of" "Table.round_of" s_Table__round_of f fd) {C_Table : Addr} (m_Table : mg "Table" = some (.ref C_Table)) (k_Table_size : FldOk K mg "Table" "size") (k_Table_logs : FldOk K mg "Table" "logs") {f_common_part : Addr} {fd_common_part : FuncData} (F_common_part : FnQ K "common_part" "common_part" s_common_part f_common_part fd_common_part) (G_common_part : FnOk P w K mg base CX0 1 f_common_part fd_common_part ["one", "other"] (spOf ⟨mg, K⟩ sp_common_part)) (b_common_part : Binds K fd_common_part ["one", "other"] []) (m_common_part : mg "common_part" = some (.ref f_common_part)) : FnOk P w K mg base CX0 2 f fd ["self", "one"] (spOf ⟨mg, K⟩ sp_Table__round_of) :=
  DL.ok_def (t := t_Table__round_of) F sc_Table__round_of (fun ds P h => len_Table__round_of h) (fun cdv A outer s H E hr => ⟨_, (dss_one (ds_ret (de_op do_fdiv (de_fld (K := K) (de_var 0) k_Table_size) (de_call (gg := ⟨mg, K⟩) G_common_part (hr.mono (by omega)) (by rfl) m_common_part F_common_part.kp b_common_part (da_cons (de_fld (K := K) (de_var 0) k_Table_size) (da_cons (de_dget (hu_of hr) (de_fld (K := K) (de_var 0) k_Table_logs) (de_var 1)) da_nil))))))⟩) pure_Table__round_of
theorem sc_table_of : FnScope ["field"] ["field"] (defScope s_table_of) := ⟨rfl, rfl, rfl, by decide +kernel, rfl, by decide +kernel, by decide +kernel⟩
set_option maxHeartbeats 4000000 in
theorem ok_table_of {f : Addr} {fd : FuncData} (F : FnQ K "table_of" "table_of" s_table_of f fd) {C_Table : Addr} (m_Table : mg "Table" = some (.ref C_Table)) {f_Table____init__ : Addr} {fd_Table____init__ : FuncData} (F_Table____init__ : FnQ K "__init__" "Table.__init__" s_Table____init__ f_Table____init__ fd_Table____init__) (G_Table____init__ : FnOk P w K mg base CX0 6 f_Table____init__ fd_Table____init__ ["self", "field"] (spInit ⟨mg, K⟩ C_Table sp_Table____init__)) (b_Table____init__ : Binds K fd_Table____init__ ["self", "field"] []) (k_Table_mk : Mk K C_Table f_Table____init__) : FnOk P w K mg base CX0 8 f fd ["field"] (spOf ⟨mg, K⟩ sp_table_of) :=
  DL.ok_def (t := t_table_of) F sc_table_of (fun ds P h => len_table_of h) (fun cdv A outer s H E hr => ⟨_, (dss_one (ds_ret (de_make (gg := ⟨mg, K⟩) k_Table_mk G_Table____init__ (hr.mono (by omega)) (by rfl) m_Table b_Table____init__ (da_cons (de_var 0) da_nil))))⟩) pure_table_of
theorem sc_round_of : FnScope ["field", "one"] ["field", "one"] (defScope s_round_of) := ⟨rfl, rfl, rfl, by decide +kernel, rfl, by decide +kernel, by decide +kernel⟩
set_option maxHeartbeats 4000000 in
theorem ok_round_of {f : Addr} {fd : FuncData} (F : FnQ K "round_of" "round_of" s_round_of f fd) {C_Table : Addr} (m_Table : mg "Table" = some (.ref C_Table)) {f_Table__round_of : Addr} {fd_Table__round_of : FuncData} (F_Table__round_of : FnQ K "round_of" "Table.round_of" s_Table__round_of f_Table__round_of fd_Table__round_of) (G_Table__round_of : FnOk P w K mg base CX0 2 f_Table__round_of fd_Table__round_of ["self", "one"] (spOf ⟨mg, K⟩ sp_Table__round_of)) (b_Table__round_of : Binds K fd_Table__round_of ["self", "one"] []) (k_Table__round_of : MthOk K mg "Table" "round_of" f_Table__round_of) {f_table_of : Addr} {fd_table_of : FuncData} (F_table_of : FnQ K "table_of" "table_of" s_table_of f_table_of fd_table_of) (G_table_of : FnOk P w K mg base CX0 8 f_table_of fd_table_of ["field"] (spOf ⟨mg, K⟩ sp_table_of)) (b_table_of : Binds K fd_table_of ["field"] []) (m_table_of : mg "table_of" = some (.ref f_table_of)) : FnOk P w K mg base CX0 9 f fd ["field", "one"] (spOf ⟨mg, K⟩ sp_round_of) :=
  DL.ok_def (t := t_round_of) F sc_round_of (fun ds P h => len_round_of h) (fun cdv A outer s H E hr => ⟨_, (dss_one (ds_ret (de_meth (gg := ⟨mg, K⟩) (de_call (gg := ⟨mg, K⟩) G_table_of (hr.mono (by omega)) (by rfl) m_table_of F_table_of.kp b_table_of (da_cons (de_var 0) da_nil)) k_Table__round_of G_Table__round_of (hr.mono (by omega)) b_Table__round_of (da_cons (de_var 1) da_nil) m_Table)))⟩) pure_round_of
theorem sc_root_of : FnScope ["field", "n", "table", "one"] ["field", "n"] (defScope s_root_of) := ⟨rfl, rfl, rfl, by decide +kernel, rfl, by decide +kernel, by decide +kernel⟩
set_option maxHeartbeats 4000000 in
theorem okR_root_of {f : Addr} {fd : FuncData} (F : FnQ K "root_of" "root_of" s_root_of f fd) {C_Table : Addr} (m_Table : mg "Table" = some (.ref C_Table)) (k_Table_size : FldOk K mg "Table" "size") (k_Table_many : FldOk K mg "Table" "many") {f_table_of : Addr} {fd_table_of : FuncData} (F_table_of : FnQ K "table_of" "table_of" s_table_of f_table_of fd_table_of) (G_table_of : FnOk P w K mg base CX0 8 f_table_of fd_table_of ["field"] (spOf ⟨mg, K⟩ sp_table_of)) (b_table_of : Binds K fd_table_of ["field"] []) (m_table_of : mg "table_of" = some (.ref f_table_of)) {f_Table__round_of : Addr} {fd_Table__round_of : FuncData} (F_Table__round_of : FnQ K "round_of" "Table.round_of" s_Table__round_of f_Table__round_of fd_Table__round_of) (G_Table__round_of : FnOk P w K mg base CX0 2 f_Table__round_of fd_Table__round_of ["self", "one"] (spOf ⟨mg, K⟩ sp_Table__round_of)) (b_Table__round_of : Binds K fd_Table__round_of ["self", "one"] []) (k_Table__round_of : MthOk K mg "Table" "round_of" f_Table__round_of) (z_range : mg "range" = none) {C_NoRoot : Addr} (E_NoRoot : ErrC K mg "NoRoot" C_NoRoot) : FnOk P w K mg base (L2.CX P w) 9 f fd ["field", "n"] (spR ⟨mg, K⟩ (.ref C_NoRoot) spR_root_of) :=
  DL.ok_defR (t := tR_root_of) F sc_root_of (fun ds h => lenR_root_of h) (fun cdv A outer s H E W0 hr hE tk => ⟨_, (dxs_cons (ds_set (i := 2) sc_root_of.nd rfl (Or.inr rfl) (de_call (gg := ⟨mg, K⟩) G_table_of (hr.mono (by omega)) (by rfl) m_table_of F_table_of.kp b_table_of (da_cons (de_var 0) da_nil)))
    (dxs_when (dt_cmp do_gt (de_op do_mod (de_fld (K := K) (de_var 2) k_Table_size) (de_var 1)) de_int (nomark _)) rfl tk (E_NoRoot.pmk (by rfl)) (fun W1 H1 _ _ I => hE W1 H1 I.wok I.ext)))⟩) pureR_root_of
set_option maxHeartbeats 4000000 in
theorem ok_root_of {f : Addr} {fd : FuncData} (F : FnQ K "root_of" "root_of" s_root_of f fd) {C_Table : Addr} (m_Table : mg "Table" = some (.ref C_Table)) (k_Table_size : FldOk K mg "Table" "size") (k_Table_many : FldOk K mg "Table" "many") {f_table_of : Addr} {fd_table_of : FuncData} (F_table_of : FnQ K "table_of" "table_of" s_table_of f_table_of fd_table_of) (G_table_of : FnOk P w K mg base CX0 8 f_table_of fd_table_of ["field"] (spOf ⟨mg, K⟩ sp_table_of)) (b_table_of : Binds K fd_table_of ["field"] []) (m_table_of : mg "table_of" = some (.ref f_table_of)) {f_Table__round_of : Addr} {fd_Table__round_of : FuncData} (F_Table__round_of : FnQ K "round_of" "Table.round_of" s_Table__round_of f_Table__round_of fd_Table__round_of) (G_Table__round_of : FnOk P w K mg base CX0 2 f_Table__round_of fd_Table__round_of ["self", "one"] (spOf ⟨mg, K⟩ sp_Table__round_of)) (b_Table__round_of : Binds K fd_Table__round_of ["self", "one"] []) (k_Table__round_of : MthOk K mg "Table" "round_of" f_Table__round_of) (z_range : mg "range" = none) : FnOk P w K mg base CX0 9 f fd ["field", "n"] (spOf ⟨mg, K⟩ sp_root_of) :=
  DL.ok_def (t := t_root_of) F sc_root_of (fun ds P h => len_root_of h) (fun cdv A outer s H E hr => ⟨_, (dss_cons (ds_set (i := 2) sc_root_of.nd rfl (Or.inr rfl) (de_call (gg := ⟨mg, K⟩) G_table_of (hr.mono (by omega)) (by rfl) m_table_of F_table_of.kp b_table_of (da_cons (de_var 0) da_nil)))
    (dss_cons (ds_if (dt_cmp do_gt (de_op do_mod (de_fld (K := K) (de_var 2) k_Table_size) (de_var 1)) de_int (nomark _)) (dss_one ds_never) dss_nil)
    (dss_one (ds_ret (de_ix (K := K) (de_lc (own := [("one", 3)]) rfl sc_root_of.nd (di_rng2 (by rfl) z_range (dh_cons de_int (dh_cons (de_fld (K := K) (de_var 2) k_Table_many) dh_nil))) (blkOk_by (N := ["field", "n", "table", "one"]) (sc := defScope s_root_of) (by decide +kernel)) (fun _ _ _ _ _ => (pg_name (i := 3) sc_root_of.nd rfl (Or.inl rfl))) (fun _ => (gc_name (by decide))) (fun _ _ _ _ _ => dts_one (dt_cmp (do_eq hr.units (K := K)) (de_meth (gg := ⟨mg, K⟩) (de_var 2) k_Table__round_of G_Table__round_of (hr.mono (by omega)) b_Table__round_of (da_cons (de_var 3) da_nil) m_Table) (de_var 1) (nomark _))) (fun _ _ _ _ _ => (de_var 3))) de_int)))))⟩) pure_root_of
theorem sc__law_purse : FnScope ["_law_script", "_law_seed", "_law_great", "_law_cell"] ["_law_script"] (defScope s__law_purse) := ⟨rfl, rfl, rfl, by decide +kernel, rfl, by decide +kernel, by decide +kernel⟩
set_option maxHeartbeats 4000000 in
theorem ok__law_purse {f : Addr} {fd : FuncData} (F : FnQ K "_law_purse" "_law_purse" s__law_purse f fd) (z_abs : mg "abs" = none) : FnOk P w K mg base CX0 1 f fd ["_law_script"] (spPurse K) :=
  DL.ok_purse F sc__law_purse rfl fun cdv A outer s H E hr => (pss_cons (ps_par (i := 1) (j := 2) rfl sc__law_purse.nd rfl rfl (by decide) rfl rfl (pa_cons pe_int (pa_cons (pe_lst pa_nil) pa_nil)) rfl)
    (pss_cons (ps_for PassesOwn.never rfl (pi_list (pe_slice sl_list (pv 0) po_none (po_some pe_int))) (pg_name (i := 3) sc__law_purse.nd rfl (Or.inl rfl))
      (pss_cons (ps_set (i := 1) sc__law_purse.nd rfl (Or.inl rfl) (pe_op op_mod (pe_op op_add (pe_op op_add (pe_op op_mul (pv 1) pe_int) (pe_op op_mod (pv 3) pe_int)) pe_int) pe_int))
      (pss_one (ps_if (pt_cmpR op_ge (pe_callB call_abs (by rfl) z_abs boot_abs (pa_cons (pv 3) pa_nil)) (pe_op op_pow pe_int pe_int) (nomark _)) (pss_one (ps_expr (pe_bm PySem.F.plainAttrs_list PySem.F.slot_list_append PySem.F.type_list_append mt_append (pv 2) (pa_cons (pe_op op_mod (pe_callB call_abs (by rfl) z_abs boot_abs (pa_cons (pv 3) pa_nil)) (pe_op op_mulW (pe_op op_pow pe_int pe_int) (pe_op op_pow pe_int pe_int))) pa_nil)))) pss_nil))))
    (pss_one (ps_ret (pe_lst (pa_cons (pv 2) (pa_cons (pv 1) (pa_cons pe_int pa_nil))))))))
theorem sc__law_pick : FnScope ["_law_purse_here", "_law_many", "_law_digit", "_law_turn", "_law_prime", "_law_once", "_law_mixed"] ["_law_purse_here", "_law_many"] (defScope s__law_pick) := ⟨rfl, rfl, rfl, by decide +kernel, rfl, by decide +kernel, by decide +kernel⟩
set_option maxHeartbeats 4000000 in
theorem ok__law_pick {f : Addr} {fd : FuncData} (F : FnQ K "_law_pick" "_law_pick" s__law_pick f fd) : FnOk P w K mg base CX0 1 f fd ["_law_purse_here", "_law_many"] (spOf ⟨mg, K⟩ sp__law_pick) :=
  DL.ok_pick F sc__law_pick rfl fun cdv A outer s H E hr => (pss_cons (ps_while PassesOwn.never (PW.pt (pw_and (pt_cmpR (op_neD hr.units) (pe_ix ix_list (pv 0) pe_int (fun _ _ => rfl)) (pe_lst pa_nil) (nomark _)) (pw_and1 (pt_cmpR (op_eqD hr.units) (pe_ix ix_list (pe_ix ix_list (pv 0) pe_int (fun _ _ => rfl)) pe_int (fun _ _ => rfl)) pe_int (nomark _))))) (pss_one (ps_expr (pe_bm PySem.F.plainAttrs_list PySem.F.slot_list_pop PySem.F.type_list_pop mt_popAt (pe_ix ix_list (pv 0) pe_int (fun _ _ => rfl)) (pa_cons pe_int pa_nil)))))
    (pss_cons (ps_if (pt_cmpR (op_neD hr.units) (pe_ix ix_list (pv 0) pe_int (fun _ _ => rfl)) (pe_lst pa_nil) (nomark _)) (pss_cons (ps_set (i := 2) sc__law_pick.nd rfl (Or.inl rfl) (pe_op op_mod (pe_ix ix_list (pe_ix ix_list (pv 0) pe_int (fun _ _ => rfl)) pe_int (fun _ _ => rfl)) (pv 1))) (pss_cons (ps_asg (pe_op op_fdivW (pe_ix ix_list (pe_ix ix_list (pv 0) pe_int (fun _ _ => rfl)) pe_int (fun _ _ => rfl)) (pv 1)) (pg_sub (pe_ix ix_list (pv 0) pe_int (fun _ _ => rfl)) pe_int set_list)) (pss_one (ps_ret (pv 2))))) pss_nil)
    (pss_cons (ps_asg (pe_op op_add (pe_ix ix_list (pv 0) pe_int (fun _ _ => rfl)) pe_int) (pg_sub (pv 0) pe_int set_list)) (pss_cons (ps_set (i := 3) sc__law_pick.nd rfl (Or.inl rfl) (pe_ix ix_list (pv 0) pe_int (fun _ _ => rfl)))
    (pss_cons (ps_set (i := 4) sc__law_pick.nd rfl (Or.inl rfl) (pe_ix ix_list (pe_lst (pa_cons pe_int (pa_cons pe_int (pa_cons pe_int (pa_cons pe_int (pa_cons pe_int (pa_cons pe_int (pa_cons pe_int pa_nil)))))))) (pe_op op_mod (pv 3) pe_int) (fun _ _ => rfl)))
    (pss_cons (ps_set (i := 5) sc__law_pick.nd rfl (Or.inl rfl) (pe_op op_mod (pe_op op_add (pe_ix ix_list (pv 0) pe_int (fun _ _ => rfl)) (pe_op op_mul pe_int (pv 3))) pe_int))
    (pss_cons (ps_set (i := 6) sc__law_pick.nd rfl (Or.inl rfl) (pe_op op_mul (pe_op op_mod (pe_op op_pow (pv 5) pe_int) pe_int) (pe_op op_add (pe_op op_mul pe_int (pv 3)) pe_int)))
    (pss_one (ps_ret (pe_op op_mod (pe_op op_fdivW (pe_op op_mod (pe_op op_add (pv 6) (pe_op op_fdivW (pe_ix ix_list (pv 0) pe_int (fun _ _ => rfl)) pe_int)) (pv 4)) pe_int) (pv 1)))))))))))
theorem sc__law_raised : FnScope ["_law_one", "_law_many", "_law_found", "_law_turn"] ["_law_one", "_law_many"] (defScope s__law_raised) := ⟨rfl, rfl, rfl, by decide +kernel, rfl, by decide +kernel, by decide +kernel⟩
set_option maxHeartbeats 4000000 in
theorem ok__law_raised {f : Addr} {fd : FuncData} (F : FnQ K "_law_raised" "_law_raised" s__law_raised f fd) (z_range : mg "range" = none) : FnOk P w K mg base CX0 1 f fd ["_law_one", "_law_many"] (spOf ⟨mg, K⟩ sp__law_raised) :=
  DL.ok_def (t := t__law_raised) F sc__law_raised (fun ds P h => len__law_raised h) (fun cdv A outer s H E hr => ⟨_, (dss_cons (ds_set (i := 2) sc__law_raised.nd rfl (Or.inl rfl) de_int)
    (dss_cons (ds_for PassesOwn.never rfl (di_rng1 (by rfl) z_range (dh_cons (de_var 1) dh_nil)) (dg_name (i := 3) sc__law_raised.nd rfl (Or.inl rfl)) (dss_one (ds_set (i := 2) sc__law_raised.nd rfl (Or.inl rfl) (de_op (do_mul (K := K)) (de_var 2) (de_var 0)))))
    (dss_one (ds_ret (de_var 2)))))⟩) pure__law_raised
theorem sc__law_digits : FnScope ["_law_field_here", "_law_thing", "_law_found", "_law_k"] ["_law_field_here", "_law_thing"] (defScope s__law_digits) := ⟨rfl, rfl, rfl, by decide +kernel, rfl, by decide +kernel, by decide +kernel⟩
set_option maxHeartbeats 4000000 in
theorem ok__law_digits {f : Addr} {fd : FuncData} (F : FnQ K "_law_digits" "_law_digits" s__law_digits f fd) (z_range : mg "range" = none) : FnOk P w K mg base CX0 1 f fd ["_law_field_here", "_law_thing"] (spOf ⟨mg, K⟩ sp__law_digits) :=
  DL.ok_def (t := t__law_digits) F sc__law_digits (fun ds P h => len__law_digits h) (fun cdv A outer s H E hr => ⟨_, (dss_cons (ds_set (i := 2) sc__law_digits.nd rfl (Or.inl rfl) (de_lst da_nil))
    (dss_cons (ds_for PassesOwn.never rfl (di_rng1 (by rfl) z_range (dh_cons (de_ix (K := K) (de_var 0) de_int) dh_nil)) (dg_name (i := 3) sc__law_digits.nd rfl (Or.inl rfl)) (dss_cons (ds_append (de_var 2) (de_op do_mod (de_var 1) (de_ix (K := K) (de_var 0) de_int)))
    (dss_one (ds_set (i := 1) sc__law_digits.nd rfl (Or.inl rfl) (de_op do_fdiv (de_var 1) (de_ix (K := K) (de_var 0) de_int))))))
    (dss_one (ds_ret (de_var 2)))))⟩) pure__law_digits
theorem sc__law_number : FnScope ["_law_field_here", "_law_digits_here", "_law_found", "_law_digit"] ["_law_field_here", "_law_digits_here"] (defScope s__law_number) := ⟨rfl, rfl, rfl, by decide +kernel, rfl, by decide +kernel, by decide +kernel⟩
set_option maxHeartbeats 4000000 in
theorem ok__law_number {f : Addr} {fd : FuncData} (F : FnQ K "_law_number" "_law_number" s__law_number f fd) : FnOk P w K mg base CX0 1 f fd ["_law_field_here", "_law_digits_here"] (spOf ⟨mg, K⟩ sp__law_number) :=
  DL.ok_def (t := t__law_number) F sc__law_number (fun ds P h => len__law_number h) (fun cdv A outer s H E hr => ⟨_, (dss_cons (ds_set (i := 2) sc__law_number.nd rfl (Or.inl rfl) de_int)
    (dss_cons (ds_for PassesOwn.never rfl (di_seq (K := K) (de_revL (K := K) (de_var 1))) (dg_name (i := 3) sc__law_number.nd rfl (Or.inl rfl)) (dss_one (ds_set (i := 2) sc__law_number.nd rfl (Or.inl rfl) (de_op (do_add (K := K)) (de_op (do_mul (K := K)) (de_var 2) (de_ix (K := K) (de_var 0) de_int)) (de_var 3)))))
    (dss_one (ds_ret (de_var 2)))))⟩) pure__law_number
theorem sc__law_product : FnScope ["_law_field_here", "_law_one", "_law_other", "_law_p", "_law_m", "_law_top", "_law_row", "_law_j", "_law_digit", "_law_k", "_law_by", "_law_place", "_law_at"] ["_law_field_here", "_law_one", "_law_other"] (defScope s__law_product) := ⟨rfl, rfl, rfl, by decide +kernel, rfl, by decide +kernel, by decide +kernel⟩
set_option maxHeartbeats 4000000 in
theorem ok__law_product {f : Addr} {fd : FuncData} (F : FnQ K "_law_product" "_law_product" s__law_product f fd) {f__law_digits : Addr} {fd__law_digits : FuncData} (F__law_digits : FnQ K "_law_digits" "_law_digits" s__law_digits f__law_digits fd__law_digits) (G__law_digits : FnOk P w K mg base CX0 1 f__law_digits fd__law_digits ["_law_field_here", "_law_thing"] (spOf ⟨mg, K⟩ sp__law_digits)) (b__law_digits : Binds K fd__law_digits ["_law_field_here", "_law_thing"] []) (m__law_digits : mg "_law_digits" = some (.ref f__law_digits)) {f__law_number : Addr} {fd__law_number : FuncData} (F__law_number : FnQ K "_law_number" "_law_number" s__law_number f__law_number fd__law_number) (G__law_number : FnOk P w K mg base CX0 1 f__law_number fd__law_number ["_law_field_here", "_law_digits_here"] (spOf ⟨mg, K⟩ sp__law_number)) (b__law_number : Binds K fd__law_number ["_law_field_here", "_law_digits_here"] []) (m__law_number : mg "_law_number" = some (.ref f__law_number)) (z_enumerate : mg "enumerate" = none) (z_range : mg "range" = none) : FnOk P w K mg base CX0 2 f fd ["_law_field_here", "_law_one", "_law_other"] (spOf ⟨mg, K⟩ sp__law_product) :=
  DL.ok_def (t := t__law_product) F sc__law_product (fun ds P h => len__law_product h) (fun cdv A outer s H E hr => ⟨_, (dss_cons (ds_asg (de_var 0) (dg_tup rfl (dgs_cons (dg_name (i := 3) sc__law_product.nd rfl (Or.inl rfl)) (dgs_cons (dg_name (i := 4) sc__law_product.nd rfl (Or.inl rfl)) (dgs_cons (dg_name (i := 5) sc__law_product.nd rfl (Or.inl rfl)) dgs_nil)))))
    (dss_cons (ds_set (i := 6) sc__law_product.nd rfl (Or.inl rfl) (de_op (do_mul (K := K)) (de_lst (da_cons de_int da_nil)) (de_op do_sub (de_op (do_mul (K := K)) de_int (de_var 4)) de_int)))
    (dss_cons (ds_for PassesOwn.never rfl (di_enum (by rfl) z_enumerate (da_cons (de_call (gg := ⟨mg, K⟩) G__law_digits (hr.mono (by omega)) (by rfl) m__law_digits F__law_digits.kp b__law_digits (da_cons (de_var 0) (da_cons (de_var 1) da_nil))) da_nil) (K := K)) (dg_tup rfl (dgs_cons (dg_name (i := 7) sc__law_product.nd rfl (Or.inl rfl)) (dgs_cons (dg_name (i := 8) sc__law_product.nd rfl (Or.inl rfl)) dgs_nil))) (dss_one (ds_for PassesOwn.never rfl (di_enum (by rfl) z_enumerate (da_cons (de_call (gg := ⟨mg, K⟩) G__law_digits (hr.mono (by omega)) (by rfl) m__law_digits F__law_digits.kp b__law_digits (da_cons (de_var 0) (da_cons (de_var 2) da_nil))) da_nil) (K := K)) (dg_tup rfl (dgs_cons (dg_name (i := 9) sc__law_product.nd rfl (Or.inl rfl)) (dgs_cons (dg_name (i := 10) sc__law_product.nd rfl (Or.inl rfl)) dgs_nil))) (dss_one (ds_setIx (de_op do_mod (de_op (do_add (K := K)) (de_ix (K := K) (de_var 6) (de_op (do_add (K := K)) (de_var 7) (de_var 9))) (de_op (do_mul (K := K)) (de_var 8) (de_var 10))) (de_var 3)) (de_var 6) (de_op (do_add (K := K)) (de_var 7) (de_var 9)))))))
    (dss_cons (ds_for PassesOwn.never rfl (di_rng3 (by rfl) z_range (dh_cons (de_op do_sub (de_op (do_mul (K := K)) de_int (de_var 4)) de_int) (dh_cons (de_op do_sub (de_var 4) de_int) (dh_cons (de_neg de_int) dh_nil)))) (dg_name (i := 11) sc__law_product.nd rfl (Or.inl rfl)) (dss_one (ds_for PassesOwn.never rfl (di_enum (by rfl) z_enumerate (da_cons (de_call (gg := ⟨mg, K⟩) G__law_digits (hr.mono (by omega)) (by rfl) m__law_digits F__law_digits.kp b__law_digits (da_cons (de_var 0) (da_cons (de_var 5) da_nil))) da_nil) (K := K)) (dg_tup rfl (dgs_cons (dg_name (i := 9) sc__law_product.nd rfl (Or.inl rfl)) (dgs_cons (dg_name (i := 8) sc__law_product.nd rfl (Or.inl rfl)) dgs_nil))) (dss_cons (ds_set (i := 12) sc__law_product.nd rfl (Or.inl rfl) (de_op (do_add (K := K)) (de_op do_sub (de_var 11) (de_var 4)) (de_var 9)))
    (dss_one (ds_setIx (de_op do_mod (de_op (do_add (K := K)) (de_ix (K := K) (de_var 6) (de_var 12)) (de_op (do_mul (K := K)) (de_ix (K := K) (de_var 6) (de_var 11)) (de_var 8))) (de_var 3)) (de_var 6) (de_var 12)))))))
    (dss_one (ds_ret (de_call (gg := ⟨mg, K⟩) G__law_number (hr.mono (by omega)) (by rfl) m__law_number F__law_number.kp b__law_number (da_cons (de_var 0) (da_cons (de_slice (K := K) (de_var 6) dp_none (dp_some (de_var 4))) da_nil)))))))))⟩) pure__law_product
theorem sc__law_is_good : FnScope ["_law_field_here", "_law_p", "_law_m", "_law_top", "_law_many", "_law_one", "_law_other"] ["_law_field_here"] (defScope s__law_is_good) := ⟨rfl, rfl, rfl, by decide +kernel, rfl, by decide +kernel, by decide +kernel⟩
set_option maxHeartbeats 4000000 in
theorem ok__law_is_good {f : Addr} {fd : FuncData} (F : FnQ K "_law_is_good" "_law_is_good" s__law_is_good f fd) {f__law_raised : Addr} {fd__law_raised : FuncData} (F__law_raised : FnQ K "_law_raised" "_law_raised" s__law_raised f__law_raised fd__law_raised) (G__law_raised : FnOk P w K mg base CX0 1 f__law_raised fd__law_raised ["_law_one", "_law_many"] (spOf ⟨mg, K⟩ sp__law_raised)) (b__law_raised : Binds K fd__law_raised ["_law_one", "_law_many"] []) (m__law_raised : mg "_law_raised" = some (.ref f__law_raised)) {f__law_product : Addr} {fd__law_product : FuncData} (F__law_product : FnQ K "_law_product" "_law_product" s__law_product f__law_product fd__law_product) (G__law_product : FnOk P w K mg base CX0 2 f__law_product fd__law_product ["_law_field_here", "_law_one", "_law_other"] (spOf ⟨mg, K⟩ sp__law_product)) (b__law_product : Binds K fd__law_product ["_law_field_here", "_law_one", "_law_other"] []) (m__law_product : mg "_law_product" = some (.ref f__law_product)) (z_min : mg "min" = none) (z_range : mg "range" = none) (z_all : mg "all" = none) : FnOk P w K mg base CX0 3 f fd ["_law_field_here"] (spOf ⟨mg, K⟩ sp__law_is_good) :=
  DL.ok_def (t := t__law_is_good) F sc__law_is_good (fun ds P h => len__law_is_good h) (fun cdv A outer s H E hr => ⟨_, (dss_cons (ds_asg (de_var 0) (dg_tup rfl (dgs_cons (dg_name (i := 1) sc__law_is_good.nd rfl (Or.inl rfl)) (dgs_cons (dg_name (i := 2) sc__law_is_good.nd rfl (Or.inl rfl)) (dgs_cons (dg_name (i := 3) sc__law_is_good.nd rfl (Or.inl rfl)) dgs_nil)))))
    (dss_cons (ds_set (i := 4) sc__law_is_good.nd rfl (Or.inl rfl) (de_call (gg := ⟨mg, K⟩) G__law_raised (hr.mono (by omega)) (by rfl) m__law_raised F__law_raised.kp b__law_raised (da_cons (de_var 1) (da_cons (de_var 2) da_nil))))
    (dss_cons (ds_for PassesOwn.never rfl (di_rng2 (by rfl) z_range (dh_cons de_int (dh_cons (de_callB (dc_min2 rfl) (by rfl) z_min boot_min (dh_cons (de_var 4) (dh_cons (de_call (gg := ⟨mg, K⟩) G__law_raised (hr.mono (by omega)) (by rfl) m__law_raised F__law_raised.kp b__law_raised (da_cons (de_var 1) (da_cons (de_op (do_add (K := K)) (de_op do_fdiv (de_var 2) de_int) de_int) da_nil))) dh_nil))) dh_nil))) (dg_name (i := 5) sc__law_is_good.nd rfl (Or.inr rfl)) (dss_one (ds_if (dt_not (dt_tru (K := K) (de_callB (dc_all rfl (K := K)) (by rfl) z_all boot_all (dh_cons (de_lc (own := [("_law_other", 6)]) rfl sc__law_is_good.nd (di_rng2 (by rfl) z_range (dh_cons de_int (dh_cons (de_var 4) dh_nil))) (blkOk_by (N := ["_law_field_here", "_law_p", "_law_m", "_law_top", "_law_many", "_law_one", "_law_other"]) (sc := defScope s__law_is_good) (by decide +kernel)) (fun _ _ _ _ _ => (pg_name (i := 6) sc__law_is_good.nd rfl (Or.inl rfl))) (fun _ => (gc_name (by decide))) (fun _ _ _ _ _ => dts_nil) (fun _ _ _ _ _ => (de_cmp do_gt (de_call (gg := ⟨mg, K⟩) G__law_product (hr.mono (by omega)) (by rfl) m__law_product F__law_product.kp b__law_product (da_cons (de_var 0) (da_cons (de_var 5) (da_cons (de_var 6) da_nil)))) de_int (nomark _)))) dh_nil)))) (dss_one (ds_ret de_bl)) dss_nil)))
    (dss_one (ds_ret de_bl)))))⟩) pure__law_is_good
theorem sc__law_field : FnScope ["_law_purse_here", "_law_some", "_law_size", "_law_p", "_law_m", "_law_many", "_law_start", "_law_turn", "_law_field_here"] ["_law_purse_here"] (defScope s__law_field) := ⟨rfl, rfl, rfl, by decide +kernel, rfl, by decide +kernel, by decide +kernel⟩
set_option maxHeartbeats 4000000 in
theorem ok__law_field {f : Addr} {fd : FuncData} (F : FnQ K "_law_field" "_law_field" s__law_field f fd) {f__law_pick : Addr} {fd__law_pick : FuncData} (F__law_pick : FnQ K "_law_pick" "_law_pick" s__law_pick f__law_pick fd__law_pick) (G__law_pick : FnOk P w K mg base CX0 1 f__law_pick fd__law_pick ["_law_purse_here", "_law_many"] (spOf ⟨mg, K⟩ sp__law_pick)) (b__law_pick : Binds K fd__law_pick ["_law_purse_here", "_law_many"] []) (m__law_pick : mg "_law_pick" = some (.ref f__law_pick)) {f__law_raised : Addr} {fd__law_raised : FuncData} (F__law_raised : FnQ K "_law_raised" "_law_raised" s__law_raised f__law_raised fd__law_raised) (G__law_raised : FnOk P w K mg base CX0 1 f__law_raised fd__law_raised ["_law_one", "_law_many"] (spOf ⟨mg, K⟩ sp__law_raised)) (b__law_raised : Binds K fd__law_raised ["_law_one", "_law_many"] []) (m__law_raised : mg "_law_raised" = some (.ref f__law_raised)) {f__law_is_good : Addr} {fd__law_is_good : FuncData} (F__law_is_good : FnQ K "_law_is_good" "_law_is_good" s__law_is_good f__law_is_good fd__law_is_good) (G__law_is_good : FnOk P w K mg base CX0 3 f__law_is_good fd__law_is_good ["_law_field_here"] (spOf ⟨mg, K⟩ sp__law_is_good)) (b__law_is_good : Binds K fd__law_is_good ["_law_field_here"] []) (m__law_is_good : mg "_law_is_good" = some (.ref f__law_is_good)) (z_len : mg "len" = none) (z_range : mg "range" = none) : FnOk P w K mg base CX0 4 f fd ["_law_purse_here"] (spOf ⟨mg, K⟩ sp__law_field) :=
  DL.ok_def (t := t__law_field) F sc__law_field (fun ds P h => len__law_field h) (fun cdv A outer s H E hr => ⟨_, (dss_cons (ds_set (i := 1) sc__law_field.nd rfl (Or.inl rfl) (de_lst (da_cons (de_tup (da_cons de_int (da_cons de_int da_nil))) (da_cons (de_tup (da_cons de_int (da_cons de_int da_nil))) (da_cons (de_tup (da_cons de_int (da_cons de_int da_nil))) (da_cons (de_tup (da_cons de_int (da_cons de_int da_nil))) (da_cons (de_tup (da_cons de_int (da_cons de_int da_nil))) (da_cons (de_tup (da_cons de_int (da_cons de_int da_nil))) (da_cons (de_tup (da_cons de_int (da_cons de_int da_nil))) (da_cons (de_tup (da_cons de_int (da_cons de_int da_nil))) (da_cons (de_tup (da_cons de_int (da_cons de_int da_nil))) (da_cons (de_tup (da_cons de_int (da_cons de_int da_nil))) (da_cons (de_tup (da_cons de_int (da_cons de_int da_nil))) (da_cons (de_tup (da_cons de_int (da_cons de_int da_nil))) da_nil))))))))))))))
    (dss_cons (ds_set (i := 2) sc__law_field.nd rfl (Or.inl rfl) (de_call (gg := ⟨mg, K⟩) G__law_pick (hr.mono (by omega)) (by rfl) m__law_pick F__law_pick.kp b__law_pick (da_cons (de_var 0) (da_cons de_int da_nil))))
    (dss_cons (ds_if (dt_cmp (do_eq hr.units (K := K)) (de_var 2) de_int (nomark _)) (dss_one (ds_set (i := 1) sc__law_field.nd rfl (Or.inl rfl) (de_lst (da_cons (de_tup (da_cons de_int (da_cons de_int da_nil))) (da_cons (de_tup (da_cons de_int (da_cons de_int da_nil))) (da_cons (de_tup (da_cons de_int (da_cons de_int da_nil))) (da_cons (de_tup (da_cons de_int (da_cons de_int da_nil))) da_nil))))))) dss_nil)
    (dss_cons (ds_if (dt_cmp (do_eq hr.units (K := K)) (de_var 2) de_int (nomark _)) (dss_one (ds_setLc (i := 1) (own := [("_law_p", 3)]) rfl sc__law_field.nd rfl rfl (sw_true rfl rfl rfl (by decide +kernel)) (di_seq (K := K) (de_lst (da_cons de_int (da_cons de_int (da_cons de_int (da_cons de_int (da_cons de_int (da_cons de_int (da_cons de_int (da_cons de_int (da_cons de_int (da_cons de_int (da_cons de_int da_nil))))))))))))) (blkOk_by (N := ["_law_purse_here", "_law_some", "_law_size", "_law_p", "_law_m", "_law_many", "_law_start", "_law_turn", "_law_field_here"]) (sc := defScope s__law_field) (by decide +kernel)) (fun _ _ _ _ _ => (pg_name (i := 3) sc__law_field.nd rfl (Or.inl rfl))) (fun _ => (gc_name (by decide))) (fun _ _ _ _ _ => dts_nil) (fun _ _ _ _ _ => (de_tup (da_cons (de_var 3) (da_cons de_int da_nil)))))) dss_nil)
    (dss_cons (ds_asg (de_ix (K := K) (de_var 1) (de_call (gg := ⟨mg, K⟩) G__law_pick (hr.mono (by omega)) (by rfl) m__law_pick F__law_pick.kp b__law_pick (da_cons (de_var 0) (da_cons (de_callB (dc_len (K := K)) (by rfl) z_len boot_len (dh_cons (de_var 1) dh_nil)) da_nil)))) (dg_tup rfl (dgs_cons (dg_name (i := 3) sc__law_field.nd rfl (Or.inl rfl)) (dgs_cons (dg_name (i := 4) sc__law_field.nd rfl (Or.inl rfl)) dgs_nil))))
    (dss_cons (ds_set (i := 5) sc__law_field.nd rfl (Or.inl rfl) (de_call (gg := ⟨mg, K⟩) G__law_raised (hr.mono (by omega)) (by rfl) m__law_raised F__law_raised.kp b__law_raised (da_cons (de_var 3) (da_cons (de_var 4) da_nil))))
    (dss_cons (ds_set (i := 6) sc__law_field.nd rfl (Or.inl rfl) (de_call (gg := ⟨mg, K⟩) G__law_pick (hr.mono (by omega)) (by rfl) m__law_pick F__law_pick.kp b__law_pick (da_cons (de_var 0) (da_cons (de_var 5) da_nil))))
    (dss_cons (ds_for PassesOwn.never rfl (di_rng1 (by rfl) z_range (dh_cons (de_var 5) dh_nil)) (dg_name (i := 7) sc__law_field.nd rfl (Or.inl rfl)) (dss_cons (ds_set (i := 8) sc__law_field.nd rfl (Or.inl rfl) (de_tup (da_cons (de_var 3) (da_cons (de_var 4) (da_cons (de_op do_mod (de_op (do_add (K := K)) (de_var 6) (de_var 7)) (de_var 5)) da_nil)))))
    (dss_one (ds_if (DW.dt (dw_or (dt_cmp (do_eq hr.units (K := K)) (de_var 4) de_int (nomark _)) (dw_or1 (dt_tru (K := K) (de_call (gg := ⟨mg, K⟩) G__law_is_good (hr.mono (by omega)) (by rfl) m__law_is_good F__law_is_good.kp b__law_is_good (da_cons (de_var 8) da_nil)))))) (dss_one (ds_ret (de_var 8))) dss_nil))))
    (dss_one (ds_ret (de_tup (da_cons (de_var 3) (da_cons de_int (da_cons de_int da_nil))))))))))))))⟩) pure__law_field
theorem sc__law_same : FnScope ["_law_found", "_law_due", "_law_one", "_law_other"] ["_law_found", "_law_due"] (defScope s__law_same) := ⟨rfl, rfl, rfl, by decide +kernel, rfl, by decide +kernel, by decide +kernel⟩
set_option maxHeartbeats 4000000 in
theorem rec__law_same {f__law_same : Addr} {fd__law_same : FuncData} (F__law_same : FnP K "_law_same" s__law_same f__law_same fd__law_same) (m__law_same : mg "_law_same" = some (.ref f__law_same)) (b__law_same : Binds K fd__law_same ["_law_found", "_law_due"] []) (z_tuple : mg "tuple" = none) (z_isinstance : mg "isinstance" = none) (z_len : mg "len" = none) (z_zip : mg "zip" = none) (z_all : mg "all" = none) (z_int : mg "int" = none) (z_bool : mg "bool" = none) : ∀ n : Nat, FnOk P w K mg base CX0 (n + 0) f__law_same fd__law_same ["_law_found", "_law_due"] (spOf ⟨mg, K⟩ (sp__law_same n))
  | 0 => (DL.ok_none (fun ds P h => sp0__law_same h))
  | n + 1 => by
    have G__law_same := rec__law_same F__law_same m__law_same b__law_same z_tuple z_isinstance z_len z_zip z_all z_int z_bool n
    exact DL.ok_def (k := n + 0) (t := t__law_same n) F__law_same sc__law_same (fun ds P h => len__law_same h) (fun cdv A outer s H E hr => ⟨_, (dss_cons (ds_if (dt_tru (K := K) (de_isi (K := K) (de_var 1) kit_tuple (by rfl) z_isinstance (by rfl) z_tuple boot_tuple)) (dss_cons (ds_if (DW.dt (dw_or (dt_not (dt_tru (K := K) (de_isi (K := K) (de_var 0) kit_tuple (by rfl) z_isinstance (by rfl) z_tuple boot_tuple))) (dw_or1 (dt_cmp (do_ne hr.units (K := K)) (de_callB (dc_len (K := K)) (by rfl) z_len boot_len (dh_cons (de_var 0) dh_nil)) (de_callB (dc_len (K := K)) (by rfl) z_len boot_len (dh_cons (de_var 1) dh_nil)) (nomark _))))) (dss_one (ds_ret de_bl)) dss_nil)
    (dss_one (ds_ret (de_callB (dc_all rfl (K := K)) (by rfl) z_all boot_all (dh_cons (de_lc (own := [("_law_one", 2), ("_law_other", 3)]) rfl sc__law_same.nd (di_zip (by rfl) z_zip (da_cons (de_var 0) (da_cons (de_var 1) da_nil)) (K := K)) (blkOk_by (N := ["_law_found", "_law_due", "_law_one", "_law_other"]) (sc := defScope s__law_same) (by decide +kernel)) (fun _ _ _ _ _ => (pgk_tup (K := K) rfl (pgs_cons (pg_name (i := 2) sc__law_same.nd rfl (Or.inl rfl)) (pgs_cons (pg_name (i := 3) sc__law_same.nd rfl (Or.inl rfl)) pgs_nil)))) (fun _ => (gc_tup (gcs_cons (gc_name (by decide)) (gcs_cons (gc_name (by decide)) gcs_nil)))) (fun _ _ _ _ _ => dts_nil) (fun _ _ _ _ _ => (de_call (gg := ⟨mg, K⟩) G__law_same (hr.mono (by omega)) (by rfl) m__law_same F__law_same.kp b__law_same (da_cons (de_var 2) (da_cons (de_var 3) da_nil))))) dh_nil))))) dss_nil)
    (dss_one (ds_ret (de_and (de_isi (K := K) (de_var 0) kit_int (by rfl) z_isinstance (by rfl) z_int boot_int) (de_and (de_not (de_isi (K := K) (de_var 0) kit_bool (by rfl) z_isinstance (by rfl) z_bool boot_bool)) (de_one (de_cmp (do_eq hr.units (K := K)) (de_var 0) (de_var 1) (nomark _))))))))⟩) (pure__law_same n)
theorem sc__law_word : FnScope ["_law_e", "_law_some", "_law_found", "_law_word_here", "_law_truth"] ["_law_e"] (defScope s__law_word) := ⟨rfl, rfl, rfl, by decide +kernel, rfl, by decide +kernel, by decide +kernel⟩
set_option maxHeartbeats 4000000 in
theorem ok__law_word {f : Addr} {fd : FuncData} (F : FnQ K "_law_word" "_law_word" s__law_word f fd) {C_NoRoot : Addr} (m_NoRoot : mg "NoRoot" = some (.ref C_NoRoot)) {C_ByNought : Addr} (m_ByNought : mg "ByNought" = some (.ref C_ByNought)) {C_TooMany : Addr} (m_TooMany : mg "TooMany" = some (.ref C_TooMany)) {C_NoText : Addr} (m_NoText : mg "NoText" = some (.ref C_NoText)) {C_NoLine : Addr} (m_NoLine : mg "NoLine" = some (.ref C_NoLine)) (E_NoRoot : ErrC K mg "NoRoot" C_NoRoot) (ki_NoRoot_ByNought : PySem.W.kitOne K (.ref C_NoRoot) (.ref C_ByNought) = some false) (ki_NoRoot_NoRoot : PySem.W.kitOne K (.ref C_NoRoot) (.ref C_NoRoot) = some true) (ki_NoRoot_TooMany : PySem.W.kitOne K (.ref C_NoRoot) (.ref C_TooMany) = some false) (ki_NoRoot_NoText : PySem.W.kitOne K (.ref C_NoRoot) (.ref C_NoText) = some false) (ki_NoRoot_NoLine : PySem.W.kitOne K (.ref C_NoRoot) (.ref C_NoLine) = some false) (ki_NoRoot_ValueError : PySem.W.kitOne K (.ref C_NoRoot) (.type "ValueError") = some true) (z_isinstance : mg "isinstance" = none) (z_len : mg "len" = none) (z_ValueError : mg "ValueError" = none) : FnOk P w K mg base CX0 1 f fd ["_law_e"] (spOf ⟨mg, K⟩ sp__law_word) :=
  DL.ok_def (t := t__law_word) F sc__law_word (fun ds P h => len__law_word h) (fun cdv A outer s H E hr => ⟨_, (dss_cons (ds_set (i := 1) sc__law_word.nd rfl (Or.inl rfl) (de_lst (da_cons (de_tup (da_cons de_str (da_cons (de_isX (b := false) E_NoRoot.e m_NoRoot (de_var 0) (pe_glob (v := .ref C_ByNought) (by rfl) m_ByNought rfl) (fun _ h => h) ki_NoRoot_ByNought (by rfl) z_isinstance) da_nil))) (da_cons (de_tup (da_cons de_str (da_cons (de_isX (b := true) E_NoRoot.e m_NoRoot (de_var 0) (pe_glob (v := .ref C_NoRoot) (by rfl) m_NoRoot rfl) (fun _ h => h) ki_NoRoot_NoRoot (by rfl) z_isinstance) da_nil))) (da_cons (de_tup (da_cons de_str (da_cons (de_isX (b := false) E_NoRoot.e m_NoRoot (de_var 0) (pe_glob (v := .ref C_TooMany) (by rfl) m_TooMany rfl) (fun _ h => h) ki_NoRoot_TooMany (by rfl) z_isinstance) da_nil))) da_nil)))))
    (dss_cons (ds_set (i := 1) sc__law_word.nd rfl (Or.inl rfl) (de_op (do_add (K := K)) (de_var 1) (de_lst (da_cons (de_tup (da_cons de_str (da_cons (de_isX (b := false) E_NoRoot.e m_NoRoot (de_var 0) (pe_glob (v := .ref C_NoText) (by rfl) m_NoText rfl) (fun _ h => h) ki_NoRoot_NoText (by rfl) z_isinstance) da_nil))) (da_cons (de_tup (da_cons de_str (da_cons (de_isX (b := false) E_NoRoot.e m_NoRoot (de_var 0) (pe_glob (v := .ref C_NoLine) (by rfl) m_NoLine rfl) (fun _ h => h) ki_NoRoot_NoLine (by rfl) z_isinstance) da_nil))) da_nil)))))
    (dss_cons (ds_setLc (i := 2) (own := [("_law_word_here", 3), ("_law_truth", 4)]) rfl sc__law_word.nd rfl rfl (sw_true rfl rfl rfl (by decide +kernel)) (di_seq (K := K) (de_var 1)) (blkOk_by (N := ["_law_e", "_law_some", "_law_found", "_law_word_here", "_law_truth"]) (sc := defScope s__law_word) (by decide +kernel)) (fun _ _ _ _ _ => (pgk_tup (K := K) rfl (pgs_cons (pg_name (i := 3) sc__law_word.nd rfl (Or.inl rfl)) (pgs_cons (pg_name (i := 4) sc__law_word.nd rfl (Or.inl rfl)) pgs_nil)))) (fun _ => (gc_tup (gcs_cons (gc_name (by decide)) (gcs_cons (gc_name (by decide)) gcs_nil)))) (fun _ _ _ _ _ => dts_one (dt_tru (K := K) (de_var 4))) (fun _ _ _ _ _ => (de_var 3)))
    (dss_one (ds_ret (de_if (DW.dt (dw_and (dt_cmp (do_eq hr.units (K := K)) (de_callB (dc_len (K := K)) (by rfl) z_len boot_len (dh_cons (de_var 2) dh_nil)) de_int (nomark _)) (dw_and1 (dt_tru (K := K) (de_isX (b := true) E_NoRoot.e m_NoRoot (de_var 0) (pe_bltn (v := .ty "ValueError") (u := .type "ValueError") (by rfl) z_ValueError (by rfl) rfl) (fun _ h => h) ki_NoRoot_ValueError (by rfl) z_isinstance))))) (de_ix (K := K) (de_var 2) de_int) de_str))))))⟩) pure__law_word
theorem sc__law_round : FnScope ["_law_field_here", "_law_one", "_law_many", "_law_thing"] ["_law_field_here", "_law_one"] (defScope s__law_round) := ⟨rfl, rfl, rfl, by decide +kernel, rfl, by decide +kernel, by decide +kernel⟩
set_option maxHeartbeats 4000000 in
theorem ok__law_round {f : Addr} {fd : FuncData} (F : FnQ K "_law_round" "_law_round" s__law_round f fd) {f__law_product : Addr} {fd__law_product : FuncData} (F__law_product : FnQ K "_law_product" "_law_product" s__law_product f__law_product fd__law_product) (G__law_product : FnOk P w K mg base CX0 2 f__law_product fd__law_product ["_law_field_here", "_law_one", "_law_other"] (spOf ⟨mg, K⟩ sp__law_product)) (b__law_product : Binds K fd__law_product ["_law_field_here", "_law_one", "_law_other"] []) (m__law_product : mg "_law_product" = some (.ref f__law_product)) : FnOk P w K mg base CX0 3 f fd ["_law_field_here", "_law_one"] (spOf ⟨mg, K⟩ sp__law_round) :=
  DL.ok_def (t := t__law_round) F sc__law_round (fun ds P h => len__law_round h) (fun cdv A outer s H E hr => ⟨_, (dss_cons (ds_par (i := 2) (j := 3) rfl sc__law_round.nd rfl rfl (by decide) rfl rfl de_int (de_var 1) rfl)
    (dss_cons (ds_while PassesOwn.never (dt_cmp (do_ne hr.units (K := K)) (de_var 3) de_int (nomark _)) (dss_one (ds_par (i := 2) (j := 3) rfl sc__law_round.nd rfl rfl (by decide) rfl rfl (de_op (do_add (K := K)) (de_var 2) de_int) (de_call (gg := ⟨mg, K⟩) G__law_product (hr.mono (by omega)) (by rfl) m__law_product F__law_product.kp b__law_product (da_cons (de_var 0) (da_cons (de_var 3) (da_cons (de_var 1) da_nil)))) rfl)))
    (dss_one (ds_ret (de_var 2)))))⟩) pure__law_round
theorem sc__law_refused : FnScope ["_law_field_here", "_law_n", "_law_caught", "_law_e"] ["_law_field_here", "_law_n"] (defScope s__law_refused) := ⟨rfl, rfl, rfl, by decide +kernel, rfl, by decide +kernel, by decide +kernel⟩
set_option maxHeartbeats 4000000 in
theorem okR__law_refused {f : Addr} {fd : FuncData} (F : FnQ K "_law_refused" "_law_refused" s__law_refused f fd) {f_root_of : Addr} {fd_root_of : FuncData} (F_root_of : FnQ K "root_of" "root_of" s_root_of f_root_of fd_root_of) (G_root_of : FnOk P w K mg base CX0 9 f_root_of fd_root_of ["field", "n"] (spOf ⟨mg, K⟩ sp_root_of)) (b_root_of : Binds K fd_root_of ["field", "n"] []) (m_root_of : mg "root_of" = some (.ref f_root_of)) {f__law_word : Addr} {fd__law_word : FuncData} (F__law_word : FnQ K "_law_word" "_law_word" s__law_word f__law_word fd__law_word) (G__law_word : FnOk P w K mg base CX0 1 f__law_word fd__law_word ["_law_e"] (spOf ⟨mg, K⟩ sp__law_word)) (b__law_word : Binds K fd__law_word ["_law_e"] []) (m__law_word : mg "_law_word" = some (.ref f__law_word)) {C_NoRoot : Addr} (m_NoRoot : mg "NoRoot" = some (.ref C_NoRoot)) {C_RoundError : Addr} (m_RoundError : mg "RoundError" = some (.ref C_RoundError)) (E_NoRoot : ErrC K mg "NoRoot" C_NoRoot) (x_NoRoot : PySem.W.exmOne K (.ref C_NoRoot) (.ref C_RoundError) = some true) (R_root_of : FnOk P w K mg base (L2.CX P w) 9 f_root_of fd_root_of ["field", "n"] (spR ⟨mg, K⟩ (.ref C_NoRoot) spR_root_of)) : FnOk P w K mg base CX0 10 f fd ["_law_field_here", "_law_n"] (spOf ⟨mg, K⟩ spR__law_refused) :=
  DL.ok_def (t := tR__law_refused) F sc__law_refused (fun ds P h => lenR__law_refused h) (fun cdv A outer s H E hr => ⟨_, (dss_cons (ds_set (i := 2) sc__law_refused.nd rfl (Or.inl rfl) de_non)
    (dss_kpE (i := 3) (j := 2) rfl rfl rfl sc__law_refused.nd rfl rfl ⟨by rfl, by decide, .inl m_RoundError⟩ x_NoRoot m_NoRoot rfl (Or.inl rfl) (by decide) (dtb_expr (gg := ⟨mg, K⟩) R_root_of (hr.mono (by omega)) (by rfl) m_root_of F_root_of.kp b_root_of (fun _ _ => (da_cons (de_var 0) (da_cons (de_var 1) da_nil))))
    (dss_one (ds_ret (de_and (de_cmp do_notN (de_var 2) de_non (nomark _)) (de_one (de_cmp (do_eq hr.units (K := K)) (de_call (gg := ⟨mg, K⟩) G__law_word (hr.mono (by omega)) (by rfl) m__law_word F__law_word.kp b__law_word (da_cons (de_var 2) da_nil)) de_str (nomark _))))))))⟩) pureR__law_refused
theorem ok__law_refused {f : Addr} {fd : FuncData} (F : FnQ K "_law_refused" "_law_refused" s__law_refused f fd) {f_root_of : Addr} {fd_root_of : FuncData} (F_root_of : FnQ K "root_of" "root_of" s_root_of f_root_of fd_root_of) (G_root_of : FnOk P w K mg base CX0 9 f_root_of fd_root_of ["field", "n"] (spOf ⟨mg, K⟩ sp_root_of)) (b_root_of : Binds K fd_root_of ["field", "n"] []) (m_root_of : mg "root_of" = some (.ref f_root_of)) {f__law_word : Addr} {fd__law_word : FuncData} (F__law_word : FnQ K "_law_word" "_law_word" s__law_word f__law_word fd__law_word) (G__law_word : FnOk P w K mg base CX0 1 f__law_word fd__law_word ["_law_e"] (spOf ⟨mg, K⟩ sp__law_word)) (b__law_word : Binds K fd__law_word ["_law_e"] []) (m__law_word : mg "_law_word" = some (.ref f__law_word)) {C_NoRoot : Addr} (m_NoRoot : mg "NoRoot" = some (.ref C_NoRoot)) {C_RoundError : Addr} (m_RoundError : mg "RoundError" = some (.ref C_RoundError)) (E_NoRoot : ErrC K mg "NoRoot" C_NoRoot) (x_NoRoot : PySem.W.exmOne K (.ref C_NoRoot) (.ref C_RoundError) = some true) (R_root_of : FnOk P w K mg base (L2.CX P w) 9 f_root_of fd_root_of ["field", "n"] (spR ⟨mg, K⟩ (.ref C_NoRoot) spR_root_of)) : FnOk P w K mg base CX0 10 f fd ["_law_field_here", "_law_n"] (spOf ⟨mg, K⟩ sp__law_refused) :=
  (okR__law_refused F F_root_of G_root_of b_root_of m_root_of F__law_word G__law_word b__law_word m__law_word m_NoRoot m_RoundError E_NoRoot x_NoRoot R_root_of)
theorem sc_law : FnScope ["_law_script", "_law_purse_here", "_law_turn", "_law_field_here", "_law_many", "_law_rounds", "_law_far", "_law_one", "_law_n"] ["_law_script"] (defScope s_law) := ⟨rfl, rfl, rfl, by decide +kernel, rfl, by decide +kernel, by decide +kernel⟩
set_option maxHeartbeats 4000000 in
theorem ok_law {f : Addr} {fd : FuncData} (F : FnQ K "law" "law" s_law f fd) {f__law_field : Addr} {fd__law_field : FuncData} (F__law_field : FnQ K "_law_field" "_law_field" s__law_field f__law_field fd__law_field) (G__law_field : FnOk P w K mg base CX0 4 f__law_field fd__law_field ["_law_purse_here"] (spOf ⟨mg, K⟩ sp__law_field)) (b__law_field : Binds K fd__law_field ["_law_purse_here"] []) (m__law_field : mg "_law_field" = some (.ref f__law_field)) {f__law_raised : Addr} {fd__law_raised : FuncData} (F__law_raised : FnQ K "_law_raised" "_law_raised" s__law_raised f__law_raised fd__law_raised) (G__law_raised : FnOk P w K mg base CX0 1 f__law_raised fd__law_raised ["_law_one", "_law_many"] (spOf ⟨mg, K⟩ sp__law_raised)) (b__law_raised : Binds K fd__law_raised ["_law_one", "_law_many"] []) (m__law_raised : mg "_law_raised" = some (.ref f__law_raised)) {f__law_round : Addr} {fd__law_round : FuncData} (F__law_round : FnQ K "_law_round" "_law_round" s__law_round f__law_round fd__law_round) (G__law_round : FnOk P w K mg base CX0 3 f__law_round fd__law_round ["_law_field_here", "_law_one"] (spOf ⟨mg, K⟩ sp__law_round)) (b__law_round : Binds K fd__law_round ["_law_field_here", "_law_one"] []) (m__law_round : mg "_law_round" = some (.ref f__law_round)) {f__law_pick : Addr} {fd__law_pick : FuncData} (F__law_pick : FnQ K "_law_pick" "_law_pick" s__law_pick f__law_pick fd__law_pick) (G__law_pick : FnOk P w K mg base CX0 1 f__law_pick fd__law_pick ["_law_purse_here", "_law_many"] (spOf ⟨mg, K⟩ sp__law_pick)) (b__law_pick : Binds K fd__law_pick ["_law_purse_here", "_law_many"] []) (m__law_pick : mg "_law_pick" = some (.ref f__law_pick)) {f__law_same : Addr} {fd__law_same : FuncData} (F__law_same : FnQ K "_law_same" "_law_same" s__law_same f__law_same fd__law_same) (G__law_same : FnOk P w K mg base CX0 4 f__law_same fd__law_same ["_law_found", "_law_due"] (spOf ⟨mg, K⟩ (sp__law_same 4))) (b__law_same : Binds K fd__law_same ["_law_found", "_law_due"] []) (m__law_same : mg "_law_same" = some (.ref f__law_same)) {f_round_of : Addr} {fd_round_of : FuncData} (F_round_of : FnQ K "round_of" "round_of" s_round_of f_round_of fd_round_of) (G_round_of : FnOk P w K mg base CX0 9 f_round_of fd_round_of ["field", "one"] (spOf ⟨mg, K⟩ sp_round_of)) (b_round_of : Binds K fd_round_of ["field", "one"] []) (m_round_of : mg "round_of" = some (.ref f_round_of)) {f_root_of : Addr} {fd_root_of : FuncData} (F_root_of : FnQ K "root_of" "root_of" s_root_of f_root_of fd_root_of) (G_root_of : FnOk P w K mg base CX0 9 f_root_of fd_root_of ["field", "n"] (spOf ⟨mg, K⟩ sp_root_of)) (b_root_of : Binds K fd_root_of ["field", "n"] []) (m_root_of : mg "root_of" = some (.ref f_root_of)) {f__law_refused : Addr} {fd__law_refused : FuncData} (F__law_refused : FnQ K "_law_refused" "_law_refused" s__law_refused f__law_refused fd__law_refused) (G__law_refused : FnOk P w K mg base CX0 10 f__law_refused fd__law_refused ["_law_field_here", "_law_n"] (spOf ⟨mg, K⟩ sp__law_refused)) (b__law_refused : Binds K fd__law_refused ["_law_field_here", "_law_n"] []) (m__law_refused : mg "_law_refused" = some (.ref f__law_refused)) {f__law_purse : Addr} {fd__law_purse : FuncData} (F__law_purse : FnQ K "_law_purse" "_law_purse" s__law_purse f__law_purse fd__law_purse) (G__law_purse : FnOk P w K mg base CX0 1 f__law_purse fd__law_purse ["_law_script"] (spPurse K)) (b__law_purse : Binds K fd__law_purse ["_law_script"] []) (m__law_purse : mg "_law_purse" = some (.ref f__law_purse)) (z_len : mg "len" = none) (z_min : mg "min" = none) (z_max : mg "max" = none) (z_range : mg "range" = none) (z_list : mg "list" = none) : FnG P w K mg base CX0 11 f fd ["_law_script"] (spLaw K) :=
  DL.ok_lawG (t := t_law) F sc_law (by decide) (fun cdv A outer s H E hgd hr => by
    have R : DSs (cxOf CX0 P w K mg base ["_law_script", "_law_purse_here", "_law_turn", "_law_field_here", "_law_many", "_law_rounds", "_law_far", "_law_one", "_law_n"] "law" (defScope s_law) f cdv A outer s H E).nox (defBody s_law).tail _ t_law := (dss_cons (ds_for PassesOwn.never rfl (di_rng1 (by rfl) z_range (dh_cons (de_callB (dc_max2 rfl) (by rfl) z_max boot_max (dh_cons de_int (dh_cons (de_callB (dc_min2 rfl) (by rfl) z_min boot_min (dh_cons de_int (dh_cons (de_callB (dc_len (K := K)) (by rfl) z_len boot_len (dh_cons (de_var 0) dh_nil)) dh_nil))) dh_nil))) dh_nil)) (dg_name (i := 2) sc_law.nd rfl (Or.inl rfl)) (dss_cons (ds_set (i := 3) sc_law.nd rfl (Or.inr rfl) (de_call (gg := ⟨mg, K⟩) G__law_field (hr.mono (by omega)) (by rfl) m__law_field F__law_field.kp b__law_field (da_cons (de_var 1) da_nil)))
    (dss_cons (ds_set (i := 4) sc_law.nd rfl (Or.inl rfl) (de_call (gg := ⟨mg, K⟩) G__law_raised (hr.mono (by omega)) (by rfl) m__law_raised F__law_raised.kp b__law_raised (da_cons (de_ix (K := K) (de_var 3) de_int) (da_cons (de_ix (K := K) (de_var 3) de_int) da_nil))))
    (dss_cons (ds_set (i := 5) sc_law.nd rfl (Or.inl rfl) (de_op (do_add (K := K)) (de_lst (da_cons de_int da_nil)) (de_lc (own := [("_law_one", 7)]) rfl sc_law.nd (di_rng2 (by rfl) z_range (dh_cons de_int (dh_cons (de_var 4) dh_nil))) (blkOk_by (N := ["_law_script", "_law_purse_here", "_law_turn", "_law_field_here", "_law_many", "_law_rounds", "_law_far", "_law_one", "_law_n"]) (sc := defScope s_law) (by decide +kernel)) (fun _ _ _ _ _ => (pg_name (i := 7) sc_law.nd rfl (Or.inl rfl))) (fun _ => (gc_name (by decide))) (fun _ _ _ _ _ => dts_nil) (fun _ _ _ _ _ => (de_call (gg := ⟨mg, K⟩) G__law_round (hr.mono (by omega)) (by rfl) m__law_round F__law_round.kp b__law_round (da_cons (de_var 3) (da_cons (de_var 7) da_nil)))))))
    (dss_cons (ds_set (i := 6) sc_law.nd rfl (Or.inl rfl) (de_op (do_add (K := K)) (de_var 4) (de_call (gg := ⟨mg, K⟩) G__law_pick (hr.mono (by omega)) (by rfl) m__law_pick F__law_pick.kp b__law_pick (da_cons (de_var 1) (da_cons (de_op do_pow de_int de_int) da_nil)))))
    (dss_cons (ds_for PassesOwn.never rfl (di_rng2 (by rfl) z_range (dh_cons de_int (dh_cons (de_var 4) dh_nil))) (dg_name (i := 7) sc_law.nd rfl (Or.inl rfl)) (dss_one (ds_if (dt_not (dt_tru (K := K) (de_call (gg := ⟨mg, K⟩) G__law_same (hr.mono (by omega)) (by rfl) m__law_same F__law_same.kp b__law_same (da_cons (de_call (gg := ⟨mg, K⟩) G_round_of (hr.mono (by omega)) (by rfl) m_round_of F_round_of.kp b_round_of (da_cons (de_var 3) (da_cons (de_var 7) da_nil))) (da_cons (de_ix (K := K) (de_var 5) (de_var 7)) da_nil))))) (dss_one (ds_ret de_bl)) dss_nil)))
    (dss_one (ds_for PassesOwn.never rfl (di_seq (K := K) (de_op (do_add (K := K)) (de_lstR2 rfl (by rfl) z_list (by rfl) z_range de_int (de_op (do_add (K := K)) (de_var 4) de_int)) (de_lst (da_cons (de_var 6) (da_cons (de_var 6) da_nil))))) (dg_name (i := 8) sc_law.nd rfl (Or.inl rfl)) (dss_one (ds_if (dt_cmp (do_in (K := K)) (de_var 8) (de_var 5) (by rfl)) (dss_one (ds_if (DW.dt (dw_or (dt_not (dt_tru (K := K) (de_call (gg := ⟨mg, K⟩) G__law_same (hr.mono (by omega)) (by rfl) m__law_same F__law_same.kp b__law_same (da_cons (de_call (gg := ⟨mg, K⟩) G_root_of (hr.mono (by omega)) (by rfl) m_root_of F_root_of.kp b_root_of (da_cons (de_var 3) (da_cons (de_var 8) da_nil))) (da_cons (de_idx (de_var 5) (de_var 8) (K := K)) da_nil))))) (dw_or1 (dt_cmp do_gt (de_op do_mod (de_op do_sub (de_var 4) de_int) (de_var 8)) de_int (nomark _))))) (dss_one (ds_ret de_bl)) dss_nil)) (dss_one (ds_if (DW.dt (dw_or (dt_not (dt_tru (K := K) (de_call (gg := ⟨mg, K⟩) G__law_refused (hr.mono (by omega)) (by rfl) m__law_refused F__law_refused.kp b__law_refused (da_cons (de_var 3) (da_cons (de_var 8) da_nil))))) (dw_or1 (dt_cmp (do_eq hr.units (K := K)) (de_op do_mod (de_op do_sub (de_var 4) de_int) (de_var 8)) de_int (nomark _))))) (dss_one (ds_ret de_bl)) dss_nil))))))))))))
    (dss_one (ds_ret de_bl)))
    exact ⟨_, pss_cons (ps_set (i := 1) sc_law.nd rfl (Or.inl rfl) (pe_call G__law_purse (hr.mono (by decide)) (by rfl) m__law_purse F__law_purse.kp b__law_purse .nil pass0 (pa_cons (pv 0) pa_nil))) R.p, R.s⟩) pure_law
end
def dd_raised : He.DefD := ⟨("raised", none), "raised", "raised", defArgs s_raised, defBody s_raised, defScope s_raised, [], []⟩
def dd_common_part : He.DefD := ⟨("common_part", none), "common_part", "common_part", defArgs s_common_part, defBody s_common_part, defScope s_common_part, [], []⟩
def dd_put_together : He.DefD := ⟨("put_together", none), "put_together", "put_together", defArgs s_put_together, defBody s_put_together, defScope s_put_together, [], []⟩
def dd_so_many : He.DefD := ⟨("so_many", none), "so_many", "so_many", defArgs s_so_many, defBody s_so_many, defScope s_so_many, [], []⟩
def dd_lifted : He.DefD := ⟨("lifted", none), "lifted", "lifted", defArgs s_lifted, defBody s_lifted, defScope s_lifted, [], []⟩
def dd_plain_times : He.DefD := ⟨("plain_times", none), "plain_times", "plain_times", defArgs s_plain_times, defBody s_plain_times, defScope s_plain_times, [], []⟩
def dd_many_things : He.DefD := ⟨("many_things", none), "many_things", "many_things", defArgs s_many_things, defBody s_many_things, defScope s_many_things, [], []⟩
def dd_Table__powers_of : He.DefD := ⟨("Table", some "powers_of"), "powers_of", "Table.powers_of", defArgs s_Table__powers_of, defBody s_Table__powers_of, defScope s_Table__powers_of, [], []⟩
def dd_Table____init__ : He.DefD := ⟨("Table", some "__init__"), "__init__", "Table.__init__", defArgs s_Table____init__, defBody s_Table____init__, defScope s_Table____init__, [], []⟩
def dd_Table__round_of : He.DefD := ⟨("Table", some "round_of"), "round_of", "Table.round_of", defArgs s_Table__round_of, defBody s_Table__round_of, defScope s_Table__round_of, [], []⟩
def dd_table_of : He.DefD := ⟨("table_of", none), "table_of", "table_of", defArgs s_table_of, defBody s_table_of, defScope s_table_of, [], []⟩
def dd_round_of : He.DefD := ⟨("round_of", none), "round_of", "round_of", defArgs s_round_of, defBody s_round_of, defScope s_round_of, [], []⟩
def dd_root_of : He.DefD := ⟨("root_of", none), "root_of", "root_of", defArgs s_root_of, defBody s_root_of, defScope s_root_of, [], []⟩
def dd__law_purse : He.DefD := ⟨("_law_purse", none), "_law_purse", "_law_purse", defArgs s__law_purse, defBody s__law_purse, defScope s__law_purse, [], []⟩
def dd__law_pick : He.DefD := ⟨("_law_pick", none), "_law_pick", "_law_pick", defArgs s__law_pick, defBody s__law_pick, defScope s__law_pick, [], []⟩
def dd__law_raised : He.DefD := ⟨("_law_raised", none), "_law_raised", "_law_raised", defArgs s__law_raised, defBody s__law_raised, defScope s__law_raised, [], []⟩
def dd__law_digits : He.DefD := ⟨("_law_digits", none), "_law_digits", "_law_digits", defArgs s__law_digits, defBody s__law_digits, defScope s__law_digits, [], []⟩
def dd__law_number : He.DefD := ⟨("_law_number", none), "_law_number", "_law_number", defArgs s__law_number, defBody s__law_number, defScope s__law_number, [], []⟩
def dd__law_product : He.DefD := ⟨("_law_product", none), "_law_product", "_law_product", defArgs s__law_product, defBody s__law_product, defScope s__law_product, [], []⟩
def dd__law_is_good : He.DefD := ⟨("_law_is_good", none), "_law_is_good", "_law_is_good", defArgs s__law_is_good, defBody s__law_is_good, defScope s__law_is_good, [], []⟩
def dd__law_field : He.DefD := ⟨("_law_field", none), "_law_field", "_law_field", defArgs s__law_field, defBody s__law_field, defScope s__law_field, [], []⟩
def dd__law_same : He.DefD := ⟨("_law_same", none), "_law_same", "_law_same", defArgs s__law_same, defBody s__law_same, defScope s__law_same, [], []⟩
def dd__law_word : He.DefD := ⟨("_law_word", none), "_law_word", "_law_word", defArgs s__law_word, defBody s__law_word, defScope s__law_word, [], []⟩
def dd__law_round : He.DefD := ⟨("_law_round", none), "_law_round", "_law_round", defArgs s__law_round, defBody s__law_round, defScope s__law_round, [], []⟩
def dd__law_refused : He.DefD := ⟨("_law_refused", none), "_law_refused", "_law_refused", defArgs s__law_refused, defBody s__law_refused, defScope s__law_refused, [], []⟩
def dd_law : He.DefD := ⟨("law", none), "law", "law", defArgs s_law, defBody s_law, defScope s_law, [], []⟩
def fnl : List He.DefD := [dd_raised, dd_common_part, dd_put_together, dd_so_many, dd_lifted, dd_plain_times, dd_many_things, dd_Table__powers_of, dd_Table____init__, dd_Table__round_of, dd_table_of, dd_round_of, dd_root_of, dd__law_purse, dd__law_pick, dd__law_raised, dd__law_digits, dd__law_number, dd__law_product, dd__law_is_good, dd__law_field, dd__law_same, dd__law_word, dd__law_round, dd__law_refused, dd_law]
def fal : List He.Fa := [.glo "raised", .glo "common_part", .glo "put_together", .glo "so_many", .glo "lifted", .glo "plain_times", .glo "many_things", .glo "Table", .glo "Table", .glo "Table", .glo "table_of", .glo "round_of", .glo "root_of", .glo "_law_purse", .glo "_law_pick", .glo "_law_raised", .glo "_law_digits", .glo "_law_number", .glo "_law_product", .glo "_law_is_good", .glo "_law_field", .glo "_law_same", .glo "_law_word", .glo "_law_round", .glo "_law_refused", .glo "law", .free "range", .free "len", .free "enumerate", .free "dict", .free "abs", .free "min", .free "all", .free "tuple", .free "isinstance", .free "zip", .free "int", .free "bool", .free "ValueError", .free "max", .free "list", .cls "Table", .glo "Table", .noat "Table" "field", .noat "Table" "p", .noat "Table" "many", .noat "Table" "size", .noat "Table" "powers", .noat "Table" "logs", .meth "Table" "powers_of", .meth "Table" "round_of", .mkr "Table", .glo "NoRoot", .glo "RoundError", .glo "ByNought", .glo "TooMany", .glo "NoText", .glo "NoLine", .exm "NoRoot" "RoundError" true]
def kfl : List Kf := [.exc "NoRoot", .is "NoRoot" (.own "ByNought") false, .is "NoRoot" (.own "NoRoot") true, .is "NoRoot" (.own "TooMany") false, .is "NoRoot" (.own "NoText") false, .is "NoRoot" (.own "NoLine") false, .is "NoRoot" (.ty "ValueError") true]
abbrev RO : PySem.W.OpenRow := PySem.W.OpenLaw.row PySem.Challenge.rw_roundwords_k05_rounds_and_roots
abbrev hk : PySem.W.Hook := hookX 4 fal kfl fnl
def ob (s : PySem.W.SharedT) : AlX := obsX 4 fal kfl fnl (HandSHeadRun.getT s)
theorem ob_eq (s : PySem.W.SharedT) : ob s = hk.obs s.abs := obsX_eq (HandSHeadRun.getT_eq s)
theorem run (w : World) : HandSHeadRun.RunEq RO (PySem.W.view RO.prog [33]) hk ob 20000 ["_wall", "raised", "common_part", "put_together", "so_many", "lifted", "plain_times", "many_things", "table_of", "round_of", "root_of", "_law_purse", "_law_pick", "_law_raised", "_law_digits", "_law_number", "_law_product", "_law_is_good", "_law_field", "_law_same", "_law_word", "_law_round", "_law_refused", "RoundError", "ByNought", "NoRoot", "TooMany", "NoText", "NoLine", "Table"] w := by
  intro os
  kernel_rfl
theorem facts {P : Program} {w : World} {K : PySem.W.Frag} {h : Heap} {mg : Str → Option Value} {f : Addr} (X : K.In h) (G : h.Ns mainGlobals mg) (hfa : mg ("law" : Str) = some (.ref f)) (c : He.SaysD fal fnl K) (ck : (kfl.all fun f => f.ok K) = true) :
    ∃ fd : FuncData, (∀ (s : Shared) (v : Value), BindsTo s fd ⟨[v], []⟩ [("_law_script", v)]) ∧ ∀ base : Heap, K.In base → base.Ns mainGlobals mg → FnG P w K mg base CX0 11 f fd ["_law_script"] (spLaw K) := by
  have m_NoRoot := He.glo_ok X G (c.fact 52 (f := .glo "NoRoot") rfl)
  have m_RoundError := He.glo_ok X G (c.fact 53 (f := .glo "RoundError") rfl)
  have m_ByNought := He.glo_ok X G (c.fact 54 (f := .glo "ByNought") rfl)
  have m_TooMany := He.glo_ok X G (c.fact 55 (f := .glo "TooMany") rfl)
  have m_NoText := He.glo_ok X G (c.fact 56 (f := .glo "NoText") rfl)
  have m_NoLine := He.glo_ok X G (c.fact 57 (f := .glo "NoLine") rfl)
  have E_NoRoot := errC_ok X G (c.fact 52 (f := .glo "NoRoot") rfl) (kf_at ck 0 (f := .exc "NoRoot") rfl)
  have x_NoRoot := He.exm_ok (c.fact 58 (f := .exm "NoRoot" "RoundError" true) rfl)
  have ki_NoRoot_ByNought := is_ok (kf_at ck 1 (f := .is "NoRoot" (.own "ByNought") false) rfl)
  have ki_NoRoot_NoRoot := is_ok (kf_at ck 2 (f := .is "NoRoot" (.own "NoRoot") true) rfl)
  have ki_NoRoot_TooMany := is_ok (kf_at ck 3 (f := .is "NoRoot" (.own "TooMany") false) rfl)
  have ki_NoRoot_NoText := is_ok (kf_at ck 4 (f := .is "NoRoot" (.own "NoText") false) rfl)
  have ki_NoRoot_NoLine := is_ok (kf_at ck 5 (f := .is "NoRoot" (.own "NoLine") false) rfl)
  have ki_NoRoot_ValueError := is_ok (kf_at ck 6 (f := .is "NoRoot" (.ty "ValueError") true) rfl)
  have m_Table := He.glo_ok X G (c.fact 42 (f := .glo "Table") rfl)
  have cl_Table := He.cls_ok (c.fact 41 (f := .cls "Table") rfl)
  have k_Table_field : FldOk K mg "Table" "field" := ⟨_, m_Table, cl_Table, He.noat_ok (c.fact 43 (f := .noat "Table" "field") rfl)⟩
  have k_Table_p : FldOk K mg "Table" "p" := ⟨_, m_Table, cl_Table, He.noat_ok (c.fact 44 (f := .noat "Table" "p") rfl)⟩
  have k_Table_many : FldOk K mg "Table" "many" := ⟨_, m_Table, cl_Table, He.noat_ok (c.fact 45 (f := .noat "Table" "many") rfl)⟩
  have k_Table_size : FldOk K mg "Table" "size" := ⟨_, m_Table, cl_Table, He.noat_ok (c.fact 46 (f := .noat "Table" "size") rfl)⟩
  have k_Table_powers : FldOk K mg "Table" "powers" := ⟨_, m_Table, cl_Table, He.noat_ok (c.fact 47 (f := .noat "Table" "powers") rfl)⟩
  have k_Table_logs : FldOk K mg "Table" "logs" := ⟨_, m_Table, cl_Table, He.noat_ok (c.fact 48 (f := .noat "Table" "logs") rfl)⟩
  have k_Table_mk := He.mkr_ok (c.fact 51 (f := .mkr "Table") rfl)
  have k_Table__powers_of : MthOk K mg "Table" "powers_of" (He.fAd K ("Table", some "powers_of")) := ⟨_, m_Table, cl_Table, He.meth_ok (c.fact 49 (f := .meth "Table" "powers_of") rfl)⟩
  have k_Table__round_of : MthOk K mg "Table" "round_of" (He.fAd K ("Table", some "round_of")) := ⟨_, m_Table, cl_Table, He.meth_ok (c.fact 50 (f := .meth "Table" "round_of") rfl)⟩
  obtain ⟨fd_raised, F_raised⟩ := c.def_ 0 (d := dd_raised) rfl
  have m_raised := He.glo_ok X G (c.fact 0 (f := .glo "raised") rfl)
  have b_raised : Binds K fd_raised ["one", "many"] [] := F_raised.bindsN fun _ _ _ _ _ _ us hl => match us, hl with | [_, _], _ => rfl
  obtain ⟨fd_common_part, F_common_part⟩ := c.def_ 1 (d := dd_common_part) rfl
  have m_common_part := He.glo_ok X G (c.fact 1 (f := .glo "common_part") rfl)
  have b_common_part : Binds K fd_common_part ["one", "other"] [] := F_common_part.bindsN fun _ _ _ _ _ _ us hl => match us, hl with | [_, _], _ => rfl
  obtain ⟨fd_put_together, F_put_together⟩ := c.def_ 2 (d := dd_put_together) rfl
  have m_put_together := He.glo_ok X G (c.fact 2 (f := .glo "put_together") rfl)
  have b_put_together : Binds K fd_put_together ["p", "one", "other"] [] := F_put_together.bindsN fun _ _ _ _ _ _ us hl => match us, hl with | [_, _, _], _ => rfl
  obtain ⟨fd_so_many, F_so_many⟩ := c.def_ 3 (d := dd_so_many) rfl
  have m_so_many := He.glo_ok X G (c.fact 3 (f := .glo "so_many") rfl)
  have b_so_many : Binds K fd_so_many ["p", "digit", "thing"] [] := F_so_many.bindsN fun _ _ _ _ _ _ us hl => match us, hl with | [_, _, _], _ => rfl
  obtain ⟨fd_lifted, F_lifted⟩ := c.def_ 4 (d := dd_lifted) rfl
  have m_lifted := He.glo_ok X G (c.fact 4 (f := .glo "lifted") rfl)
  have b_lifted : Binds K fd_lifted ["field", "thing"] [] := F_lifted.bindsN fun _ _ _ _ _ _ us hl => match us, hl with | [_, _], _ => rfl
  obtain ⟨fd_plain_times, F_plain_times⟩ := c.def_ 5 (d := dd_plain_times) rfl
  have m_plain_times := He.glo_ok X G (c.fact 5 (f := .glo "plain_times") rfl)
  have b_plain_times : Binds K fd_plain_times ["field", "one", "other"] [] := F_plain_times.bindsN fun _ _ _ _ _ _ us hl => match us, hl with | [_, _, _], _ => rfl
  obtain ⟨fd_many_things, F_many_things⟩ := c.def_ 6 (d := dd_many_things) rfl
  have m_many_things := He.glo_ok X G (c.fact 6 (f := .glo "many_things") rfl)
  have b_many_things : Binds K fd_many_things ["field"] [] := F_many_things.bindsN fun _ _ _ _ _ _ us hl => match us, hl with | [_], _ => rfl
  obtain ⟨fd_Table__powers_of, F_Table__powers_of⟩ := c.def_ 7 (d := dd_Table__powers_of) rfl
  have b_Table__powers_of : Binds K fd_Table__powers_of ["self", "maker"] [] := F_Table__powers_of.bindsN fun _ _ _ _ _ _ us hl => match us, hl with | [_, _], _ => rfl
  obtain ⟨fd_Table____init__, F_Table____init__⟩ := c.def_ 8 (d := dd_Table____init__) rfl
  have b_Table____init__ : Binds K fd_Table____init__ ["self", "field"] [] := F_Table____init__.bindsN fun _ _ _ _ _ _ us hl => match us, hl with | [_, _], _ => rfl
  obtain ⟨fd_Table__round_of, F_Table__round_of⟩ := c.def_ 9 (d := dd_Table__round_of) rfl
  have b_Table__round_of : Binds K fd_Table__round_of ["self", "one"] [] := F_Table__round_of.bindsN fun _ _ _ _ _ _ us hl => match us, hl with | [_, _], _ => rfl
  obtain ⟨fd_table_of, F_table_of⟩ := c.def_ 10 (d := dd_table_of) rfl
  have m_table_of := He.glo_ok X G (c.fact 10 (f := .glo "table_of") rfl)
  have b_table_of : Binds K fd_table_of ["field"] [] := F_table_of.bindsN fun _ _ _ _ _ _ us hl => match us, hl with | [_], _ => rfl
  obtain ⟨fd_round_of, F_round_of⟩ := c.def_ 11 (d := dd_round_of) rfl
  have m_round_of := He.glo_ok X G (c.fact 11 (f := .glo "round_of") rfl)
  have b_round_of : Binds K fd_round_of ["field", "one"] [] := F_round_of.bindsN fun _ _ _ _ _ _ us hl => match us, hl with | [_, _], _ => rfl
  obtain ⟨fd_root_of, F_root_of⟩ := c.def_ 12 (d := dd_root_of) rfl
  have m_root_of := He.glo_ok X G (c.fact 12 (f := .glo "root_of") rfl)
  have b_root_of : Binds K fd_root_of ["field", "n"] [] := F_root_of.bindsN fun _ _ _ _ _ _ us hl => match us, hl with | [_, _], _ => rfl
  obtain ⟨fd__law_purse, F__law_purse⟩ := c.def_ 13 (d := dd__law_purse) rfl
  have m__law_purse := He.glo_ok X G (c.fact 13 (f := .glo "_law_purse") rfl)
  have b__law_purse : Binds K fd__law_purse ["_law_script"] [] := F__law_purse.bindsN fun _ _ _ _ _ _ us hl => match us, hl with | [_], _ => rfl
  obtain ⟨fd__law_pick, F__law_pick⟩ := c.def_ 14 (d := dd__law_pick) rfl
  have m__law_pick := He.glo_ok X G (c.fact 14 (f := .glo "_law_pick") rfl)
  have b__law_pick : Binds K fd__law_pick ["_law_purse_here", "_law_many"] [] := F__law_pick.bindsN fun _ _ _ _ _ _ us hl => match us, hl with | [_, _], _ => rfl
  obtain ⟨fd__law_raised, F__law_raised⟩ := c.def_ 15 (d := dd__law_raised) rfl
  have m__law_raised := He.glo_ok X G (c.fact 15 (f := .glo "_law_raised") rfl)
  have b__law_raised : Binds K fd__law_raised ["_law_one", "_law_many"] [] := F__law_raised.bindsN fun _ _ _ _ _ _ us hl => match us, hl with | [_, _], _ => rfl
  obtain ⟨fd__law_digits, F__law_digits⟩ := c.def_ 16 (d := dd__law_digits) rfl
  have m__law_digits := He.glo_ok X G (c.fact 16 (f := .glo "_law_digits") rfl)
  have b__law_digits : Binds K fd__law_digits ["_law_field_here", "_law_thing"] [] := F__law_digits.bindsN fun _ _ _ _ _ _ us hl => match us, hl with | [_, _], _ => rfl
  obtain ⟨fd__law_number, F__law_number⟩ := c.def_ 17 (d := dd__law_number) rfl
  have m__law_number := He.glo_ok X G (c.fact 17 (f := .glo "_law_number") rfl)
  have b__law_number : Binds K fd__law_number ["_law_field_here", "_law_digits_here"] [] := F__law_number.bindsN fun _ _ _ _ _ _ us hl => match us, hl with | [_, _], _ => rfl
  obtain ⟨fd__law_product, F__law_product⟩ := c.def_ 18 (d := dd__law_product) rfl
  have m__law_product := He.glo_ok X G (c.fact 18 (f := .glo "_law_product") rfl)
  have b__law_product : Binds K fd__law_product ["_law_field_here", "_law_one", "_law_other"] [] := F__law_product.bindsN fun _ _ _ _ _ _ us hl => match us, hl with | [_, _, _], _ => rfl
  obtain ⟨fd__law_is_good, F__law_is_good⟩ := c.def_ 19 (d := dd__law_is_good) rfl
  have m__law_is_good := He.glo_ok X G (c.fact 19 (f := .glo "_law_is_good") rfl)
  have b__law_is_good : Binds K fd__law_is_good ["_law_field_here"] [] := F__law_is_good.bindsN fun _ _ _ _ _ _ us hl => match us, hl with | [_], _ => rfl
  obtain ⟨fd__law_field, F__law_field⟩ := c.def_ 20 (d := dd__law_field) rfl
  have m__law_field := He.glo_ok X G (c.fact 20 (f := .glo "_law_field") rfl)
  have b__law_field : Binds K fd__law_field ["_law_purse_here"] [] := F__law_field.bindsN fun _ _ _ _ _ _ us hl => match us, hl with | [_], _ => rfl
  obtain ⟨fd__law_same, F__law_same⟩ := c.def_ 21 (d := dd__law_same) rfl
  have m__law_same := He.glo_ok X G (c.fact 21 (f := .glo "_law_same") rfl)
  have b__law_same : Binds K fd__law_same ["_law_found", "_law_due"] [] := F__law_same.bindsN fun _ _ _ _ _ _ us hl => match us, hl with | [_, _], _ => rfl
  obtain ⟨fd__law_word, F__law_word⟩ := c.def_ 22 (d := dd__law_word) rfl
  have m__law_word := He.glo_ok X G (c.fact 22 (f := .glo "_law_word") rfl)
  have b__law_word : Binds K fd__law_word ["_law_e"] [] := F__law_word.bindsN fun _ _ _ _ _ _ us hl => match us, hl with | [_], _ => rfl
  obtain ⟨fd__law_round, F__law_round⟩ := c.def_ 23 (d := dd__law_round) rfl
  have m__law_round := He.glo_ok X G (c.fact 23 (f := .glo "_law_round") rfl)
  have b__law_round : Binds K fd__law_round ["_law_field_here", "_law_one"] [] := F__law_round.bindsN fun _ _ _ _ _ _ us hl => match us, hl with | [_, _], _ => rfl
  obtain ⟨fd__law_refused, F__law_refused⟩ := c.def_ 24 (d := dd__law_refused) rfl
  have m__law_refused := He.glo_ok X G (c.fact 24 (f := .glo "_law_refused") rfl)
  have b__law_refused : Binds K fd__law_refused ["_law_field_here", "_law_n"] [] := F__law_refused.bindsN fun _ _ _ _ _ _ us hl => match us, hl with | [_, _], _ => rfl
  obtain ⟨fd_law, F_law⟩ := c.def_ 25 (d := dd_law) rfl
  have m_law := He.glo_ok X G (c.fact 25 (f := .glo "law") rfl)
  have b_law : Binds K fd_law ["_law_script"] [] := F_law.bindsN fun _ _ _ _ _ _ us hl => match us, hl with | [_], _ => rfl
  have z_range := He.free_ok X G (c.fact 26 (f := .free "range") rfl)
  have z_len := He.free_ok X G (c.fact 27 (f := .free "len") rfl)
  have z_enumerate := He.free_ok X G (c.fact 28 (f := .free "enumerate") rfl)
  have z_dict := He.free_ok X G (c.fact 29 (f := .free "dict") rfl)
  have z_abs := He.free_ok X G (c.fact 30 (f := .free "abs") rfl)
  have z_min := He.free_ok X G (c.fact 31 (f := .free "min") rfl)
  have z_all := He.free_ok X G (c.fact 32 (f := .free "all") rfl)
  have z_tuple := He.free_ok X G (c.fact 33 (f := .free "tuple") rfl)
  have z_isinstance := He.free_ok X G (c.fact 34 (f := .free "isinstance") rfl)
  have z_zip := He.free_ok X G (c.fact 35 (f := .free "zip") rfl)
  have z_int := He.free_ok X G (c.fact 36 (f := .free "int") rfl)
  have z_bool := He.free_ok X G (c.fact 37 (f := .free "bool") rfl)
  have z_ValueError := He.free_ok X G (c.fact 38 (f := .free "ValueError") rfl)
  have z_max := He.free_ok X G (c.fact 39 (f := .free "max") rfl)
  have z_list := He.free_ok X G (c.fact 40 (f := .free "list") rfl)
  have e := hfa.symm.trans m_law
  cases e
  have b := FunD.bindsA (ps := ["_law_script"]) F_law fun _ _ _ _ _ _ us hl => match us, hl with | [_], _ => rfl
  refine ⟨fd_law, fun s v => b s [v] rfl, fun base _ _ => ?_⟩
  have G_raised := ok_raised (P := P) (w := w) (mg := mg) (base := base) F_raised z_range
  have G_common_part := ok_common_part (P := P) (w := w) (mg := mg) (base := base) F_common_part
  have G_put_together := ok_put_together (P := P) (w := w) (mg := mg) (base := base) F_put_together
  have G_so_many := ok_so_many (P := P) (w := w) (mg := mg) (base := base) F_so_many F_put_together G_put_together b_put_together m_put_together z_range
  have G_lifted := ok_lifted (P := P) (w := w) (mg := mg) (base := base) F_lifted F_raised G_raised b_raised m_raised F_put_together G_put_together b_put_together m_put_together F_so_many G_so_many b_so_many m_so_many
  have G_plain_times := ok_plain_times (P := P) (w := w) (mg := mg) (base := base) F_plain_times F_put_together G_put_together b_put_together m_put_together F_so_many G_so_many b_so_many m_so_many F_lifted G_lifted b_lifted m_lifted
  have G_many_things := ok_many_things (P := P) (w := w) (mg := mg) (base := base) F_many_things F_raised G_raised b_raised m_raised
  have G_Table__powers_of := ok_Table__powers_of (P := P) (w := w) (mg := mg) (base := base) F_Table__powers_of m_Table k_Table_field F_plain_times G_plain_times b_plain_times m_plain_times
  have G_Table____init__ := ok_Table____init__ (P := P) (w := w) (mg := mg) (base := base) F_Table____init__ m_Table k_Table_field k_Table_p k_Table_many k_Table_size k_Table_powers k_Table_logs F_many_things G_many_things b_many_things m_many_things F_Table__powers_of G_Table__powers_of b_Table__powers_of k_Table__powers_of z_len z_enumerate z_dict
  have G_Table__round_of := ok_Table__round_of (P := P) (w := w) (mg := mg) (base := base) F_Table__round_of m_Table k_Table_size k_Table_logs F_common_part G_common_part b_common_part m_common_part
  have G_table_of := ok_table_of (P := P) (w := w) (mg := mg) (base := base) F_table_of m_Table F_Table____init__ G_Table____init__ b_Table____init__ k_Table_mk
  have G_round_of := ok_round_of (P := P) (w := w) (mg := mg) (base := base) F_round_of m_Table F_Table__round_of G_Table__round_of b_Table__round_of k_Table__round_of F_table_of G_table_of b_table_of m_table_of
  have G_root_of := ok_root_of (P := P) (w := w) (mg := mg) (base := base) F_root_of m_Table k_Table_size k_Table_many F_table_of G_table_of b_table_of m_table_of F_Table__round_of G_Table__round_of b_Table__round_of k_Table__round_of z_range
  have R_root_of := okR_root_of (P := P) (w := w) (mg := mg) (base := base) F_root_of m_Table k_Table_size k_Table_many F_table_of G_table_of b_table_of m_table_of F_Table__round_of G_Table__round_of b_Table__round_of k_Table__round_of z_range E_NoRoot
  have G__law_purse := ok__law_purse (P := P) (w := w) (mg := mg) (base := base) F__law_purse z_abs
  have G__law_pick := ok__law_pick (P := P) (w := w) (mg := mg) (base := base) F__law_pick
  have G__law_raised := ok__law_raised (P := P) (w := w) (mg := mg) (base := base) F__law_raised z_range
  have G__law_digits := ok__law_digits (P := P) (w := w) (mg := mg) (base := base) F__law_digits z_range
  have G__law_number := ok__law_number (P := P) (w := w) (mg := mg) (base := base) F__law_number
  have G__law_product := ok__law_product (P := P) (w := w) (mg := mg) (base := base) F__law_product F__law_digits G__law_digits b__law_digits m__law_digits F__law_number G__law_number b__law_number m__law_number z_enumerate z_range
  have G__law_is_good := ok__law_is_good (P := P) (w := w) (mg := mg) (base := base) F__law_is_good F__law_raised G__law_raised b__law_raised m__law_raised F__law_product G__law_product b__law_product m__law_product z_min z_range z_all
  have G__law_field := ok__law_field (P := P) (w := w) (mg := mg) (base := base) F__law_field F__law_pick G__law_pick b__law_pick m__law_pick F__law_raised G__law_raised b__law_raised m__law_raised F__law_is_good G__law_is_good b__law_is_good m__law_is_good z_len z_range
  have G__law_same := rec__law_same (P := P) (w := w) (mg := mg) (base := base) F__law_same m__law_same b__law_same z_tuple z_isinstance z_len z_zip z_all z_int z_bool 4
  have G__law_word := ok__law_word (P := P) (w := w) (mg := mg) (base := base) F__law_word m_NoRoot m_ByNought m_TooMany m_NoText m_NoLine E_NoRoot ki_NoRoot_ByNought ki_NoRoot_NoRoot ki_NoRoot_TooMany ki_NoRoot_NoText ki_NoRoot_NoLine ki_NoRoot_ValueError z_isinstance z_len z_ValueError
  have G__law_round := ok__law_round (P := P) (w := w) (mg := mg) (base := base) F__law_round F__law_product G__law_product b__law_product m__law_product
  have G__law_refused := ok__law_refused (P := P) (w := w) (mg := mg) (base := base) F__law_refused F_root_of G_root_of b_root_of m_root_of F__law_word G__law_word b__law_word m__law_word m_NoRoot m_RoundError E_NoRoot x_NoRoot R_root_of
  exact ok_law F_law F__law_field G__law_field b__law_field m__law_field F__law_raised G__law_raised b__law_raised m__law_raised F__law_round G__law_round b__law_round m__law_round F__law_pick G__law_pick b__law_pick m__law_pick F__law_same G__law_same b__law_same m__law_same F_round_of G_round_of b_round_of m_round_of F_root_of G_root_of b_root_of m_root_of F__law_refused G__law_refused b__law_refused m__law_refused F__law_purse G__law_purse b__law_purse m__law_purse z_len z_min z_max z_range z_list
end LW
open PySem PySem.W PySem.Calls PyProof.Rows
set_option maxRecDepth 100000 in
set_option maxHeartbeats 0 in
theorem PySem.Challenge.cw_roundwords_k05_rounds_and_roots_holds : PySem.Challenge.rw_roundwords_k05_rounds_and_roots.Holds := by
  w_on; o_law
  refine HandSHeadRun.head_any (r := OpenLaw.row PySem.Challenge.rw_roundwords_k05_rounds_and_roots) (q := view (OpenLaw.row PySem.Challenge.rw_roundwords_k05_rounds_and_roots).prog [33]) (H := LW.hk) (ob := LW.ob) (M := 20000) (loose := ["_wall", "raised", "common_part", "put_together", "so_many", "lifted", "plain_times", "many_things", "table_of", "round_of", "root_of", "_law_purse", "_law_pick", "_law_raised", "_law_digits", "_law_number", "_law_product", "_law_is_good", "_law_field", "_law_same", "_law_word", "_law_round", "_law_refused", "RoundError", "ByNought", "NoRoot", "TooMany", "NoText", "NoLine", "Table"]) (d := HandSHeadRun.topDef (OpenLaw.row PySem.Challenge.rw_roundwords_k05_rounds_and_roots).prog 33) (kwd := []) LW.ob_eq
    (by kernel_rfl) (fun s => by kernel_rfl) LW.run (by kernel_rfl) (by kernel_rfl) (by kernel_rfl) (by rfl) (by first | assumption | decide +kernel) (by decide +kernel) ⟨rfl, rfl, rfl, rfl, rfl, by decide +kernel⟩ ?hw ?hc
  case hw => w_witness2
  case hc =>
    refine DL.walkG (l := PySem.Challenge.rw_roundwords_k05_rounds_and_roots) (n := 63) (k := 11) (x := "_law_script") rfl (by decide) (by kernel_rfl) ⟨rfl, by decide, by decide⟩ ?F
    intro w mg fa h Y G hmg0
    obtain ⟨K, KX, c, ck⟩ := Y
    have hmg : mg ("law" : PySem.Str) = some (.ref fa) := by
      have e : (HandSHeadRun.topDef (OpenLaw.row PySem.Challenge.rw_roundwords_k05_rounds_and_roots).prog 33).name = ("law" : PySem.Str) := by kernel_rfl
      rw [← e]
      exact hmg0
    obtain ⟨fd, hb, hF⟩ := LW.facts (P := (PySem.Challenge.rw_roundwords_k05_rounds_and_roots).prog) (w := w) KX G hmg c ck
    exact ⟨K, fd, DL.spLaw K, KX, hb, fun H a ns hl _ hS => ⟨a, ns, rfl, hS, hl, fun _ => rfl⟩, hF⟩

