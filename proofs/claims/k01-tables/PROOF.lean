import PyProof.Rows.All
import Wide.All
import OpenK.AllK
import Wide.FinOn
import PySem.Challenge.RW_twostoreys_k01_tables
import HandS.ForMost
import HandS.Evl
import HandS.Walk
import HandS.Conv
import HandS.Zip
import HandS.Wide
import HandS.Style
import PyProof.Rows.StrRev
import HandS.Replace
import HandS.Exc
import HandS.ExcOwn
import HandS.WordsExc
import HandS.ExcField
import HandS.ExcIs
import HandS.ExcInit
import HandS.TryOnly
import HandS.IsInst
import KE.KExcIs
import HandS.Flow
import HandS.EndBits
import HandS.Words
import PyProof.FitsInt
import PyProof.ReprReads
set_option Elab.async false
set_option linter.all false
set_option maxRecDepth 100000
set_option autoImplicit false
set_option maxHeartbeats 4000000
/-! A pure language of data (D), what lies in the heap for it (Dv), and environments (Env, Rep). -/
namespace Pd
open PySem L2
open Evl (Ex ex_l ex_t)

/-- data: scr is the script (a list of ints that is read alone) -/
inductive D where
  | non | bl (b : Bool) | int (i : Int) | str (l : List Nat) | lst (xs : List D) | tup (xs : List D) | scr (ns : List Int)

abbrev Fg := PySem.W.Frag
mutual
inductive Dv (K : Fg) (F : Hp) : V → D → Prop
  | non : Dv K F .non .non
  | bl (b : Bool) : Dv K F (.bl b) (.bl b)
  | int (i : Int) : Dv K F (.int i) (.int i)
  | str (l : List Nat) : Dv K F (.str ⟨l.toArray⟩) (.str l)
  | lst {a : Addr} {xs : List V} {ds : List D} : F a = some (.lst xs) → DvL K F xs ds → Dv K F (.ref a) (.lst ds)
  | tup {a : Addr} {xs : List V} {ds : List D} : SqT K F a xs → DvL K F xs ds → Dv K F (.ref a) (.tup ds)
  | scr {a : Addr} {ns : List Int} : SqL K F a (ns.map V.int) → Dv K F (.ref a) (.scr ns)
inductive DvL (K : Fg) (F : Hp) : List V → List D → Prop
  | nil : DvL K F [] []
  | cons {v : V} {vs : List V} {d : D} {ds : List D} : Dv K F v d → DvL K F vs ds → DvL K F (v :: vs) (d :: ds)
end
section
variable {K : Fg} {F F' : Hp}
mutual
theorem Dv.mono (e : Ex F F') : ∀ (d : D) (v : V), Dv K F v d → Dv K F' v d
  | .non, _, h => by cases h; exact .non
  | .bl _, _, h => by cases h; exact .bl _
  | .int _, _, h => by cases h; exact .int _
  | .str _, _, h => by cases h; exact .str _
  | .lst ds, _, h => by
    cases h with
    | lst s a => exact .lst (e _ _ s) (DvL.mono e ds _ a)
  | .tup ds, _, h => by
    cases h with
    | tup s a => exact .tup (ex_t e s) (DvL.mono e ds _ a)
  | .scr ns, _, h => by
    cases h with
    | scr s => exact .scr (ex_l e s)
theorem DvL.mono (e : Ex F F') : ∀ (ds : List D) (vs : List V), DvL K F vs ds → DvL K F' vs ds
  | [], _, h => by cases h; exact .nil
  | d :: ds, _, h => by
    cases h with
    | cons a b => exact .cons (Dv.mono e d _ a) (DvL.mono e ds _ b)
end
theorem Dv.up {v : V} {d : D} (h : Dv K F v d) (e : Ex F F') : Dv K F' v d := Dv.mono e d v h
theorem DvL.up {v : List V} {d : List D} (h : DvL K F v d) (e : Ex F F') : DvL K F' v d := DvL.mono e d v h
theorem DvL.len : ∀ {vs : List V} {ds : List D}, DvL K F vs ds → vs.length = ds.length
  | _, _, .nil => rfl
  | _, _, .cons _ t => by rw [List.length_cons, List.length_cons, DvL.len t]
theorem DvL.get : ∀ {vs : List V} {ds : List D} {i : Nat} {d : D}, DvL K F vs ds → ds[i]? = some d → ∃ v, vs[i]? = some v ∧ Dv K F v d
  | _, _, _, _, .nil, e => by simp at e
  | _, _, 0, _, .cons r _, e => by simp at e; subst e; exact ⟨_, rfl, r⟩
  | _, _, i + 1, _, .cons _ t, e => by
    obtain ⟨v, h1, h2⟩ := DvL.get (i := i) t (by simpa using e)
    exact ⟨v, by simpa using h1, h2⟩
theorem DvL.getV : ∀ {vs : List V} {ds : List D} {i : Nat} {v : V}, DvL K F vs ds → vs[i]? = some v → ∃ d, ds[i]? = some d ∧ Dv K F v d
  | _, _, _, _, .nil, e => by simp at e
  | _, _, 0, _, .cons r _, e => by simp at e; subst e; exact ⟨_, rfl, r⟩
  | _, _, i + 1, _, .cons _ t, e => by
    obtain ⟨d, h1, h2⟩ := DvL.getV (i := i) t (by simpa using e)
    exact ⟨d, by simpa using h1, h2⟩
theorem DvL.app : ∀ {vs ws : List V} {ds es : List D}, DvL K F vs ds → DvL K F ws es → DvL K F (vs ++ ws) (ds ++ es)
  | _, _, _, _, .nil, s => s
  | _, _, _, _, .cons r t, s => .cons r (DvL.app t s)
theorem DvL.take : ∀ {vs : List V} {ds : List D} (n : Nat), DvL K F vs ds → DvL K F (vs.take n) (ds.take n)
  | _, _, 0, _ => .nil
  | _, _, _ + 1, .nil => .nil
  | _, _, n + 1, .cons r t => .cons r (DvL.take n t)
theorem DvL.drop : ∀ {vs : List V} {ds : List D} (n : Nat), DvL K F vs ds → DvL K F (vs.drop n) (ds.drop n)
  | _, _, 0, r => r
  | _, _, _ + 1, .nil => .nil
  | _, _, n + 1, .cons _ t => DvL.drop n t
theorem DvL.set {v : V} {d : D} (r : Dv K F v d) : ∀ {vs : List V} {ds : List D} (i : Nat), DvL K F vs ds → DvL K F (vs.set i v) (ds.set i d)
  | _, _, _, .nil => .nil
  | _, _, 0, .cons _ t => .cons r t
  | _, _, i + 1, .cons q t => .cons q (DvL.set r i t)
theorem DvL.dropLast : ∀ {vs : List V} {ds : List D}, DvL K F vs ds → DvL K F vs.dropLast ds.dropLast := fun {vs ds} h => by
  rw [List.dropLast_eq_take, List.dropLast_eq_take, h.len]
  exact h.take _
theorem DvL.rev : ∀ {vs : List V} {ds : List D}, DvL K F vs ds → DvL K F vs.reverse ds.reverse
  | _, _, .nil => .nil
  | _, _, .cons r t => by
    rw [List.reverse_cons, List.reverse_cons]
    exact (DvL.rev t).app (.cons r .nil)
theorem DvL.rep {vs : List V} {ds : List D} (h : DvL K F vs ds) : ∀ n : Nat, DvL K F (List.replicate n vs).flatten (List.replicate n ds).flatten
  | 0 => .nil
  | n + 1 => by
    rw [List.replicate_succ, List.replicate_succ, List.flatten_cons, List.flatten_cons]
    exact h.app (DvL.rep h n)
end

/-! ### how the known part F of the heap H grows -/
structure Gr (F H F' H' : Hp) : Prop where
  f : Ex F F'
  h : Ex H H'
  s : Ex F' H'
  n : ∀ p, F p = none → F' p ≠ none → H p = none
section
variable {F H F1 H1 F2 H2 : Hp}
theorem Gr.refl (s : Ex F H) : Gr F H F H := ⟨Ex.refl F, Ex.refl H, s, fun _ a b => absurd a b⟩
theorem Gr.trans (a : Gr F H F1 H1) (b : Gr F1 H1 F2 H2) : Gr F H F2 H2 := ⟨a.f.trans b.f, a.h.trans b.h, b.s, fun p h0 h2 => by
  by_cases q : F1 p = none
  · have := b.n p q h2
    cases e : H p with
    | none => rfl
    | some o => rw [a.h p o e] at this; cases this
  · exact a.n p h0 q⟩
/-- F alone grows, by what is new since B -/
theorem back {B H : Hp} (e : Ex B H) {p : Addr} (h : H p = none) : B p = none := by
  cases q : B p with
  | none => rfl
  | some o => rw [e p o q] at h; cases h
theorem Ex.step {F H : Hp} (s : Ex F H) {p : Addr} {o : HO} (h : H p = some o) (hf : F p = none) : Ex F (upd F p o) ∧ Ex (upd F p o) H := by
  refine ⟨fun a u e => ?_, fun a u e => ?_⟩
  · by_cases q : a = p
    · rw [q, hf] at e; cases e
    · rw [upd_ne q]; exact e
  · by_cases q : a = p
    · rw [q, upd_same] at e; cases e; rw [q]; exact h
    · rw [upd_ne q] at e; exact s a u e
/-- a new object, known at once -/
theorem Gr.add (g : Gr F H F1 H1) {p : Addr} {o : HO} (h : H1 p = none) : Gr F H (upd F1 p o) (upd H1 p o) := by
  have hf := back g.s h
  have hH := back g.h h
  refine ⟨g.f.trans (fun a u e => ?_), g.h.trans (Ex.new h), fun a u e => ?_, fun q a b => ?_⟩
  · by_cases q : a = p
    · rw [q, hf] at e; cases e
    · rw [upd_ne q]; exact e
  · by_cases q : a = p
    · rw [q, upd_same] at e; cases e; rw [q, upd_same]
    · rw [upd_ne q] at e; rw [upd_ne q]; exact g.s a u e
  · by_cases z : q = p
    · rw [z]; exact hH
    · rw [upd_ne z] at b; exact g.n q a b
/-- a new object, not yet known -/
theorem Gr.new (g : Gr F H F1 H1) {p : Addr} {o : HO} (h : H1 p = none) : Gr F H F1 (upd H1 p o) :=
  ⟨g.f, g.h.trans (Ex.new h), g.s.trans (Ex.new h), g.n⟩
/-- what was not yet known becomes known -/
theorem Gr.know (g : Gr F H F1 H1) {p : Addr} {o : HO} (h : H1 p = some o) (hf : F1 p = none) (hH : H p = none) : Gr F H (upd F1 p o) H1 := by
  obtain ⟨e1, e2⟩ := Ex.step g.s h hf
  refine ⟨g.f.trans e1, g.h, e2, fun q a b => ?_⟩
  by_cases z : q = p
  · rw [z]; exact hH
  · rw [upd_ne z] at b; exact g.n q a b
/-- an object that is not known is changed -/
theorem Gr.mut (g : Gr F H F1 H1) {p : Addr} {o : HO} (hf : F1 p = none) (hH : H p = none) : Gr F H F1 (upd H1 p o) :=
  ⟨g.f, Ex.mut g.h hH, Ex.mut g.s hf, g.n⟩
end

/-! ### results -/
structure Xc where
  c : Nat
  fs : List (Str × D)
inductive Out (α : Type) where
  | ok (a : α) | exc (x : Xc) | stk
namespace Out
variable {α β : Type}
def bind (m : Out α) (f : α → Out β) : Out β :=
  match m with
  | .ok a => f a
  | .exc x => .exc x
  | .stk => .stk
def wp (m : Out α) (P : α → Prop) (E : Xc → Prop) : Prop :=
  match m with
  | .ok a => P a
  | .exc x => E x
  | .stk => False
theorem wp_bind (m : Out α) (f : α → Out β) (P : β → Prop) (E : Xc → Prop) : (m.bind f).wp P E = m.wp (fun a => (f a).wp P E) E := by cases m <;> rfl
theorem wp_mono {m : Out α} {P P' : α → Prop} {E E' : Xc → Prop} (h : m.wp P E) (hp : ∀ a, P a → P' a) (he : ∀ x, E x → E' x) : m.wp P' E' := by
  cases m with
  | ok a => exact hp a h
  | exc x => exact he x h
  | stk => exact h
/-- no exception is carried -/
def noX (m : Out α) : Out α :=
  match m with
  | .ok a => .ok a
  | _ => .stk
def ofO : Option α → Out α
  | some a => .ok a
  | none => .stk
end Out

/-- a value that an expression gives: known data, a new list, a list that a name owns (to be looked at alone) -/
inductive Rv where
  | v (d : D) | own (xs : List D) | bor (xs : List D)
def Rv.fz : Rv → Out D
  | .v d => .ok d
  | .own xs => .ok (.lst xs)
  | .bor _ => .stk
/-- H: the heap ahead (a new list is new to it) -/
def RV (K : Fg) (B F H : Hp) (u : V) : Rv → Prop
  | .v d => Dv K F u d
  | .own xs => ∃ p vs, u = .ref p ∧ H p = some (.lst vs) ∧ F p = none ∧ B p = none ∧ DvL K F vs xs
  | .bor xs => ∃ p vs, u = .ref p ∧ H p = some (.lst vs) ∧ F p = none ∧ DvL K F vs xs
theorem RV.up {K : Fg} {B F H F' H' : Hp} {u : V} {r : Rv} (h : RV K B F H u r) (g : Gr F H F' H') : RV K B F' H' u r := by
  cases r with
  | v d => exact Dv.up h g.f
  | own xs =>
    obtain ⟨p, vs, e, h1, h2, h3, h4⟩ := h
    refine ⟨p, vs, e, g.h p _ h1, ?_, h3, h4.up g.f⟩
    cases q : F' p with
    | none => rfl
    | some o => have := g.n p h2 (by rw [q]; simp); rw [h1] at this; cases this
  | bor xs =>
    obtain ⟨p, vs, e, h1, h2, h4⟩ := h
    refine ⟨p, vs, e, g.h p _ h1, ?_, h4.up g.f⟩
    cases q : F' p with
    | none => rfl
    | some o => have := g.n p h2 (by rw [q]; simp); rw [h1] at this; cases this
theorem RV.old {K : Fg} {B B' F H : Hp} {u : V} {r : Rv} (h : RV K B F H u r) (e : Ex B' B) : RV K B' F H u r := by
  cases r with
  | v d => exact h
  | own xs =>
    obtain ⟨p, vs, e0, h1, h2, h3, h4⟩ := h
    exact ⟨p, vs, e0, h1, h2, back e h3, h4⟩
  | bor xs => exact h
/-- the value becomes known; (F0, H0): the state ahead of its evaluation -/
theorem RV.known {K : Fg} {F0 H0 F H : Hp} {u : V} {r : Rv} {d : D} (h : RV K H0 F H u r) (g : Gr F0 H0 F H) (e : r.fz = .ok d) : ∃ F', Gr F0 H0 F' H ∧ Dv K F' u d := by
  cases r with
  | v d' => cases e; exact ⟨F, g, h⟩
  | bor xs => cases e
  | own xs =>
    cases e
    obtain ⟨p, vs, rfl, h1, h2, h3, h4⟩ := h
    exact ⟨_, g.know h1 h2 h3, .lst upd_same (h4.up (Ex.step g.s h1 h2).1)⟩
/-- a list that is looked at -/
def Rv.lv : Rv → Option (List D)
  | .v (.lst xs) => some xs
  | .own xs => some xs
  | .bor xs => some xs
  | _ => none
theorem RV.lst {K : Fg} {B F H : Hp} {u : V} {r : Rv} {xs : List D} (h : RV K B F H u r) (s : Ex F H) (e : r.lv = some xs) : ∃ p vs, u = .ref p ∧ H p = some (.lst vs) ∧ DvL K F vs xs := by
  cases r with
  | v d =>
    cases d with
    | lst ys =>
      have e' : ys = xs := Option.some.inj e
      subst e'
      cases h with
      | lst a b => exact ⟨_, _, rfl, s _ _ a, b⟩
    | _ => cases e
  | own ys =>
    have e' : ys = xs := Option.some.inj e
    subst e'
    obtain ⟨p, vs, e0, h1, h2, h3, h4⟩ := h
    exact ⟨p, vs, e0, h1, h4⟩
  | bor ys =>
    have e' : ys = xs := Option.some.inj e
    subst e'
    obtain ⟨p, vs, e0, h1, h2, h4⟩ := h
    exact ⟨p, vs, e0, h1, h4⟩

/-! ### environments -/
inductive Sl where
  | un | v (d : D) | own (xs : List D) | lk (xs : List D) | exc (y : Xc)
/-- K: the written part; W: what is wanted of an exception; ct: the classes of errors; xa: in a suite, the slot of the caught exception, itself, its class, its dict -/
structure Gp where
  K : Fg
  W : Value → Option Addr → L2.St → Hp → Prop
  ct : Nat → Option Addr
  xa : Option (Nat × Addr × Addr × Option Addr) := none
/-- the fields of an exception as they lie -/
def XF (K : Fg) (y : Xc) (d : Option Addr) (F H : Hp) : Prop :=
  (y.fs = [] ∧ d = none) ∨ ∃ dx fs, d = some dx ∧ H dx = some (.xd fs) ∧ fs.map (·.1) = y.fs.map (·.1) ∧ DvL K F (fs.map (·.2)) (y.fs.map (·.2))
def XR (G : Gp) (y : Xc) (cls : Value) (d : Option Addr) (F H : Hp) : Prop := ∃ C, cls = .ref C ∧ G.ct y.c = some C ∧ XF G.K y d F H
/-- slot i holds the caught exception -/
def XS (G : Gp) (i : Nat) (y : Xc) (F : Hp) (σ : L2.St) (H : Hp) : Prop := ∃ a C d, G.xa = some (i, a, C, d) ∧ σ[i]? = some (some (.ref a)) ∧ G.ct y.c = some C ∧ XF G.K y d F H
theorem XF.up {K : Fg} {y : Xc} {d : Option Addr} {F H F' H' : Hp} (h : XF K y d F H) (f : Ex F F') (g : Ex H H') : XF K y d F' H' := by
  rcases h with h | ⟨dx, fs, h1, h2, h3, h4⟩
  · exact .inl h
  · exact .inr ⟨dx, fs, h1, g _ _ h2, h3, h4.up f⟩
theorem XS.up {G : Gp} {i : Nat} {y : Xc} {F H F' H' : Hp} {σ : L2.St} (h : XS G i y F σ H) (f : Ex F F') (g : Ex H H') : XS G i y F' σ H' := by
  obtain ⟨a, C, d, h1, h2, h3, h4⟩ := h
  exact ⟨a, C, d, h1, h2, h3, h4.up f g⟩
theorem XS.slot {G : Gp} {i : Nat} {y : Xc} {F H : Hp} {σ σ' : L2.St} (h : XS G i y F σ H) (e : σ'[i]? = σ[i]?) : XS G i y F σ' H := by
  obtain ⟨a, C, d, h1, h2, h3, h4⟩ := h
  exact ⟨a, C, d, h1, e.trans h2, h3, h4⟩
/-- a list is changed -/
theorem XF.mut {K : Fg} {y : Xc} {d : Option Addr} {F H : Hp} {p : Addr} {vs : List V} {o : HO} (h : XF K y d F H) (hp : H p = some (.lst vs)) : XF K y d F (upd H p o) := by
  rcases h with h | ⟨dx, fs, h1, h2, h3, h4⟩
  · exact .inl h
  · refine .inr ⟨dx, fs, h1, ?_, h3, h4⟩
    rw [upd_ne (fun e => by rw [e, hp] at h2; cases h2)]
    exact h2
abbrev Env := List Sl
def Has (env : Env) (i : Nat) (xs : List D) : Prop := env[i]? = some (.own xs) ∨ env[i]? = some (.lk xs)
structure Rep (G : Gp) (F0 B F : Hp) (σ : L2.St) (H : Hp) (env : Env) : Prop where
  g : Gr F0 B F H
  len : env.length = σ.length
  v : ∀ (i : Nat) (d : D), env[i]? = some (Sl.v d) → ∃ u, σ[i]? = some (some u) ∧ Dv G.K F u d
  o : ∀ (i : Nat) (xs : List D), Has env i xs → ∃ p vs, σ[i]? = some (some (.ref p)) ∧ H p = some (.lst vs) ∧ F p = none ∧ B p = none ∧ DvL G.K F vs xs
  d : ∀ (i j : Nat) (xs ys : List D) (p : Addr), i ≠ j → Has env i xs → Has env j ys → σ[i]? = some (some (.ref p)) → σ[j]? = some (some (.ref p)) → False
  x : ∀ (i : Nat) (y : Xc), env[i]? = some (Sl.exc y) → XS G i y F σ H
section
variable {G : Gp} {F0 B F H F' H' : Hp} {σ : L2.St} {env : Env}
theorem Rep.up (R : Rep G F0 B F σ H env) (g : Gr F H F' H') : Rep G F0 B F' σ H' env := by
  refine ⟨R.g.trans g, R.len, fun i d e => ?_, fun i xs e => ?_, R.d, fun i y e => (R.x i y e).up g.f g.h⟩
  · obtain ⟨u, h1, h2⟩ := R.v i d e
    exact ⟨u, h1, h2.up g.f⟩
  · obtain ⟨p, vs, h1, h2, h3, h4, h5⟩ := R.o i xs e
    refine ⟨p, vs, h1, g.h p _ h2, ?_, h4, h5.up g.f⟩
    cases q : F' p with
    | none => rfl
    | some o => have := g.n p h3 (by rw [q]; simp); rw [h2] at this; cases this
/-- F alone grows by what is new since the entry and owned by no name -/
theorem Rep.upF (R : Rep G F0 B F σ H env) (g : Gr F0 B F' H) (e : Ex F F') (ho : ∀ i xs p, Has env i xs → σ[i]? = some (some (.ref p)) → F' p = none) : Rep G F0 B F' σ H env := by
  refine ⟨g, R.len, fun i d h => ?_, fun i xs h => ?_, R.d, fun i y h => (R.x i y h).up e (Ex.refl H)⟩
  · obtain ⟨u, h1, h2⟩ := R.v i d h
    exact ⟨u, h1, h2.up e⟩
  · obtain ⟨p, vs, h1, h2, h3, h4, h5⟩ := R.o i xs h
    exact ⟨p, vs, h1, h2, ho i xs p h h1, h4, h5.up e⟩
theorem has_set {i j : Nat} {a : Sl} {xs : List D} (h : Has (env.set i a) j xs) : (j = i ∧ (a = .own xs ∨ a = .lk xs)) ∨ (j ≠ i ∧ Has env j xs) := by
  by_cases q : i = j
  · subst q
    by_cases hl : i < env.length
    · unfold Has at h
      rw [List.getElem?_set_self hl] at h
      rcases h with h | h
      · exact .inl ⟨rfl, .inl (Option.some.inj h)⟩
      · exact .inl ⟨rfl, .inr (Option.some.inj h)⟩
    · unfold Has at h
      rw [List.getElem?_eq_none (by simp; omega)] at h
      rcases h with h | h <;> cases h
  · unfold Has at h
    rw [List.getElem?_set_ne q] at h
    exact .inr ⟨fun e => q e.symm, h⟩
theorem exc_set {i j : Nat} {a : Sl} {y : Xc} (h : (env.set i a)[j]? = some (.exc y)) (ha : ∀ z, a ≠ .exc z) : i ≠ j ∧ env[j]? = some (.exc y) := by
  by_cases q : i = j
  · subst q
    by_cases hl : i < env.length
    · rw [List.getElem?_set_self hl] at h
      exact absurd (Option.some.inj h) (ha y)
    · rw [List.getElem?_eq_none (by simp; omega)] at h
      cases h
  · rw [List.getElem?_set_ne q] at h
    exact ⟨q, h⟩
theorem Rep.xset (R : Rep G F0 B F σ H env) {i : Nat} {a : Sl} {o : Option V} (ha : ∀ z, a ≠ .exc z) : ∀ (j : Nat) (y : Xc), (env.set i a)[j]? = some (Sl.exc y) → XS G j y F (σ.set i o) H := fun j y h => by
  obtain ⟨h1, h2⟩ := exc_set h ha
  exact (R.x j y h2).slot (List.getElem?_set_ne h1)
/-- a name gets known data -/
theorem Rep.setV (R : Rep G F0 B F σ H env) {i : Nat} {u : V} {d : D} (h : Dv G.K F u d) : Rep G F0 B F (σ.set i (some u)) H (env.set i (.v d)) := by
  refine ⟨R.g, by rw [List.length_set, List.length_set, R.len], fun j e hj => ?_, fun j xs hj => ?_, fun j l xs ys p hjl hj hl e1 e2 => ?_, R.xset fun _ z => by cases z⟩
  · by_cases q : i = j
    · subst q
      by_cases hl : i < env.length
      · rw [List.getElem?_set_self hl] at hj
        cases hj
        exact ⟨u, List.getElem?_set_self (by rw [← R.len]; exact hl), h⟩
      · rw [List.getElem?_eq_none (by simp; omega)] at hj
        cases hj
    · rw [List.getElem?_set_ne q] at hj ⊢
      exact R.v j e hj
  · rcases has_set hj with ⟨_, z | z⟩ | ⟨q, z⟩
    · cases z
    · cases z
    · rw [List.getElem?_set_ne (Ne.symm q)]
      exact R.o j xs z
  · rcases has_set hj with ⟨_, z | z⟩ | ⟨q, z⟩
    · cases z
    · cases z
    · rcases has_set hl with ⟨_, w | w⟩ | ⟨q', w⟩
      · cases w
      · cases w
      · rw [List.getElem?_set_ne (Ne.symm q)] at e1
        rw [List.getElem?_set_ne (Ne.symm q')] at e2
        exact R.d j l xs ys p hjl z w e1 e2
/-- a name gets a list of its own (a: .own or .lk) -/
theorem Rep.setO (R : Rep G F0 B F σ H env) {i : Nat} {p : Addr} {vs : List V} {xs : List D} {a : Sl} (ha : a = .own xs ∨ a = .lk xs) (hH : H p = some (.lst vs)) (hF : F p = none) (hB : B p = none) (hv : DvL G.K F vs xs)
    (hn : ∀ j ys, j ≠ i → Has env j ys → σ[j]? ≠ some (some (.ref p))) : Rep G F0 B F (σ.set i (some (.ref p))) H (env.set i a) := by
  refine ⟨R.g, by rw [List.length_set, List.length_set, R.len], fun j e hj => ?_, fun j ys hj => ?_, fun j l ys zs q hjl hj hl e1 e2 => ?_, R.xset fun y z => by rcases ha with ha | ha <;> (rw [ha] at z; cases z)⟩
  · by_cases q : i = j
    · subst q
      by_cases hl : i < env.length
      · rw [List.getElem?_set_self hl] at hj
        rcases ha with ha | ha <;> (rw [ha] at hj; cases hj)
      · rw [List.getElem?_eq_none (by simp; omega)] at hj
        cases hj
    · rw [List.getElem?_set_ne q] at hj ⊢
      exact R.v j e hj
  · by_cases hl : j < env.length
    · rcases has_set hj with ⟨q, z⟩ | ⟨q, z⟩
      · subst q
        have e : xs = ys := by rcases ha with ha | ha <;> rcases z with z | z <;> (rw [ha] at z; cases z; try rfl)
        subst e
        exact ⟨p, vs, List.getElem?_set_self (by rw [← R.len]; exact hl), hH, hF, hB, hv⟩
      · rw [List.getElem?_set_ne (Ne.symm q)]
        exact R.o j ys z
    · unfold Has at hj
      rw [List.getElem?_eq_none (by simp; omega)] at hj
      rcases hj with hj | hj <;> cases hj
  · rcases has_set hj with ⟨q1, z⟩ | ⟨q1, z⟩
    · rcases has_set hl with ⟨q2, w⟩ | ⟨q2, w⟩
      · exact hjl (q1.trans q2.symm)
      · rw [List.getElem?_set_ne (Ne.symm q2)] at e2
        by_cases hlt : i < σ.length
        · rw [q1, List.getElem?_set_self hlt] at e1
          cases e1
          exact hn l zs q2 w e2
        · rw [q1, List.getElem?_eq_none (by simp; omega)] at e1
          cases e1
    · rw [List.getElem?_set_ne (Ne.symm q1)] at e1
      rcases has_set hl with ⟨q2, w⟩ | ⟨q2, w⟩
      · by_cases hlt : i < σ.length
        · rw [q2, List.getElem?_set_self hlt] at e2
          cases e2
          exact hn j ys q1 z e1
        · rw [q2, List.getElem?_eq_none (by simp; omega)] at e2
          cases e2
      · rw [List.getElem?_set_ne (Ne.symm q2)] at e2
        exact R.d j l ys zs q hjl z w e1 e2
/-- a slot is forgotten (σ' agrees elsewhere) -/
theorem Rep.un (R : Rep G F0 B F σ H env) {i : Nat} {o : Option V} : Rep G F0 B F (σ.set i o) H (env.set i .un) := by
  refine ⟨R.g, by rw [List.length_set, List.length_set, R.len], fun j e hj => ?_, fun j xs hj => ?_, fun j l xs ys p hjl hj hl e1 e2 => ?_, R.xset fun _ z => by cases z⟩
  · by_cases q : i = j
    · subst q
      by_cases hl : i < env.length
      · rw [List.getElem?_set_self hl] at hj
        cases hj
      · rw [List.getElem?_eq_none (by simp; omega)] at hj
        cases hj
    · rw [List.getElem?_set_ne q] at hj ⊢
      exact R.v j e hj
  · rcases has_set hj with ⟨_, z | z⟩ | ⟨q, z⟩
    · cases z
    · cases z
    · rw [List.getElem?_set_ne (Ne.symm q)]
      exact R.o j xs z
  · rcases has_set hj with ⟨_, z | z⟩ | ⟨q, z⟩
    · cases z
    · cases z
    · rcases has_set hl with ⟨_, w | w⟩ | ⟨q', w⟩
      · cases w
      · cases w
      · rw [List.getElem?_set_ne (Ne.symm q)] at e1
        rw [List.getElem?_set_ne (Ne.symm q')] at e2
        exact R.d j l xs ys p hjl z w e1 e2
/-- what a name owns is another object than one that is new to the heap -/
theorem Rep.apart (R : Rep G F0 B F σ H env) {p : Addr} (h : H p = none) : ∀ j ys, Has env j ys → σ[j]? ≠ some (some (.ref p)) := fun j ys z e => by
  obtain ⟨q, vs, h1, h2, _⟩ := R.o j ys z
  rw [e] at h1
  cases h1
  rw [h] at h2
  cases h2
/-- the slot of a value -/
def Rv.sl : Rv → Option Sl
  | .v d => some (.v d)
  | .own xs => some (.own xs)
  | .bor _ => none
/-- a value is stored: (F, H) ahead of its evaluation, (F', H') behind -/
theorem Rep.put (R : Rep G F0 B F σ H env) (g : Gr F H F' H') {i : Nat} {u : V} {r : Rv} {a : Sl} (h : RV G.K H F' H' u r) (e : r.sl = some a) : Rep G F0 B F' (σ.set i (some u)) H' (env.set i a) := by
  cases r with
  | v d => cases e; exact (R.up g).setV h
  | bor xs => cases e
  | own xs =>
    cases e
    obtain ⟨p, vs, rfl, h1, h2, h3, h4⟩ := h
    exact (R.up g).setO (.inl rfl) h1 h2 (back R.g.h h3) h4 fun j ys _ z => R.apart h3 j ys z
/-- a name's list becomes known -/
def frz1 (i : Nat) (env : Env) : Env :=
  match env[i]? with
  | some (.own xs) => env.set i (.v (.lst xs))
  | _ => env
theorem Rep.frz1 (R : Rep G F0 B F σ H env) (i : Nat) : ∃ F', Ex F F' ∧ Rep G F0 B F' σ H (frz1 i env) := by
  unfold Pd.frz1
  split
  · rename_i xs e
    obtain ⟨p, vs, h1, h2, h3, h4, h5⟩ := R.o i xs (.inl e)
    have hi : i < σ.length := (List.getElem?_eq_some_iff.mp h1).1
    refine ⟨upd F p (.lst vs), (Ex.step R.g.s h2 h3).1, ?_⟩
    have R1 : Rep G F0 B F (σ.set i (some (.ref p))) H (env.set i .un) := R.un
    have es : σ.set i (some (.ref p)) = σ := by
      apply List.ext_getElem?
      intro n
      by_cases q : i = n
      · subst q
        rw [List.getElem?_set_self hi, h1]
      · rw [List.getElem?_set_ne q]
    rw [es] at R1
    obtain ⟨s1, s2⟩ := Ex.step R.g.s h2 h3
    have R2 : Rep G F0 B (upd F p (.lst vs)) σ H (env.set i .un) := by
      refine R1.upF (R.g.know h2 h3 h4) s1 fun j ys q hj e2 => ?_
      rcases has_set hj with ⟨_, z | z⟩ | ⟨hji, z⟩
      · cases z
      · cases z
      · obtain ⟨q', vs', g1, g2, g3, _⟩ := R.o j ys z
        rw [e2] at g1
        cases g1
        rw [upd_ne (fun e0 => R.d i j xs ys p (Ne.symm hji) (.inl e) z h1 (by rw [e2, e0]))]
        exact g3
    have R3 := R2.setV (i := i) (u := .ref p) (d := .lst xs) (.lst upd_same (h5.up s1))
    rw [es, List.set_set] at R3
    exact R3
  · exact ⟨F, Ex.refl F, R⟩
def frzL : List Nat → Env → Env
  | [], env => env
  | i :: is, env => frzL is (Pd.frz1 i env)
theorem Rep.frzL : ∀ (is : List Nat) {F : Hp} {env : Env}, Rep G F0 B F σ H env → ∃ F', Ex F F' ∧ Rep G F0 B F' σ H (frzL is env)
  | [], F, _, R => ⟨F, Ex.refl F, R⟩
  | i :: is, _, _, R => by
    obtain ⟨F1, e1, R1⟩ := R.frz1 i
    obtain ⟨F2, e2, R2⟩ := Rep.frzL is R1
    exact ⟨F2, e1.trans e2, R2⟩
end
end Pd
set_option Elab.async false
set_option linter.all false
set_option maxRecDepth 100000
set_option autoImplicit false
set_option maxHeartbeats 4000000
/-! The language: expressions E, statements S, and what they do on data. -/
namespace Pd
open PySem L2

abbrev lim : Nat := 16777216
inductive BOp where | add | sub | mul | fdiv | mod | pow
inductive COp where | eq | ne | lt | le | gt | ge | isN | notN | in_ | notIn
inductive Blt where | len | int | tuple | list | repr | sum | abs | min | max | str | sorted | any | all | bool
inductive Mth where | lower | upper | join | count | index
inductive Tg where | nm (i : Nat) | tp (ts : List Tg)
mutual
inductive E where
  | var (i : Nat) | c (d : D) | bin (o : BOp) (a b : E) | neg (a : E) | nt (a : E) | and (a b : E) | or (a b : E)
  | cmp (o : COp) (a b : E) | chn (o p : COp) (a b d : E) | ife (c a b : E) | call (f : Nat) (es : List E) | blt (f : Blt) (es : List E)
  | mth (m : Mth) (o : E) (es : List E) | idx (a i : E) | slc (a lo hi : E) | rev (a : E)
  | lst (es : List E) | tup (es : List E) | cmpr (e : E) (t : Tg) (it : It) (ifs : List E) (ws : List Nat)
  | fld (i : Nat) (f : Str) | isX (i : Nat) (l : List Nat)
inductive It where
  | seq (e : E) | rng (es : List E) | zip (a b : E) | enm (a : E) | rvs (a : E)
end
inductive S where
  | frz (is : List Nat) (s : S) | asg (t : Tg) (e : E) | par (i j : Nat) (a b : E) | sub (i : Nat) (ix e : E)
  | app (i : Nat) (e : E) | ext (i : Nat) (e : E) | pop (i : Nat) | popA (t i : Nat) | ret (e : E) | retN | ex (e : E) | skip
  | ifs (c : E) (a b : List S) | fr (t : Tg) (it : It) (b : List S) | wh (c : E) (b : List S) | brk | cnt
  | rais (c : Nat) (nm : List Str) (es : List E) | tryX (l : List Nat) (oi : Option Nat) (b s : List S)

/-! ### operations by values -/
def dInt (i : Int) : Out Rv := .ok (.v (.int i))
def dBl (b : Bool) : Out Rv := .ok (.v (.bl b))
def dStr (l : List Nat) : Out Rv := if l.length ≤ lim then .ok (.v (.str l)) else .stk
def dOwn (xs : List D) : Out Rv := if xs.length ≤ lim then .ok (.own xs) else .stk
def small (i : Int) : Bool := decide (-(2 ^ 64) < i) && decide (i < 2 ^ 64)
def cat (x y : Rv) : Out Rv :=
  match x.lv, y.lv with
  | some a, some b => dOwn (a ++ b)
  | _, _ => .stk
def bAdd : Rv → Rv → Out Rv
  | .v (.int i), .v (.int j) => dInt (i + j)
  | .v (.str a), .v (.str b) => dStr (a ++ b)
  | .v (.tup a), .v (.tup b) => if a.isEmpty then .stk else if (a ++ b).length ≤ lim then .ok (.v (.tup (a ++ b))) else .stk
  | x, y => cat x y
def bSub : Rv → Rv → Out Rv
  | .v (.int i), .v (.int j) => dInt (i - j)
  | _, _ => .stk
def bMul : Rv → Rv → Out Rv
  | .v (.int i), .v (.int j) => if small i || small j || decide (i.natAbs.log2 + j.natAbs.log2 < 1000000) then dInt (i * j) else .stk
  | .v (.str a), .v (.int n) => if decide (-(2 ^ 62) < n) && decide (n < 2 ^ 62) && decide (a.length * n.toNat ≤ lim) then .ok (.v (.str (List.replicate n.toNat a).flatten)) else .stk
  | x, .v (.int n) => match x.lv with
    | some a => if decide (-(2 ^ 62) < n) && decide (n < 2 ^ 62) && decide (a.length * n.toNat ≤ lim) then .ok (.own (List.replicate n.toNat a).flatten) else .stk
    | none => .stk
  | _, _ => .stk
def bDiv : Rv → Rv → Out Rv
  | .v (.int i), .v (.int j) => if decide (0 < j) && decide (j.natAbs.log2 < 9000) then dInt (i / j) else .stk
  | _, _ => .stk
def bMod : Rv → Rv → Out Rv
  | .v (.int i), .v (.int j) => if 0 < j then dInt (i % j) else .stk
  | _, _ => .stk
def bPow : Rv → Rv → Out Rv
  | .v (.int i), .v (.int j) => if decide (0 ≤ j) && decide (j ≤ 1000) && decide (i.natAbs < 2 ^ 64) then dInt (i ^ j.toNat) else .stk
  | _, _ => .stk
def bop : BOp → Rv → Rv → Out Rv
  | .add => bAdd | .sub => bSub | .mul => bMul | .fdiv => bDiv | .mod => bMod | .pow => bPow
def dNeg : Rv → Out Rv
  | .v (.int i) => dInt (-i)
  | _ => .stk
/-- == of scalars -/
def sEq : D → D → Option Bool
  | .int i, .int j => some (decide (i = j))
  | .str a, .str b => some (decide (a = b))
  | .bl a, .bl b => some (decide (a = b))
  | .non, .non => some true
  | .non, .int _ => some false | .int _, .non => some false | .non, .str _ => some false | .str _, .non => some false
  | .non, .bl _ => some false | .bl _, .non => some false
  | .int _, .str _ => some false | .str _, .int _ => some false
  | _, _ => none
def cLt : Rv → Rv → Out Rv
  | .v (.int i), .v (.int j) => dBl (decide (i < j))
  | .v (.str a), .v (.str b) => dBl (decide (a < b))
  | _, _ => .stk
def cLe : Rv → Rv → Out Rv
  | .v (.int i), .v (.int j) => dBl (decide (i ≤ j))
  | .v (.str a), .v (.str b) => dBl (!decide (b < a))
  | _, _ => .stk
def cIsN (neg : Bool) : Rv → Rv → Out Rv
  | .v x, .v .non => dBl (match x with | .non => !neg | _ => neg)
  | .own _, .v .non => dBl neg
  | .bor _, .v .non => dBl neg
  | _, _ => .stk
/-! ### data as PyData; what repr gives -/
mutual
def D.py : D → PyData
  | .non => .none | .bl b => .bool b | .int i => .int i | .str l => .str ⟨l.toArray⟩ | .lst xs => .list (D.pyL xs) | .tup xs => .tuple (D.pyL xs) | .scr ns => .list (ns.map .int)
def D.pyL : List D → List PyData
  | [] => [] | d :: ds => D.py d :: D.pyL ds
end
def Rv.d : Rv → D
  | .v d => d | .own xs => .lst xs | .bor xs => .lst xs
/-- the items of a list or tuple -/
def Rv.sq : Rv → Option (List D)
  | .v (.tup xs) => some xs
  | .v (.scr ns) => some (ns.map .int)
  | x => x.lv
/-- == of data at any depth -/
def cEqD (neg : Bool) (x y : D) : Out Rv := if SeqAt.shaped x.py && SeqAt.shaped y.py then dBl (if neg then !PyData.eqv x.py y.py else PyData.eqv x.py y.py) else .stk
def cEq (neg : Bool) (x y : Rv) : Out Rv := match sEq x.d y.d with
    | some b => dBl (if neg then !b else b)
    | none => cEqD neg x.d y.d
def flatD : D → Bool
  | .non => true | .bl _ => true | .int _ => true | .str _ => true | _ => false
def eqF : D → D → Bool
  | .non, .non => true
  | .bl a, .bl b => a == b
  | .bl a, .int b => (if a then 1 else 0) == b
  | .int a, .bl b => a == (if b then 1 else 0)
  | .int a, .int b => a == b
  | .str a, .str b => decide (a = b)
  | _, _ => false
/-- one of the flat items of a list or tuple -/
def cInS (neg : Bool) (x : D) (o : Option (List D)) : Out Rv :=
  match o with
  | some xs => if flatD x && xs.all flatD then dBl (if neg then !(xs.any fun y => eqF y x) else xs.any fun y => eqF y x) else .stk
  | none => .stk
/-- one sign in a text; one of the flat items of a list or tuple -/
def cIn (neg : Bool) : Rv → Rv → Out Rv
  | .v (.str [c]), .v (.str z) => dBl (if neg then !decide (c ∈ z) else decide (c ∈ z))
  | .v x, y => cInS neg x y.sq
  | _, _ => .stk
def cop : COp → Rv → Rv → Out Rv
  | .eq => cEq false | .ne => cEq true | .lt => cLt | .le => cLe | .gt => fun x y => cLt y x | .ge => fun x y => cLe y x
  | .isN => cIsN false | .notN => cIsN true | .in_ => cIn false | .notIn => cIn true
/-- truth -/
def tru : Rv → Out Bool
  | .v .non => .ok false
  | .v (.bl b) => .ok b
  | .v (.int i) => .ok (i != 0)
  | .v (.str l) => if l.length ≤ lim then .ok (!l.isEmpty) else .stk
  | .v (.lst xs) => .ok (!xs.isEmpty)
  | .v (.tup xs) => .ok (!xs.isEmpty)
  | .v (.scr ns) => .ok (!ns.isEmpty)
  | .own xs => .ok (!xs.isEmpty)
  | .bor xs => .ok (!xs.isEmpty)
def asB : Rv → Out Bool
  | .v (.bl k) => .ok k
  | _ => .stk
def asS : Rv → Out Rv
  | .v (.str l) => .ok (.v (.str l))
  | _ => .stk
def ixD {α : Type} (xs : List α) (i : Int) : Option α := atI xs i
def getI : Rv → Rv → Out Rv
  | .v (.str l), .v (.int i) => if l.length ≤ lim then (match atI l i with | some c => .ok (.v (.str [c])) | none => .stk) else .stk
  | .v (.tup xs), .v (.int i) => match atI xs i with | some d => .ok (.v d) | none => .stk
  | .v (.scr ns), .v (.int i) => match atI ns i with | some n => dInt n | none => .stk
  | x, .v (.int i) => match x.lv with
    | some xs => (match atI xs i with | some d => .ok (.v d) | none => .stk)
    | none => .stk
  | _, _ => .stk
/-- xs[lo:hi] -/
def cut {α : Type} (xs : List α) (lo hi : Option Int) : List α := (xs.drop (HT.sIx xs.length 0 lo)).take (HT.sIx xs.length xs.length hi - HT.sIx xs.length 0 lo)
def part : Rv → Out (Option Int)
  | .v (.int i) => .ok (some i)
  | _ => .stk
/-- a part of a slice; what is left out stands as None -/
def partE (e : E) (o : Out Rv) : Out (Option Int) :=
  match e with
  | .c .non => .ok none
  | _ => o.bind part
def getS (x : Rv) (lo hi : Option Int) : Out Rv :=
  match x with
  | .v (.str l) => if l.length ≤ lim then .ok (.v (.str (cut l lo hi))) else .stk
  | .v (.tup xs) => if HT.sIx xs.length 0 lo = 0 ∧ HT.sIx xs.length xs.length hi = xs.length then .stk else .ok (.v (.tup (cut xs lo hi)))
  | x => match x.lv with
    | some xs => .ok (.own (cut xs lo hi))
    | none => .stk
def getR : Rv → Out Rv
  | .v (.str l) => if l.length ≤ lim then .ok (.v (.str l.reverse)) else .stk
  | x => match x.lv with
    | some xs => .ok (.own xs.reverse)
    | none => .stk

def reprT (d : D) : List Nat := (PyData.shown d.py).cps.toList
def doRepr (r : Rv) : Out Rv :=
  if PyData.showable r.d.py && decide (PyData.depth r.d.py ≤ 40) && decide (r.d.py.shown.length ≤ lim) then .ok (.v (.str (reprT r.d))) else .stk
def intsO : List D → Option (List Int)
  | [] => some []
  | .int i :: ds => (intsO ds).map (i :: ·)
  | _ => none
def strsO : List D → Option (List (List Nat))
  | [] => some []
  | .str i :: ds => (strsO ds).map (i :: ·)
  | _ => none
def blsO : List D → Option (List Bool)
  | [] => some []
  | .bl i :: ds => (blsO ds).map (i :: ·)
  | _ => none
def minL : Int → List Int → Int
  | m, [] => m
  | m, x :: r => minL (if x < m then x else m) r
def maxL : Int → List Int → Int
  | m, [] => m
  | m, x :: r => maxL (if m < x then x else m) r
def insS (x : Int) : List Int → List Int
  | [] => [x]
  | y :: r => if x ≤ y then x :: y :: r else y :: insS x r
def sortS : List Int → List Int
  | [] => []
  | x :: r => insS x (sortS r)
def bLen : List Rv → Out Rv
  | [.v (.str l)] => if l.length ≤ lim then dInt l.length else .stk
  | [r] => match r.sq with | some xs => dInt xs.length | none => .stk
  | _ => .stk
def bInt : List Rv → Out Rv
  | [.v (.int i)] => dInt i
  | [.v (.bl b)] => dInt (if b then 1 else 0)
  | _ => .stk
def bBool : List Rv → Out Rv
  | [.v (.int i)] => dBl (i != 0)
  | [.v (.bl b)] => dBl b
  | _ => .stk
def bTuple : List Rv → Out Rv
  | [.v (.tup xs)] => .ok (.v (.tup xs))
  | [r] => match r.lv with | some xs => .ok (.v (.tup xs)) | none => .stk
  | _ => .stk
def bList : List Rv → Out Rv
  | [.v (.tup xs)] => .ok (.own xs)
  | [.v (.scr ns)] => .ok (.own (ns.map .int))
  | [r] => match r.lv with | some xs => .ok (.own xs) | none => .stk
  | _ => .stk
def bRepr : List Rv → Out Rv
  | [r] => doRepr r
  | _ => .stk
def bSum : List Rv → Out Rv
  | [r] => match r.lv.bind intsO with | some ns => dInt ns.sum | none => .stk
  | _ => .stk
def bAbs : List Rv → Out Rv
  | [.v (.int i)] => dInt (if i < 0 then -i else i)
  | _ => .stk
def bMin : List Rv → Out Rv
  | [.v (.int i), .v (.int j)] => dInt (if j < i then j else i)
  | [r] => match r.lv.bind intsO with | some (n :: ns) => dInt (minL n ns) | _ => .stk
  | _ => .stk
def bMax : List Rv → Out Rv
  | [.v (.int i), .v (.int j)] => dInt (if j > i then j else i)
  | [r] => match r.lv.bind intsO with | some (n :: ns) => dInt (maxL n ns) | _ => .stk
  | _ => .stk
def bStr : List Rv → Out Rv
  | [.v (.int i)] => if i.natAbs.log2 < 1920 then .ok (.v (.str ((toString i : Str).cps.toList))) else .stk
  | _ => .stk
def bAny : List Rv → Out Rv
  | [r] => match r.lv.bind blsO with | some bs => dBl (bs.any id) | none => .stk
  | _ => .stk
def bAll : List Rv → Out Rv
  | [r] => match r.lv.bind blsO with | some bs => dBl (bs.all id) | none => .stk
  | _ => .stk
def doBlt : Blt → List Rv → Out Rv
  | .len => bLen | .int => bInt | .tuple => bTuple | .list => bList | .repr => bRepr | .sum => bSum | .abs => bAbs | .min => bMin | .max => bMax | .str => bStr
  | .sorted => fun _ => .stk | .any => bAny | .all => bAll | .bool => bBool
def glue (sep : List Nat) : List (List Nat) → List Nat
  | [] => []
  | [x] => x
  | x :: y :: r => x ++ sep ++ glue sep (y :: r)
def mLower : Rv → List Rv → Out Rv
  | .v (.str l), [] => if l.length ≤ 5592405 then .ok (.v (.str ((Txt.lower ⟨l.toArray⟩).cps.toList))) else .stk
  | _, _ => .stk
def mUpper : Rv → List Rv → Out Rv
  | .v (.str l), [] => if l.length ≤ 5592405 then .ok (.v (.str ((Txt.upper ⟨l.toArray⟩).cps.toList))) else .stk
  | _, _ => .stk
def mCount : Rv → List Rv → Out Rv
  | .v (.str l), [.v (.str m)] => dInt (Txt.count ⟨l.toArray⟩ ⟨m.toArray⟩)
  | _, _ => .stk
def mJoin : Rv → List Rv → Out Rv
  | .v (.str l), [r] => match r.sq.bind strsO with
    | some xs => if (xs.map List.length).sum + xs.length * l.length ≤ lim then .ok (.v (.str (glue l xs))) else .stk
    | none => .stk
  | _, _ => .stk
/-- the place of a sign that is there -/
def mIndex : Rv → List Rv → Out Rv
  | .v (.str l), [.v (.str [c])] => if c ∈ l then dInt (l.idxOf c) else .stk
  | _, _ => .stk
def doMth : Mth → Rv → List Rv → Out Rv
  | .lower => mLower | .upper => mUpper | .join => mJoin | .count => mCount | .index => mIndex
def rngL (lo : Int) : Nat → List D
  | 0 => []
  | n + 1 => .int lo :: rngL (lo + 1) n
def rngC (lo c : Int) : Nat → List D
  | 0 => []
  | n + 1 => .int lo :: rngC (lo + c) c n
def rngN (i j c : Int) : Nat := (Builtin.Range.rangeSize i j c).toNat
def doRng : List Rv → Out (List D)
  | [.v (.int j)] => if decide (j ≤ lim) && decide (-(2 ^ 62) ≤ j) then .ok (rngL 0 j.toNat) else .stk
  | [.v (.int i), .v (.int j)] => if decide (-(2 ^ 62) ≤ i) && decide (i < 2 ^ 62) && decide (-(2 ^ 62) ≤ j) && decide (j < 2 ^ 62) && decide ((j - i).toNat ≤ lim) then .ok (rngL i (j - i).toNat) else .stk
  | [.v (.int i), .v (.int j), .v (.int c)] => if decide (c ≠ 0) && decide (c.natAbs < 1073741824) && Builtin.Range.small i j c && decide (Builtin.Range.rangeSize i j c = (rngN i j c : Int)) && decide (rngN i j c ≤ lim) then .ok (rngC i c (rngN i j c)) else .stk
  | _ => .stk
/-- what a for walks -/
def Rv.its : Rv → Option (List D)
  | .v (.str l) => some (l.map fun c => .str [c])
  | r => r.sq
def zipL : List D → List D → List D
  | x :: xs, y :: ys => .tup [x, y] :: zipL xs ys
  | _, _ => []
def enmL : Nat → List D → List D
  | _, [] => []
  | k, x :: xs => .tup [.int k, x] :: enmL (k + 1) xs

/-! ### targets -/
mutual
def tgt : Tg → D → Env → Option Env
  | .nm i, d, env => some (env.set i (.v d))
  | .tp ts, .tup ds, env => tgtL ts ds env
  | .tp _, _, _ => none
def tgtL : List Tg → List D → Env → Option Env
  | [], [], env => some env
  | t :: ts, d :: ds, env => (tgt t d env).bind (tgtL ts ds)
  | _, _, _ => none
end
def wip (env : Env) : List Nat → Env
  | [] => env
  | i :: is => (wip env is).set i .un
def optC : Option D → List D → List D
  | some x, r => x :: r
  | none, r => r
def cmpL (f : D → Out (Option D)) : List D → Out (List D)
  | [] => .ok []
  | d :: ds => (f d).bind fun o => (cmpL f ds).bind fun r => .ok (optC o r)

/-- a borrowed list is walked by its name alone -/
def brw (e : E) : Rv → Bool
  | .bor _ => match e with | .var _ => true | _ => false
  | _ => true
def srcOf (e : E) (o : Out Rv) : Out Rv := o.bind fun x => if brw e x then .ok x else .stk
def zipR (x y : Rv) : Out (List D) :=
  match x.sq, y.sq with
  | some xs, some ys => .ok (zipL xs ys)
  | _, _ => .stk

/-! ### expressions -/
def look (env : Env) (i : Nat) : Out Rv :=
  match env[i]? with
  | some (.v d) => .ok (.v d)
  | some (.own xs) => .ok (.bor xs)
  | some (.lk xs) => .ok (.bor xs)
  | _ => .stk
/-- a field of the caught exception -/
def fldO (env : Env) (i : Nat) (f : Str) : Out Rv :=
  match env[i]? with
  | some (.exc y) => (match y.fs.lookup f with
    | some d => .ok (.v d)
    | none => .stk)
  | _ => .stk
/-- is the caught exception of one of these classes -/
def isO (env : Env) (i : Nat) (l : List Nat) : Out Rv :=
  match env[i]? with
  | some (.exc y) => dBl (l.contains y.c)
  | _ => .stk
section
variable (cf : Nat → List D → Out Rv)
mutual
def evE : E → Env → Out Rv
  | .fld i f, env => fldO env i f
  | .isX i l, env => isO env i l
  | .var i, env => look env i
  | .c d, _ => .ok (.v d)
  | .bin o a b, env => (evE a env).bind fun x => (evE b env).bind fun y => bop o x y
  | .neg a, env => (evE a env).bind dNeg
  | .nt a, env => (evE a env).bind fun x => (tru x).bind fun b => dBl (!b)
  | .and a b, env => (evE a env).bind fun x => (asB x).bind fun c => if c then evE b env else dBl false
  | .or a b, env => (evE a env).bind fun x => (asB x).bind fun c => if c then dBl true else evE b env
  | .cmp o a b, env => (evE a env).bind fun x => (evE b env).bind fun y => cop o x y
  | .chn o p a b d, env => (evE a env).bind fun x => (evE b env).bind fun y => (cop o x y).bind fun r => (asB r).bind fun k => if k then (evE d env).bind fun z => cop p y z else dBl false
  | .ife c a b, env => (evT c env).bind fun k => if k then evE a env else evE b env
  | .call f es, env => (evA es env).bind fun ds => cf f ds
  | .blt f es, env => (evL es env).bind fun rs => doBlt f rs
  | .mth m o es, env => (evE o env).bind fun x => (asS x).bind fun x => (evL es env).bind fun rs => doMth m x rs
  | .idx a i, env => (evE a env).bind fun x => (evE i env).bind fun y => getI x y
  | .slc a lo hi, env => (evE a env).bind fun x => (partE lo (evE lo env)).bind fun l => (partE hi (evE hi env)).bind fun u => getS x l u
  | .rev a, env => (evE a env).bind getR
  | .lst es, env => (evA es env).bind fun ds => if ds.length ≤ lim then .ok (.own ds) else .stk
  | .tup es, env => (evA es env).bind fun ds => if ds.length ≤ lim then .ok (.v (.tup ds)) else .stk
  | .cmpr e t it ifs ws, env => (evI it env).bind fun ds => if ds.length ≤ lim then (cmpL (fun d => match tgt t d (wip env ws) with
      | some env1 => (evC ifs env1).noX.bind fun k => if k then (((evE e env1).bind Rv.fz).noX.bind fun x => .ok (some x)) else .ok none
      | none => .stk) ds).noX.bind fun r => .ok (.own r) else .stk
def evT : E → Env → Out Bool
  | .and a b, env => (evT a env).bind fun k => if k then evT b env else .ok false
  | .or a b, env => (evT a env).bind fun k => if k then .ok true else evT b env
  | .nt a, env => (evT a env).bind fun k => .ok (!k)
  | .var i, env => (look env i).bind tru
  | .c d, env => tru (.v d)
  | .cmp o a b, env => (evE a env).bind fun x => (evE b env).bind fun y => (cop o x y).bind asB
  | .chn o p a b d, env => (evE a env).bind fun x => (evE b env).bind fun y => (cop o x y).bind fun r => (asB r).bind fun k => if k then (evE d env).bind fun z => (cop p y z).bind asB else .ok false
  | .call f es, env => (evA es env).bind fun ds => (cf f ds).bind tru
  | .blt f es, env => (evL es env).bind fun rs => (doBlt f rs).bind tru
  | .mth m o es, env => (evE o env).bind fun x => (asS x).bind fun x => (evL es env).bind fun rs => (doMth m x rs).bind tru
  | .idx a i, env => (evE a env).bind fun x => (evE i env).bind fun y => (getI x y).bind tru
  | .fld i f, env => (fldO env i f).bind tru
  | .isX i l, env => (isO env i l).bind tru
  | _, _ => .stk
def evC : List E → Env → Out Bool
  | [], _ => .ok true
  | [e], env => evT e env
  | _, _ => .stk
def evL : List E → Env → Out (List Rv)
  | [], _ => .ok []
  | e :: es, env => (evE e env).bind fun x => (evL es env).bind fun xs => .ok (x :: xs)
def evA : List E → Env → Out (List D)
  | [], _ => .ok []
  | e :: es, env => ((evE e env).bind Rv.fz).bind fun x => (evA es env).bind fun xs => .ok (x :: xs)
def evI : It → Env → Out (List D)
  | .seq e, env => (srcOf e (evE e env)).bind fun x => .ofO x.its
  | .rng es, env => (evL es env).bind doRng
  | .zip a b, env => (srcOf a (evE a env)).bind fun x => (srcOf b (evE b env)).bind fun y => zipR x y
  | .enm a, env => (srcOf a (evE a env)).bind fun x => .ofO (x.lv.map (enmL 0))
  | .rvs a, env => (srcOf a (evE a env)).bind fun x => .ofO (x.lv.map List.reverse)
end
end

/-! ### statements -/
inductive Fl where
  | nx (e : Env) | rt (r : Rv) | bk (e : Env) | ct (e : Env) | rs (x : Xc) (e : Env)
/-- an expression's value is used by a statement -/
def Out.st {α : Type} (m : Out α) (env : Env) (f : α → Option Fl) : Option Fl :=
  match m with
  | .ok a => f a
  | .exc x => some (.rs x env)
  | .stk => none
def seqF (m : Option Fl) (f : Env → Option Fl) : Option Fl :=
  match m with
  | some (.nx e) => f e
  | r => r
def forL (f : D → Env → Option Fl) : List D → Env → Option Fl
  | [], env => some (.nx env)
  | d :: ds, env => match f d env with
    | some (.nx e) => forL f ds e
    | some (.ct e) => forL f ds e
    | some (.bk e) => some (.nx e)
    | r => r
def whL (c : Env → Out Bool) (f : Env → Option Fl) : Nat → Env → Option Fl
  | 0, _ => none
  | n + 1, env => (c env).st env fun k => if k then (match f env with
    | some (.nx e) => whL c f n e
    | some (.ct e) => whL c f n e
    | some (.bk e) => some (.nx e)
    | r => r) else some (.nx env)
/-- the names whose lists a for walks -/
def vr : E → List Nat
  | .var i => [i]
  | _ => []
def It.vars : It → List Nat
  | .seq a => vr a
  | .zip a b => vr a ++ vr b
  | .enm a => vr a
  | .rvs a => vr a
  | .rng _ => []
def unl (i : Nat) (xs : List D) : Option Fl → Option Fl
  | some (.nx e) => some (.nx (e.set i (.own xs)))
  | some (.rs x e) => some (.rs x (e.set i (.own xs)))
  | some (.rt r) => some (.rt r)
  | _ => none
/-- the lists that are walked are locked -/
def lockF (run : Env → Option Fl) : List Nat → Env → Option Fl
  | [], env => run env
  | i :: is, env => match env[i]? with
    | some (.own xs) => unl i xs (lockF run is (env.set i (.lk xs)))
    | _ => lockF run is env
/-- a name may be stored -/
def stOk (env : Env) (i : Nat) : Bool :=
  match env[i]? with
  | some (.lk _) => false
  | _ => true
mutual
def tgOk (env : Env) : Tg → Bool
  | .nm i => stOk env i
  | .tp ts => tgOkL env ts
def tgOkL (env : Env) : List Tg → Bool
  | [] => true
  | t :: ts => tgOk env t && tgOkL env ts
end
def tgS (t : Tg) (d : D) (env : Env) : Option Env := if tgOk env t then tgt t d env else none
def wfuel : Nat := 1000000
def setO (env : Env) (i : Nat) (r : Rv) : Option Fl :=
  if stOk env i then (match r.sl with
  | some a => some (.nx (env.set i a))
  | none => none) else none
/-- behind an except suite its name is gone -/
def endX (oi : Option Nat) : Option Fl → Option Fl
  | some (.nx e) => some (.nx (match oi with | some i => e.set i .un | none => e))
  | some (.bk e) => some (.bk (match oi with | some i => e.set i .un | none => e))
  | some (.ct e) => some (.ct (match oi with | some i => e.set i .un | none => e))
  | some (.rt r) => some (.rt r)
  | _ => none
def catX (l : List Nat) (oi : Option Nat) (f : Env → Option Fl) : Option Fl → Option Fl
  | some (.rs x e) => if l.contains x.c then (match oi with
    | some i => if i < e.length ∧ stOk e i = true then endX (some i) (f (e.set i (.exc x))) else none
    | none => endX none (f e)) else some (.rs x e)
  | r => r
section
variable (cf : Nat → List D → Out Rv)
mutual
def evS : S → Env → Option Fl
  | .rais c nm es, env => (evA cf es env).st env fun ds => if ds.length = nm.length then some (.rs ⟨c, (nm.zip ds).reverse⟩ env) else none
  | .tryX l oi b s, env => catX l oi (evB s) (evB b env)
  | .frz is s, env => evS s (frzL is env)
  | .asg (.nm i) e, env => (evE cf e env).st env fun r => setO env i r
  | .asg (.tp ts) e, env => (evE cf e env).st env fun r => match r with
    | .v d => (tgS (.tp ts) d env).map .nx
    | _ => none
  | .par i j a b, env => (evE cf a env).st env fun x => (evE cf b env).st env fun y => match x.sl, y.sl with
    | some p, some q => if i ≠ j ∧ stOk env i = true ∧ stOk env j = true then some (.nx ((env.set i p).set j q)) else none
    | _, _ => none
  | .sub i ix e, env => match env[i]? with
    | some (.own xs) => ((evE cf e env).bind Rv.fz).st env fun d => (evE cf ix env).st env fun k => match k with
      | .v (.int n) => (match ixN xs.length n with
        | some j => some (.nx (env.set i (.own (xs.set j d))))
        | none => none)
      | _ => none
    | _ => none
  | .app i e, env => match env[i]? with
    | some (.own xs) => ((evE cf e env).bind Rv.fz).st env fun d => if xs.length < lim then some (.nx (env.set i (.own (xs ++ [d])))) else none
    | _ => none
  | .ext i e, env => match env[i]? with
    | some (.own xs) => (evE cf e env).st env fun r => (match r.lv with
      | some ys => if xs.length + ys.length ≤ lim then some (.nx (env.set i (.own (xs ++ ys)))) else none
      | none => none)
    | _ => none
  | .pop i, env => match env[i]? with
    | some (.own xs) => if xs.isEmpty then none else some (.nx (env.set i (.own xs.dropLast)))
    | _ => none
  | .popA t i, env => if t = i ∨ stOk env t = false then none else match env[i]? with
    | some (.own xs) => (match xs[xs.length - 1]? with
      | some d => some (.nx ((env.set i (.own xs.dropLast)).set t (.v d)))
      | none => none)
    | _ => none
  | .ret (.var i), env => (match env[i]? with
    | some (.own xs) => some (.rt (.own xs))
    | some (.v d) => some (.rt (.v d))
    | _ => none)
  | .ret e, env => (evE cf e env).st env fun r => (match r with
    | .bor _ => none
    | r => some (.rt r))
  | .retN, _ => some (.rt (.v .non))
  | .ex e, env => (evE cf e env).st env fun _ => some (.nx env)
  | .skip, env => some (.nx env)
  | .ifs c a b, env => (evT cf c env).st env fun k => if k then evB a env else evB b env
  | .fr t it b, env => lockF (fun env => (evI cf it env).st env fun ds => forL (fun d e => (tgS t d e).bind fun e1 => evB b e1) ds env) it.vars env
  | .wh c b, env => whL (evT cf c) (evB b) wfuel env
  | .brk, env => some (.bk env)
  | .cnt, env => some (.ct env)
def evB : List S → Env → Option Fl
  | [], env => some (.nx env)
  | s :: r, env => seqF (evS s env) (evB r)
end
end

/-! ### defs -/
structure Fn where
  n : Nat
  np : Nat
  body : List S
def entry (fn : Fn) (ds : List D) : Env := ds.map Sl.v ++ List.replicate (fn.n - ds.length) .un
def fin : Option Fl → Out Rv
  | some (.rt (.v d)) => .ok (.v d)
  | some (.rt (.own xs)) => .ok (.own xs)
  | some (.nx _) => .ok (.v .non)
  | some (.rs x _) => .exc x
  | _ => .stk
def callF (T : List Fn) : Nat → Nat → List D → Out Rv
  | 0, _, _ => .stk
  | k + 1, f, ds => match T[f]? with
    | some fn => if ds.length = fn.np then fin (evB (callF T k) fn.body (entry fn ds)) else .stk
    | none => .stk
end Pd
set_option Elab.async false
set_option linter.all false
set_option maxRecDepth 100000
set_option autoImplicit false
set_option maxHeartbeats 4000000
/-! Operations by values do what PdB says. -/
namespace Pd
open PySem PyProof.Rows L2 TL
open Evl (Ex ex_l ex_t)

abbrev mkS (l : List Nat) : Str := ⟨l.toArray⟩
theorem mkS_len (l : List Nat) : (mkS l).length = l.length := by simp [Str.length]
theorem mkS_app (a b : List Nat) : mkS a ++ mkS b = mkS (a ++ b) := ext_tl (by rw [tl_append])
theorem mkS_inj {a b : List Nat} : (mkS a = mkS b) ↔ a = b := by
  constructor
  · intro h
    have e := congrArg tl h
    exact e
  · intro h; rw [h]
theorem lim_eq : sizeLine = lim := sizeLine_eq

section
variable {K : Fg} {F H F2 H2 : Hp} {Q : VK} {E : Xc → Prop}
/-- what is wanted of a result: (F, H) the state ahead of the whole expression -/
def Wt (K : Fg) (F H : Hp) (Q : VK) (r : Rv) : Prop := ∀ w F' H', Gr F H F' H' → RV K H F' H' w r → Q w H'
theorem Wt.int (g : Gr F H F2 H2) {i : Int} (h : Wt K F H Q (.v (.int i))) : Q (.int i) H2 := h _ F2 H2 g (Dv.int i)
theorem Wt.bl (g : Gr F H F2 H2) {i : Bool} (h : Wt K F H Q (.v (.bl i))) : Q (.bl i) H2 := h _ F2 H2 g (Dv.bl i)
theorem Wt.str (g : Gr F H F2 H2) {l : List Nat} (h : Wt K F H Q (.v (.str l))) : Q (.str (mkS l)) H2 := h _ F2 H2 g (Dv.str l)
theorem Wt.new (g : Gr F H F2 H2) {xs : List D} {vs : List V} (hv : DvL K F2 vs xs) (h : Wt K F H Q (.own xs)) : ∀ p, H2 p = none → Q (.ref p) (upd H2 p (.lst vs)) := fun p hp =>
  h _ F2 _ (g.new hp) ⟨p, vs, rfl, upd_same, back g.s hp, back g.h hp, hv⟩
theorem Wt.newT (g : Gr F H F2 H2) {xs : List D} {vs : List V} (hv : DvL K F2 vs xs) (h : Wt K F H Q (.v (.tup xs))) : ∀ p, H2 p = none → Q (.ref p) (upd H2 p (.tup vs)) := fun p hp => by
  have e1 : Ex F2 (upd F2 p (.tup vs)) := Ex.new (back g.s hp)
  exact h _ _ _ (g.add hp) (Dv.tup (SqT.of upd_same) (hv.up e1))
theorem Wt.val (g : Gr F H F2 H2) {d : D} {v : V} (hv : Dv K F2 v d) (h : Wt K F H Q (.v d)) : Q v H2 := h _ F2 H2 g hv

def rSem (K : Fg) (sem : Rv → Rv → Out Rv) : R2 := fun v u H2 Q => ∃ F H F2 x y E B, Gr F H F2 H2 ∧ RV K B F2 H2 v x ∧ RV K B F2 H2 u y ∧ (sem x y).wp (Wt K F H Q) E
def rSem1 (K : Fg) (sem : Rv → Out Rv) : V → Hp → VK → Prop := fun v H2 Q => ∃ F H F2 x E, Gr F H F2 H2 ∧ RV K H F2 H2 v x ∧ (sem x).wp (Wt K F H Q) E
end

/-- the items of a list or tuple, as they lie -/
theorem RV.sq {K : Fg} {B F H : Hp} {u : V} {r : Rv} {xs : List D} (h : RV K B F H u r) (s : Ex F H) (e : r.sq = some xs) : ∃ p vs, u = .ref p ∧ (SqL K H p vs ∨ SqT K H p vs) ∧ DvL K F vs xs := by
  unfold Rv.sq at e
  split at e
  · cases h with
    | tup a b =>
      have e' := Option.some.inj e
      subst e'
      exact ⟨_, _, rfl, .inr (ex_t s a), b⟩
  · cases h with
    | scr a =>
      have e' := Option.some.inj e
      subst e'
      rename_i ns _
      refine ⟨_, _, rfl, .inl (ex_l s a), ?_⟩
      clear a e
      induction ns with
      | nil => exact .nil
      | cons n ns ih => exact .cons (.int n) ih
  · obtain ⟨p, vs, e0, h1, h2⟩ := h.lst s e
    exact ⟨p, vs, e0, .inl (SqL.of h1), h2⟩
/-! ### data as PyData -/
mutual
theorem dp_of {K : Fg} {F H : Hp} (s : Ex F H) : ∀ (d : D) (v : V), Dv K F v d → Dp K H v d.py
  | .non, _, h => by cases h; unfold D.py; exact .non
  | .bl _, _, h => by cases h; unfold D.py; exact .bl _
  | .int _, _, h => by cases h; unfold D.py; exact .int _
  | .str _, _, h => by cases h; unfold D.py; exact .str _
  | .lst ds, _, h => by
    cases h with
    | lst a b => unfold D.py; exact .lst (SqL.of (s _ _ a)) (dp_ofL s ds _ b)
  | .tup ds, _, h => by
    cases h with
    | tup a b => unfold D.py; exact .tup (ex_t s a) (dp_ofL s ds _ b)
  | .scr ns, _, h => by
    cases h with
    | scr a =>
      unfold D.py
      refine .lst (ex_l s a) ?_
      clear a
      induction ns with
      | nil => exact .nil
      | cons n ns ih => exact .cons (.int n) ih
theorem dp_ofL {K : Fg} {F H : Hp} (s : Ex F H) : ∀ (ds : List D) (vs : List V), DvL K F vs ds → DpAll K H vs (D.pyL ds)
  | [], _, h => by cases h; unfold D.pyL; exact .nil
  | d :: ds, _, h => by
    cases h with
    | cons a b => unfold D.pyL; exact .cons (dp_of s d _ a) (dp_ofL s ds _ b)
end
theorem RV.dp {K : Fg} {B F H : Hp} {u : V} {r : Rv} (h : RV K B F H u r) (s : Ex F H) : Dp K H u r.d.py := by
  cases r with
  | v d => exact dp_of s d u h
  | own xs =>
    obtain ⟨p, vs, rfl, h1, h2, h3, h4⟩ := h
    show Dp K H (.ref p) (D.lst xs).py
    unfold D.py
    exact .lst (SqL.of h1) (dp_ofL s xs vs h4)
  | bor xs =>
    obtain ⟨p, vs, rfl, h1, h2, h4⟩ := h
    show Dp K H (.ref p) (D.lst xs).py
    unfold D.py
    exact .lst (SqL.of h1) (dp_ofL s xs vs h4)

section
variable {X : Cx}
theorem cat_ok {pins : List (Addr × Obj)} {s : Shared} {σ : L2.St} {H2 : Hp} {v u : V} {vv uu : Value} {Q : VK} (I : Inv X pins σ H2 s) (rv : RelV v vv) (ru : RelV u uu)
    {F H F2 B : Hp} {x y : Rv} {E : Xc → Prop} (g : Gr F H F2 H2) (hx : RV X.K B F2 H2 v x) (hy : RV X.K B F2 H2 u y) (h : (cat x y).wp (Wt X.K F H Q) E) :
    wpAny (model X.prog X.w) X.A (binaryOp .Add vv uu) (EP X pins σ Q) X.xe s := by
  unfold cat at h
  split at h
  · rename_i a b ea eb
    obtain ⟨p, vs, rfl, h1, h2⟩ := hx.lst g.s ea
    obtain ⟨q, ws, rfl, h3, h4⟩ := hy.lst g.s eb
    unfold dOwn at h
    split at h
    · rename_i hl
      refine op_cat pins s σ H2 _ _ vv uu Q I rv ru ⟨p, q, vs, ws, rfl, rfl, h1, h3, ?_, Wt.new g (h2.app h4) h⟩
      rw [h2.len, h4.len, lim_eq, ← List.length_append]
      exact hl
    · exact h.elim
  · exact h.elim
theorem add_ok : OpR X (binaryOp .Add) (rSem X.K bAdd) := by
  intro pins s σ H2 v u vv uu Q I rv ru h
  obtain ⟨F, H, F2, x, y, E, B, g, hx, hy, h⟩ := h
  unfold bAdd at h
  split at h
  · cases hx; cases hy
    exact op_add pins s σ H2 _ _ vv uu Q I rv ru ⟨_, _, rfl, rfl, Wt.int g h⟩
  · cases hx; cases hy
    unfold dStr at h
    split at h
    · rename_i hl
      refine op_add_str pins s σ H2 _ _ vv uu Q I rv ru ⟨_, _, rfl, rfl, ?_, ?_⟩
      · rw [mkS_len, mkS_len, lim_eq, ← List.length_append]
        exact hl
      · have e := mkS_app
        unfold mkS at e
        rw [e]
        exact Wt.str g h
    · exact h.elim
  · cases hx with
    | tup s1 a1 =>
      cases hy with
      | tup s2 a2 =>
        split at h
        · exact h.elim
        · rename_i hne
          split at h
          · rename_i hl
            refine op_catT pins s σ H2 _ _ vv uu Q I rv ru ⟨_, _, _, _, rfl, rfl, Evl.ex_t g.s s1, Evl.ex_t g.s s2, ?_, ?_, fun e => ?_, fun _ => Wt.newT g (a1.app a2) h⟩
            · intro e
              subst e
              cases a1
              exact hne rfl
            · rw [a1.len, a2.len, lim_eq, ← List.length_append]
              exact hl
            · subst e
              cases a2
              rw [List.append_nil] at h
              exact Wt.val g (Dv.tup s1 a1) h
          · exact h.elim
  · exact cat_ok I rv ru g hx hy h
theorem sub_ok : OpR X (binaryOp .Sub) (rSem X.K bSub) := by
  intro pins s σ H2 v u vv uu Q I rv ru h
  obtain ⟨F, H, F2, x, y, E, B, g, hx, hy, h⟩ := h
  unfold bSub at h
  split at h
  · cases hx; cases hy
    exact op_sub pins s σ H2 _ _ vv uu Q I rv ru ⟨_, _, rfl, rfl, Wt.int g h⟩
  · exact h.elim
theorem small_of {i : Int} (h : small i = true) : -(2 ^ 64) < i ∧ i < 2 ^ 64 := by
  unfold small at h
  rw [Bool.and_eq_true] at h
  exact ⟨of_decide_eq_true h.1, of_decide_eq_true h.2⟩
theorem mulI_ok {pins : List (Addr × Obj)} {s : Shared} {σ : L2.St} {H2 : Hp} {i j : Int} {vv uu : Value} {Q : VK} (I : Inv X pins σ H2 s) (rv : RelV (.int i) vv) (ru : RelV (.int j) uu)
    (h : (small i || small j || decide (i.natAbs.log2 + j.natAbs.log2 < 1000000)) = true) (q : Q (.int (i * j)) H2) : wpAny (model X.prog X.w) X.A (binaryOp .Mult vv uu) (EP X pins σ Q) X.xe s := by
  rw [Bool.or_eq_true, Bool.or_eq_true] at h
  rcases h with (h | h) | h
  · exact op_mul pins s σ H2 _ _ vv uu Q I rv ru ⟨_, _, rfl, rfl, .inl (small_of h), q⟩
  · exact op_mul pins s σ H2 _ _ vv uu Q I rv ru ⟨_, _, rfl, rfl, .inr (small_of h), q⟩
  · have hh := of_decide_eq_true h
    exact op_mulW pins s σ H2 _ _ vv uu Q I rv ru ⟨_, _, rfl, rfl, hh, q⟩
theorem div_ok : OpR X (binaryOp .FloorDiv) (rSem X.K bDiv) := by
  intro pins s σ H2 v u vv uu Q I rv ru h
  obtain ⟨F, H, F2, x, y, E, B, g, hx, hy, h⟩ := h
  unfold bDiv at h
  split at h
  · cases hx; cases hy
    split at h
    · rename_i hc
      rw [Bool.and_eq_true] at hc
      exact op_fdivW pins s σ H2 _ _ vv uu Q I rv ru ⟨_, _, rfl, rfl, ⟨of_decide_eq_true hc.1, of_decide_eq_true hc.2⟩, Wt.int g h⟩
    · exact h.elim
  · exact h.elim
theorem mod_ok : OpR X (binaryOp .Mod) (rSem X.K bMod) := by
  intro pins s σ H2 v u vv uu Q I rv ru h
  obtain ⟨F, H, F2, x, y, E, B, g, hx, hy, h⟩ := h
  unfold bMod at h
  split at h
  · cases hx; cases hy
    split at h
    · rename_i hc
      exact op_mod pins s σ H2 _ _ vv uu Q I rv ru ⟨_, _, rfl, rfl, hc, Wt.int g h⟩
    · exact h.elim
  · exact h.elim
theorem pow_ok : OpR X (binaryOp .Pow) (rSem X.K bPow) := by
  intro pins s σ H2 v u vv uu Q I rv ru h
  obtain ⟨F, H, F2, x, y, E, B, g, hx, hy, h⟩ := h
  unfold bPow at h
  split at h
  · cases hx; cases hy
    split at h
    · rename_i hc
      rw [Bool.and_eq_true, Bool.and_eq_true] at hc
      have h1 := of_decide_eq_true hc.1.1
      have h2 := of_decide_eq_true hc.1.2
      exact op_pow pins s σ H2 _ _ vv uu Q I rv ru ⟨_, _, rfl, rfl, ⟨h1, by omega, of_decide_eq_true hc.2⟩, Wt.int g h⟩
    · exact h.elim
  · exact h.elim
theorem rep_size (l : List Nat) : ∀ n : Nat, (List.replicate n l).flatten.length = l.length * n
  | 0 => rfl
  | n + 1 => by rw [List.replicate_succ, List.flatten_cons, List.length_append, rep_size l n, Nat.mul_succ, Nat.add_comm]
theorem neg_ok : UnR X (unaryOp .USub) (rSem1 X.K dNeg) := by
  intro pins s σ H2 v vv Q I rv h
  obtain ⟨F, H, F2, x, E, g, hx, h⟩ := h
  unfold dNeg at h
  split at h
  · cases hx
    exact un_neg pins s σ H2 _ vv Q I rv ⟨_, rfl, Wt.int g h⟩
  · exact h.elim

/-! ### comparisons -/
theorem sEq_scal {a b : D} {K : Fg} {F : Hp} {v u : V} {k : Bool} (h : sEq a b = some k) (hv : Dv K F v a) (hu : Dv K F u b) : scal v u = true ∧ decide (v = u) = k := by
  unfold sEq at h
  split at h
  all_goals first
    | (cases hv; cases hu; refine ⟨rfl, ?_⟩; rw [← Option.some.inj h]; simp)
    | exact nomatch h
theorem Rv.d_v {K : Fg} {B F H : Hp} {u : V} {r : Rv} {d : D} (h : RV K B F H u r) (e : r.d = d) (hl : ∀ xs, d ≠ .lst xs) : Dv K F u d := by
  cases r with
  | v d' =>
    have e' : d' = d := e
    rw [← e']
    exact h
  | own xs => exact absurd e.symm (hl xs)
  | bor xs => exact absurd e.symm (hl xs)
theorem sEq_nl {a b : D} {k : Bool} (h : sEq a b = some k) : (∀ xs, a ≠ .lst xs) ∧ ∀ xs, b ≠ .lst xs := by
  constructor
  · intro xs e
    subst e
    cases b <;> cases h
  · intro xs e
    subst e
    cases a <;> cases h
theorem eq_ok (hu : X.A.units + 64 < cLine) : OpR X (compareOp .Eq) (rSem X.K (cEq false)) := by
  intro pins s σ H2 v u vv uu Q I rv ru h
  obtain ⟨F, H, F2, x, y, E, B, g, hx, hy, h⟩ := h
  unfold cEq at h
  split at h
  · rename_i k e
    obtain ⟨n1, n2⟩ := sEq_nl e
    obtain ⟨h1, h2⟩ := sEq_scal e (Rv.d_v hx rfl n1) (Rv.d_v hy rfl n2)
    refine op_eq pins s σ H2 _ _ vv uu Q I rv ru ⟨h1, ?_⟩
    rw [h2]
    exact Wt.bl g h
  · unfold cEqD at h
    split at h
    · rename_i hc
      rw [Bool.and_eq_true] at hc
      exact op_eqD hu pins s σ H2 _ _ vv uu Q I rv ru ⟨_, _, hx.dp g.s, hy.dp g.s, hc.1, hc.2, Wt.bl g h⟩
    · exact h.elim
theorem ne_ok (hu : X.A.units + 64 < cLine) : OpR X (compareOp .NotEq) (rSem X.K (cEq true)) := by
  intro pins s σ H2 v u vv uu Q I rv ru h
  obtain ⟨F, H, F2, x, y, E, B, g, hx, hy, h⟩ := h
  unfold cEq at h
  split at h
  · rename_i k e
    obtain ⟨n1, n2⟩ := sEq_nl e
    obtain ⟨h1, h2⟩ := sEq_scal e (Rv.d_v hx rfl n1) (Rv.d_v hy rfl n2)
    refine op_ne pins s σ H2 _ _ vv uu Q I rv ru ⟨h1, ?_⟩
    rw [h2]
    exact Wt.bl g h
  · unfold cEqD at h
    split at h
    · rename_i hc
      rw [Bool.and_eq_true] at hc
      exact op_neD hu pins s σ H2 _ _ vv uu Q I rv ru ⟨_, _, hx.dp g.s, hy.dp g.s, hc.1, hc.2, Wt.bl g h⟩
    · exact h.elim
theorem lt_ok : OpR X (compareOp .Lt) (rSem X.K cLt) := by
  intro pins s σ H2 v u vv uu Q I rv ru h
  obtain ⟨F, H, F2, x, y, E, B, g, hx, hy, h⟩ := h
  unfold cLt at h
  split at h
  · cases hx; cases hy
    exact op_lt pins s σ H2 _ _ vv uu Q I rv ru ⟨_, _, rfl, rfl, Wt.bl g h⟩
  · cases hx; cases hy
    exact op_lt_str pins s σ H2 _ _ vv uu Q I rv ru ⟨_, _, rfl, rfl, Wt.bl g h⟩
  · exact h.elim
theorem le_ok : OpR X (compareOp .LtE) (rSem X.K cLe) := by
  intro pins s σ H2 v u vv uu Q I rv ru h
  obtain ⟨F, H, F2, x, y, E, B, g, hx, hy, h⟩ := h
  unfold cLe at h
  split at h
  · cases hx; cases hy
    exact op_le pins s σ H2 _ _ vv uu Q I rv ru ⟨_, _, rfl, rfl, Wt.bl g h⟩
  · cases hx; cases hy
    exact op_le_str pins s σ H2 _ _ vv uu Q I rv ru ⟨_, _, rfl, rfl, Wt.bl g h⟩
  · exact h.elim
theorem gt_ok : OpR X (compareOp .Gt) (rSem X.K fun x y => cLt y x) := by
  intro pins s σ H2 v u vv uu Q I rv ru h
  obtain ⟨F, H, F2, x, y, E, B, g, hx, hy, h⟩ := h
  have h : (cLt y x).wp (Wt X.K F H Q) E := h
  unfold cLt at h
  split at h
  · cases hx; cases hy
    exact op_gt pins s σ H2 _ _ vv uu Q I rv ru ⟨_, _, rfl, rfl, Wt.bl g h⟩
  · cases hx; cases hy
    exact op_gt_str pins s σ H2 _ _ vv uu Q I rv ru ⟨_, _, rfl, rfl, Wt.bl g h⟩
  · exact h.elim
theorem ge_ok : OpR X (compareOp .GtE) (rSem X.K fun x y => cLe y x) := by
  intro pins s σ H2 v u vv uu Q I rv ru h
  obtain ⟨F, H, F2, x, y, E, B, g, hx, hy, h⟩ := h
  have h : (cLe y x).wp (Wt X.K F H Q) E := h
  unfold cLe at h
  split at h
  · cases hx; cases hy
    exact op_ge pins s σ H2 _ _ vv uu Q I rv ru ⟨_, _, rfl, rfl, Wt.bl g h⟩
  · cases hx; cases hy
    exact op_ge_str pins s σ H2 _ _ vv uu Q I rv ru ⟨_, _, rfl, rfl, Wt.bl g h⟩
  · exact h.elim
theorem flat_V {K : Fg} {F : Hp} {v : V} {d : D} (h : Dv K F v d) (f : flatD d = true) : flatV v = true := by
  cases h <;> first | rfl | cases f
theorem flat_VL {K : Fg} {F : Hp} : ∀ {vs : List V} {ds : List D}, DvL K F vs ds → ds.all flatD = true → vs.all flatV = true
  | _, _, .nil, _ => rfl
  | _, _, .cons a b, f => by
    rw [List.all_cons, Bool.and_eq_true] at f ⊢
    exact ⟨flat_V a f.1, flat_VL b f.2⟩
theorem eqF_V {K : Fg} {F : Hp} {v u : V} {d e : D} (h : Dv K F v d) (k : Dv K F u e) (fd : flatD d = true) (fe : flatD e = true) : eqV v u = eqF d e := by
  cases h with
  | str l =>
    cases k with
    | str m =>
      show ((⟨l.toArray⟩ : Str) == ⟨m.toArray⟩) = decide (l = m)
      by_cases q : l = m
      · subst q; simp
      · rw [decide_eq_false q]
        apply beq_eq_false_iff_ne.mpr
        intro z
        exact q (mkS_inj.mp z)
    | _ => first | rfl | cases fe
  | non => cases k <;> first | rfl | cases fe
  | bl b => cases k <;> first | rfl | cases fe
  | int i => cases k <;> first | rfl | cases fe
  | _ => cases fd
theorem inV_D {K : Fg} {F : Hp} {u : V} {e : D} (k : Dv K F u e) (fe : flatD e = true) : ∀ {vs : List V} {ds : List D}, DvL K F vs ds → ds.all flatD = true → inV u vs = ds.any fun y => eqF y e
  | _, _, .nil, _ => rfl
  | _, _, .cons a b, f => by
    rw [List.all_cons, Bool.and_eq_true] at f
    have ih := inV_D k fe b f.2
    unfold inV at ih ⊢
    rw [List.any_cons, List.any_cons, eqF_V a k f.1 fe, ih]
theorem inS_of {neg : Bool} {F H F2 H2 B : Hp} {v u : V} {x : D} {y : Rv} {Q : VK} {E : Xc → Prop} {K : Fg} (g : Gr F H F2 H2) (hx : Dv K F2 v x) (hy : RV K B F2 H2 u y) (h : (cInS neg x y.sq).wp (Wt K F H Q) E) : rIn K neg v u H2 Q := by
  unfold cInS at h
  split at h
  · rename_i xs e
    split at h
    · rename_i hc
      rw [Bool.and_eq_true] at hc
      obtain ⟨p, vs, rfl, hs, hv⟩ := hy.sq g.s e
      refine ⟨p, vs, rfl, hs, flat_V hx hc.1, flat_VL hv hc.2, ?_⟩
      rw [inV_D hx hc.1 hv hc.2]
      exact Wt.bl g h
    · exact h.elim
  · exact h.elim
theorem in_ok : OpR X (compareOp .In) (rSem X.K (cIn false)) := by
  intro pins s σ H2 v u vv uu Q I rv ru h
  obtain ⟨F, H, F2, x, y, E, B, g, hx, hy, h⟩ := h
  unfold cIn at h
  split at h
  · cases hx; cases hy
    exact op_in_sign pins s σ H2 _ _ vv uu Q I rv ru ⟨_, _, rfl, rfl, Wt.bl g h⟩
  · exact op_in_seq pins s σ H2 _ _ vv uu Q I rv ru (inS_of g hx hy h)
  · exact h.elim
theorem notIn_ok : OpR X (compareOp .NotIn) (rSem X.K (cIn true)) := by
  intro pins s σ H2 v u vv uu Q I rv ru h
  obtain ⟨F, H, F2, x, y, E, B, g, hx, hy, h⟩ := h
  unfold cIn at h
  split at h
  · cases hx; cases hy
    exact op_notIn_sign pins s σ H2 _ _ vv uu Q I rv ru ⟨_, _, rfl, rfl, Wt.bl g h⟩
  · exact op_notIn_seq pins s σ H2 _ _ vv uu Q I rv ru (inS_of g hx hy h)
  · exact h.elim
theorem isN_of {K : Fg} {B F H : Hp} {v u : V} {x y : Rv} {n : Bool} {m : Out Rv} (hx : RV K B F H v x) (hy : RV K B F H u y) {P : Rv → Prop} {E : Xc → Prop} (h : (cIsN n x y).wp P E) : u = .non ∧ P (.v (.bl (if n then !decide (v = .non) else decide (v = .non)))) := by
  unfold cIsN at h
  split at h
  · cases hy
    refine ⟨rfl, ?_⟩
    rename_i d
    cases hx <;> (cases n <;> simpa [dBl, Out.wp] using h)
  · cases hy
    refine ⟨rfl, ?_⟩
    obtain ⟨p, vs, rfl, _⟩ := hx
    have h' : P (.v (.bl n)) := h
    cases n <;> simpa using h'
  · cases hy
    refine ⟨rfl, ?_⟩
    obtain ⟨p, vs, rfl, _⟩ := hx
    have h' : P (.v (.bl n)) := h
    cases n <;> simpa using h'
  · exact h.elim
theorem isN_ok : OpR X (compareOp .Is) (rSem X.K (cIsN false)) := by
  intro pins s σ H2 v u vv uu Q I rv ru h
  obtain ⟨F, H, F2, x, y, E, B, g, hx, hy, h⟩ := h
  obtain ⟨h1, h2⟩ := isN_of (m := .stk) hx hy h
  exact op_isN pins s σ H2 _ _ vv uu Q I rv ru ⟨h1, Wt.bl g h2⟩
theorem notN_ok : OpR X (compareOp .IsNot) (rSem X.K (cIsN true)) := by
  intro pins s σ H2 v u vv uu Q I rv ru h
  obtain ⟨F, H, F2, x, y, E, B, g, hx, hy, h⟩ := h
  obtain ⟨h1, h2⟩ := isN_of (m := .stk) hx hy h
  exact op_notN pins s σ H2 _ _ vv uu Q I rv ru ⟨h1, Wt.bl g h2⟩
end
end Pd
set_option Elab.async false
set_option linter.all false
set_option maxRecDepth 100000
set_option autoImplicit false
set_option maxHeartbeats 4000000
/-! More operations by values: repetition, truth, subscripts, slices, built-ins, methods of texts. -/
namespace Pd
open PySem PyProof.Rows L2 TL
open Evl (Ex ex_l ex_t)

section
variable {X : Cx}
theorem flat_toList (c : Array Nat) : ∀ (n : Nat) (acc : Array Nat), ((List.replicate n c).foldl (· ++ ·) acc).toList = acc.toList ++ (List.replicate n c.toList).flatten
  | 0, acc => by simp
  | n + 1, acc => by
    rw [List.replicate_succ, List.foldl_cons, flat_toList c n, List.replicate_succ, List.flatten_cons, Array.toList_append, List.append_assoc]
theorem mulS_ok {pins : List (Addr × Obj)} {s : Shared} {σ : L2.St} {H2 : Hp} {a : List Nat} {n : Int} {vv uu : Value} {Q : VK} (I : Inv X pins σ H2 s) (rv : RelV (.str (mkS a)) vv) (ru : RelV (.int n) uu)
    (h1 : -(2 ^ 62) < n) (h2 : n < 2 ^ 62) (hz : a.length * n.toNat ≤ lim) (q : Q (.str (mkS (List.replicate n.toNat a).flatten)) H2) : wpAny (model X.prog X.w) X.A (binaryOp .Mult vv uu) (EP X pins σ Q) X.xe s := by
  obtain ⟨t, rfl⟩ := rv
  obtain ⟨u, rfl⟩ := ru
  have e1 : decide (n < -(2 ^ 63 : Int)) = false := decide_eq_false (by omega)
  have e2 : decide (n ≥ 2 ^ 63) = false := decide_eq_false (by omega)
  refine PySem.P.mul_str (by rw [e1, e2]; rfl) (fun h3 _ hh => ?_) (fun h3 _ => ?_) ?_
  · rw [mkS_len] at hh
    have hn : n = (n.toNat : Int) := by omega
    have hpos : (0 : Int) < n := by omega
    have h5 : (a.length : Int) * n ≤ 2 ^ 63 - 1 := by
      rw [hn, ← Int.natCast_mul]
      have : a.length * n.toNat ≤ 16777216 := hz
      omega
    have h6 := Int.le_ediv_of_mul_le hpos h5
    omega
  · rw [mkS_len]
    show decide _ = false
    have hz' : a.length * n.toNat ≤ 16777216 := hz
    have hsz := sizeLine_eq
    apply decide_eq_false
    omega
  · by_cases c1 : n < 1
    · rw [if_pos c1]
      have e : n.toNat = 0 := by omega
      rw [e] at q
      exact ⟨by decide, .str (mkS []), H2, I.tok _, ⟨_, rfl⟩, q⟩
    · rw [if_neg c1]
      split
      · rename_i c2
        have e : (List.replicate n.toNat a).flatten = a := by
          rw [Bool.or_eq_true] at c2
          rcases c2 with c2 | c2
          · have : n = 1 := eq_of_beq c2
            subst this
            simp
          · have c3 : (mkS a).length = 0 := eq_of_beq c2
            rw [mkS_len] at c3
            have : a = [] := List.eq_nil_of_length_eq_zero c3
            subst this
            simp
        rw [e] at q
        exact ⟨.str (mkS a), H2, I, ⟨_, rfl⟩, q⟩
      · have e : (⟨(List.replicate n.toNat (mkS a).cps).foldl (· ++ ·) #[]⟩ : Str) = mkS (List.replicate n.toNat a).flatten := ext_tl (by
          show ((List.replicate n.toNat (mkS a).cps).foldl (· ++ ·) #[]).toList = _
          rw [flat_toList]
          rfl)
        rw [e]
        refine ⟨by rw [mkS_len, rep_size, lim_eq]; exact hz, .str _, H2, I.tok _, ⟨_, rfl⟩, q⟩
theorem mul_ok : OpR X (binaryOp .Mult) (rSem X.K bMul) := by
  intro pins s σ H2 v u vv uu Q I rv ru h
  obtain ⟨F, H, F2, x, y, E, B, g, hx, hy, h⟩ := h
  unfold bMul at h
  split at h
  · cases hx; cases hy
    split at h
    · rename_i hc
      exact mulI_ok I rv ru hc (Wt.int g h)
    · exact h.elim
  · cases hx; cases hy
    split at h
    · rename_i hc
      rw [Bool.and_eq_true, Bool.and_eq_true] at hc
      exact mulS_ok I rv ru (of_decide_eq_true hc.1.1) (of_decide_eq_true hc.1.2) (of_decide_eq_true hc.2) (Wt.str g h)
    · exact h.elim
  · cases hy
    split at h
    · rename_i a ea
      split at h
      · rename_i hc
        rw [Bool.and_eq_true, Bool.and_eq_true] at hc
        obtain ⟨p, vs, rfl, h1, h2⟩ := hx.lst g.s ea
        have c1 := of_decide_eq_true hc.1.1
        have c2 := of_decide_eq_true hc.1.2
        have c3 := of_decide_eq_true hc.2
        refine op_rep pins s σ H2 _ _ vv uu Q I rv ru ⟨p, _, vs, rfl, rfl, h1, by omega, by omega, ?_, Wt.new g (h2.rep _) h⟩
        rw [h2.len, lim_eq]
        exact c3
      · exact h.elim
    · exact h.elim
  · exact h.elim
/-- all of them -/
def opOf : BOp → Operator
  | .add => .Add | .sub => .Sub | .mul => .Mult | .fdiv => .FloorDiv | .mod => .Mod | .pow => .Pow
theorem bop_ok (o : BOp) : OpR X (binaryOp (opOf o)) (rSem X.K (bop o)) := by
  cases o
  · exact add_ok
  · exact sub_ok
  · exact mul_ok
  · exact div_ok
  · exact mod_ok
  · exact pow_ok
def cmpOf : COp → CmpOp
  | .eq => .Eq | .ne => .NotEq | .lt => .Lt | .le => .LtE | .gt => .Gt | .ge => .GtE | .isN => .Is | .notN => .IsNot | .in_ => .In | .notIn => .NotIn
theorem cop_ok (hu : X.A.units + 64 < cLine) (o : COp) : OpR X (compareOp (cmpOf o)) (rSem X.K (cop o)) := by
  cases o
  · exact eq_ok hu
  · exact ne_ok hu
  · exact lt_ok
  · exact le_ok
  · exact gt_ok
  · exact ge_ok
  · exact isN_ok
  · exact notN_ok
  · exact in_ok
  · exact notIn_ok

/-! ### truth -/
theorem tru_val {K : Fg} {B F H : Hp} {v : V} {x : Rv} {P : Bool → Prop} {E : Xc → Prop} (hx : RV K B F H v x) (s : Ex F H) (h : (tru x).wp P E) : ∃ k, TruV K v H k ∧ P k := by
  unfold tru at h
  split at h
  · cases hx; exact ⟨_, rfl, h⟩
  · cases hx; exact ⟨_, rfl, h⟩
  · cases hx; exact ⟨_, rfl, h⟩
  · cases hx
    rename_i l
    split at h
    · rename_i hl
      refine ⟨_, ⟨by rw [mkS_len, lim_eq]; exact hl, ?_⟩, h⟩
      rw [mkS_len]
      cases l with
      | nil => rfl
      | cons a r =>
        show true = (((r.length + 1 : Nat) : Int) != 0)
        simp only [bne, Bool.true_eq, Bool.not_eq_true']
        rw [beq_eq_false_iff_ne]
        omega
    · exact h.elim
  · cases hx with
    | lst a b =>
      refine ⟨_, .inl ⟨_, .inl (.inl (s _ _ a)), rfl⟩, ?_⟩
      cases b <;> exact h
  · cases hx with
    | tup a b =>
      refine ⟨_, .inr (.inl ⟨_, ex_t s a, rfl⟩), ?_⟩
      cases b <;> exact h
  · cases hx with
    | scr a =>
      refine ⟨_, .inl ⟨_, ex_l s a, rfl⟩, ?_⟩
      rename_i ns _
      cases ns <;> exact h
  · obtain ⟨p, vs, rfl, h1, h2, h3, h4⟩ := hx
    refine ⟨_, .inl ⟨_, .inl (.inl h1), rfl⟩, ?_⟩
    cases h4 <;> exact h
  · obtain ⟨p, vs, rfl, h1, h2, h4⟩ := hx
    refine ⟨_, .inl ⟨_, .inl (.inl h1), rfl⟩, ?_⟩
    cases h4 <;> exact h

/-! ### subscripts -/
theorem at_dv {K : Fg} {F : Hp} {vs : List V} {xs : List D} {i : Int} {d : D} (h : DvL K F vs xs) (e : atI xs i = some d) : ∃ v, atI vs i = some v ∧ Dv K F v d := by
  unfold atI at e ⊢
  rw [h.len]
  cases q : ixN xs.length i with
  | none => rw [q] at e; cases e
  | some j =>
    rw [q] at e
    exact h.get e
theorem at_map {α β : Type} (f : α → β) {xs : List α} {i : Int} {d : α} (e : atI xs i = some d) : atI (xs.map f) i = some (f d) := by
  unfold atI at e ⊢
  rw [List.length_map]
  cases q : ixN xs.length i with
  | none => rw [q] at e; cases e
  | some j =>
    rw [q] at e
    have e' : xs[j]? = some d := e
    show (xs.map f)[j]? = some (f d)
    rw [List.getElem?_map, e']
    rfl
theorem getI_ok : IxR X (rSem X.K getI) := by
  intro value slice pins s σ H2 v u vv uu Q I rv ru h hs
  obtain ⟨F, H, F2, x, y, E, B, g, hx, hy, h⟩ := h
  unfold getI at h
  split at h
  · cases hx; cases hy
    split at h
    · rename_i hl
      split at h
      · rename_i c e
        exact ix_str value slice pins s σ H2 _ _ vv uu Q I rv ru ⟨_, _, c, rfl, rfl, by rw [mkS_len, lim_eq]; exact hl, e, Wt.str g h⟩ hs
      · exact h.elim
    · exact h.elim
  · cases hy
    cases hx with
    | tup a b =>
      split at h
      · rename_i d e
        obtain ⟨w, e2, hw⟩ := at_dv b e
        exact ix_tup value slice pins s σ H2 _ _ vv uu Q I rv ru ⟨_, _, _, w, rfl, rfl, ex_t g.s a, e2, Wt.val g hw h⟩ hs
      · exact h.elim
  · cases hy
    cases hx with
    | scr a =>
      split at h
      · rename_i d e
        exact ix_list value slice pins s σ H2 _ _ vv uu Q I rv ru ⟨_, _, _, _, rfl, rfl, ex_l g.s a, at_map V.int e, Wt.int g h⟩ hs
      · exact h.elim
  · cases hy
    split at h
    · rename_i xs ea
      obtain ⟨p, vs, rfl, h1, h2⟩ := hx.lst g.s ea
      split at h
      · rename_i d e
        obtain ⟨w, e2, hw⟩ := at_dv h2 e
        exact ix_list value slice pins s σ H2 _ _ vv uu Q I rv ru ⟨_, _, _, w, rfl, rfl, SqL.of h1, e2, Wt.val g hw h⟩ hs
      · exact h.elim
    · exact h.elim
  · exact h.elim

/-! ### slices -/
def rSlc (K : Fg) : V → Option Int → Option Int → Hp → VK → Prop := fun v lo hi H2 Q => ∃ F H F2 x E, Gr F H F2 H2 ∧ RV K H F2 H2 v x ∧ (getS x lo hi).wp (Wt K F H Q) E
theorem getS_ok : SlR X (rSlc X.K) := by
  intro pins s σ H2 v vv vl vu lo hi sl Q I rv hsl pl pu h
  obtain ⟨F, H, F2, x, E, g, hx, h⟩ := h
  unfold getS at h
  split at h
  · cases hx
    split at h
    · rename_i hl
      refine sl_str pins s σ H2 _ vv vl vu lo hi sl Q I rv hsl pl pu ⟨_, rfl, by rw [mkS_len, lim_eq]; exact hl, ?_⟩
      have q := Wt.str g h
      unfold cutS
      rw [mkS_len]
      exact q
    · exact h.elim
  · cases hx with
    | tup a b =>
      split at h
      · exact h.elim
      · rename_i hc
        refine sl_tup pins s σ H2 _ vv vl vu lo hi sl Q I rv hsl pl pu ⟨_, _, rfl, ex_t g.s a, by rw [b.len]; exact hc, ?_⟩
        refine Wt.newT g ?_ h
        unfold cutV cut
        rw [b.len]
        exact (b.drop _).take _
  · split at h
    · rename_i xs ea
      obtain ⟨p, vs, rfl, h1, h2⟩ := hx.lst g.s ea
      refine sl_list pins s σ H2 _ vv vl vu lo hi sl Q I rv hsl pl pu ⟨_, _, rfl, SqL.of h1, Wt.new g ?_ h⟩
      unfold cutV cut
      rw [h2.len]
      exact (h2.drop _).take _
    · exact h.elim
theorem rev_str (x : Str) (u : Tok) : Txt.sliceBy x none none (-1, u) = mkS x.cps.toList.reverse := ext_tl (by
  show (Txt.sliceBy x none none (-1, u)).cps.toList = x.cps.toList.reverse
  rw [step_rev_list]
  apply List.ext_getElem?
  intro i
  rw [List.getElem?_map]
  by_cases hi : i < x.length
  · have h0 : x.cps.toList.length = x.length := by simp [Str.length]
    have hs : i < x.cps.size := hi
    rw [List.getElem?_range hi, List.getElem?_reverse (by rw [h0]; exact hi), h0]
    have hlt : x.length - 1 - i < x.cps.size := by show x.cps.size - 1 - i < _; omega
    simp [Array.getD, hlt]
  · have h0 : x.cps.toList.length = x.length := by simp [Str.length]
    rw [List.getElem?_eq_none (by simpa using hi), List.getElem?_eq_none (by rw [List.length_reverse, h0]; omega)]
    rfl)
/-- a[::-1] -/
def tRv (K : Fg) (te : TE) : TE := fun σ H Q => te σ H fun v H1 => ∃ F H0 F2 x E, Gr F H0 F2 H1 ∧ RV K H0 F2 H1 v x ∧ (getR x).wp (Wt K F H0 Q) E
theorem pe_revS {e : Expr} {te : TE} {k : Nat} {p1 p2 p3 pos : Pos} (he : PE X e te) : PE X (.Subscript e (.Slice none none (some (.UnaryOp .USub (.Constant (.int 1) k p1) p2)) p3) pos)
    (fun σ H Q => te σ H fun v H1 => ∃ z, v = .str z ∧ z.length ≤ sizeLine ∧ Q (.str (mkS z.cps.toList.reverse)) H1) := by
  refine ⟨fun pins s σ H Q I h => ?_⟩
  refine Subscript_ (thn (he.run pins s σ H _ I h) fun v s1 ⟨x, H1, I1, r1, q1⟩ => ?_)
  obtain ⟨z, rfl, hz, q⟩ := q1
  obtain ⟨t, rfl⟩ := r1
  have hst : PO X (some (.UnaryOp .USub (.Constant (.int 1) k p1) p2)) (tPart (tUn (rU fun i => .int (-i)) (tC (.int 1)))) := po_some (pe_un un_neg pe_int)
  refine wpAny_Slice ?_
  rw [evalPart_none]
  refine wpAny_pure (wpAny_pure ?_)
  refine thn (hst.run pins s1 σ H1 (fun o H4 => o = some (-1) ∧ H4 = H1) I1 ⟨1, rfl, -1, rfl, rfl, rfl⟩) fun vs s4 ⟨o, H4, I4, ps, eo, e4⟩ => ?_
  subst eo e4
  cases ps with
  | int i u =>
    have I5 : Inv X pins σ H4 { s4 with heap := s4.heap.push { cls := .type "slice", data := .fields #[.none, .none, .int (-1) u] } } := I4.kept (t' := s4.toks) fun b ob q => Heap.get?_push_of_some _ q
    refine tail_any (ops := [.ref s4.heap.objs.size, .str z t]) (typeIs_str _ _ _) F.slot_str_getitem.lookup (wpAny_getItem_str_slice (l := none) (u := none) (st := some (-1, u)) ⟨_, Heap.get?_push_size _ rfl, rfl, rfl⟩ rfl (post_val_or_str ⟨?_, fun t' c => ?_⟩)) (by with_unfolding_all rfl)
    · exact Nat.le_trans (Txt.sliceBy_le z none none (-1, u) (by show (-1 : Int) ≠ 0; decide)) hz
    · refine ⟨.str (mkS z.cps.toList.reverse), H4, I5.tok c, ⟨t', ?_⟩, q⟩
      rw [← rev_str z u]
      rfl
/-- either of two readings -/
theorem PE.or {e : Expr} {t u : TE} (h1 : PE X e t) (h2 : PE X e u) : PE X e (fun σ H Q => t σ H Q ∨ u σ H Q) := ⟨fun pins s σ H Q I h => by
  rcases h with h | h
  · exact h1.run pins s σ H Q I h
  · exact h2.run pins s σ H Q I h⟩
theorem PI.or {tg e : Expr} {t u : TI} (h1 : PI X tg e t) (h2 : PI X tg e u) : PI X tg e (fun σ H Q => t σ H Q ∨ u σ H Q) := ⟨fun pins s σ H R I h => by
  rcases h with h | h
  · exact h1.run pins s σ H R I h
  · exact h2.run pins s σ H R I h⟩
theorem PE.imp {e : Expr} {t u : TE} (h : PE X e t) (hi : ∀ σ H Q, u σ H Q → t σ H Q) : PE X e u := ⟨fun pins s σ H Q I hu => h.run pins s σ H Q I (hi σ H Q hu)⟩
theorem PT.imp {e : Expr} {t u : TT} (h : PT X e t) (hi : ∀ σ H Q, u σ H Q → t σ H Q) : PT X e u := ⟨fun pins s σ H Q I hu => h.run pins s σ H Q I (hi σ H Q hu)⟩
theorem PW.imp {e : Expr} {t u : TT} (h : PW X e t) (hi : ∀ σ H Q, u σ H Q → t σ H Q) : PW X e u := ⟨fun wh pins s σ H Q I hu => h.run wh pins s σ H Q I (hi σ H Q hu)⟩
theorem PA.imp {es : List Expr} {t u : TA} (h : PA X es t) (hi : ∀ σ H Q, u σ H Q → t σ H Q) : PA X es u := ⟨fun pos pins s σ H Q I hu => h.run pos pins s σ H Q I (hi σ H Q hu)⟩
theorem PI.imp {tg e : Expr} {t u : TI} (h : PI X tg e t) (hi : ∀ σ H Q, u σ H Q → t σ H Q) : PI X tg e u := ⟨fun pins s σ H Q I hu => h.run pins s σ H Q I (hi σ H Q hu)⟩
theorem PS.imp {e : Stmt} {t u : TS} (h : PS X e t) (hi : ∀ D σ H, u D σ H → t D σ H) : PS X e u := ⟨fun pins s σ H D I hu => h.run pins s σ H D I (hi D σ H hu)⟩
theorem PSs.imp {e : List Stmt} {t u : TS} (h : PSs X e t) (hi : ∀ D σ H, u D σ H → t D σ H) : PSs X e u := ⟨fun pins s σ H D I hu => h.run pins s σ H D I (hi D σ H hu)⟩
theorem PG.imp {e : Expr} {t u : TG} (h : PG X e t) (hi : ∀ v σ H Q, u v σ H Q → t v σ H Q) : PG X e u := ⟨fun pins s σ H v w Q I r hu => h.run pins s σ H v w Q I r (hi v σ H Q hu)⟩
end
end Pd
set_option Elab.async false
set_option linter.all false
set_option maxRecDepth 100000
set_option autoImplicit false
set_option maxHeartbeats 4000000
/-! Built-in functions and methods of texts, by values. -/
namespace Pd
open PySem PyProof.Rows L2 TL
open Evl (Ex ex_l ex_t)

def RVL (K : Fg) (B F H : Hp) : List V → List Rv → Prop
  | [], [] => True
  | v :: vs, r :: rs => RV K B F H v r ∧ RVL K B F H vs rs
  | _, _ => False
theorem RVL.up {K : Fg} {B F H F' H' : Hp} : ∀ {vs : List V} {rs : List Rv}, RVL K B F H vs rs → Gr F H F' H' → RVL K B F' H' vs rs
  | [], [], _, _ => True.intro
  | _ :: _, _ :: _, h, g => ⟨h.1.up g, RVL.up h.2 g⟩
  | [], _ :: _, h, _ => h.elim
  | _ :: _, [], h, _ => h.elim
theorem RVL.old {K : Fg} {B B' F H : Hp} : ∀ {vs : List V} {rs : List Rv}, RVL K B F H vs rs → Ex B' B → RVL K B' F H vs rs
  | [], [], _, _ => True.intro
  | _ :: _, _ :: _, h, g => ⟨h.1.old g, RVL.old h.2 g⟩
  | [], _ :: _, h, _ => h.elim
  | _ :: _, [], h, _ => h.elim
section
variable {K : Fg} {B F H : Hp} {vs : List V} {r q : Rv}
theorem RVL.one (h : RVL K B F H vs [r]) : ∃ v, vs = [v] ∧ RV K B F H v r := by
  match vs, h with
  | [v], h => exact ⟨v, rfl, h.1⟩
theorem RVL.two (h : RVL K B F H vs [r, q]) : ∃ v u, vs = [v, u] ∧ RV K B F H v r ∧ RV K B F H u q := by
  match vs, h with
  | [v, u], h => exact ⟨v, u, rfl, h.1, h.2.1⟩
theorem RVL.none (h : RVL K B F H vs []) : vs = [] := by
  match vs, h with
  | [], h => rfl
end
theorem ints_dv {K : Fg} {F : Hp} : ∀ {vs : List V} {xs : List D} {ns : List Int}, DvL K F vs xs → intsO xs = some ns → vs = ns.map V.int
  | _, _, _, .nil, e => by
    have e' := Option.some.inj e
    subst e'
    rfl
  | _, _, _, .cons (d := d) (ds := ds) a b, e => by
    cases d with
    | int i =>
      cases a
      cases q : intsO ds with
      | none =>
        simp only [intsO, q, Option.map_none] at e
        cases e
      | some ms =>
        simp only [intsO, q, Option.map_some] at e
        have e' := Option.some.inj e
        subst e'
        rw [ints_dv b q]
        rfl
    | _ => exact nomatch e
theorem strs_dv {K : Fg} {F : Hp} : ∀ {vs : List V} {xs : List D} {ns : List (List Nat)}, DvL K F vs xs → strsO xs = some ns → vs = (ns.map mkS).map V.str
  | _, _, _, .nil, e => by
    have e' := Option.some.inj e
    subst e'
    rfl
  | _, _, _, .cons (d := d) (ds := ds) a b, e => by
    cases d with
    | str i =>
      cases a
      cases q : strsO ds with
      | none =>
        simp only [strsO, q, Option.map_none] at e
        cases e
      | some ms =>
        simp only [strsO, q, Option.map_some] at e
        have e' := Option.some.inj e
        subst e'
        rw [strs_dv b q]
        rfl
    | _ => exact nomatch e
theorem bls_dv {K : Fg} {F : Hp} : ∀ {vs : List V} {xs : List D} {ns : List Bool}, DvL K F vs xs → blsO xs = some ns → vs = ns.map V.bl
  | _, _, _, .nil, e => by
    have e' := Option.some.inj e
    subst e'
    rfl
  | _, _, _, .cons (d := d) (ds := ds) a b, e => by
    cases d with
    | bl i =>
      cases a
      cases q : blsO ds with
      | none =>
        simp only [blsO, q, Option.map_none] at e
        cases e
      | some ms =>
        simp only [blsO, q, Option.map_some] at e
        have e' := Option.some.inj e
        subst e'
        rw [bls_dv b q]
        rfl
    | _ => exact nomatch e

/-! ### repr -/
mutual
theorem noDict : ∀ d : D, d.py.hasDict = false
  | .non => rfl
  | .bl _ => rfl
  | .int _ => rfl
  | .str _ => rfl
  | .lst ds => by unfold D.py; exact noDictL ds
  | .tup ds => by unfold D.py; exact noDictL ds
  | .scr ns => by
    unfold D.py
    show PyData.hasDictAll (ns.map .int) = false
    induction ns with
    | nil => rfl
    | cons n ns ih => exact ih
theorem noDictL : ∀ ds : List D, PyData.hasDictAll (D.pyL ds) = false
  | [] => rfl
  | d :: ds => by
    unfold D.pyL
    show (PyData.hasDict d.py || PyData.hasDictAll (D.pyL ds)) = false
    rw [noDict d, noDictL ds]
    rfl
end
def rBlt (K : Fg) (sem : List Rv → Out Rv) : List V → Hp → VK → Prop := fun vs H2 Q => ∃ F H F2 rs E, Gr F H F2 H2 ∧ RVL K H F2 H2 vs rs ∧ (sem rs).wp (Wt K F H Q) E
section
variable {X : Cx}
theorem repr_dp (hg : X.A.guards = some []) (hu : X.A.units + 200 < cLine) {pins : List (Addr × Obj)} {s : Shared} {σ : L2.St} {H : Hp} {v : V} {u : Value} {d : PyData} {Q : VK} (I : Inv X pins σ H s) (ru : RelV v u) (h : Dp X.K H v d)
    (hd : d.hasDict = false) (hs : d.showable = true) (hz : d.shown.length ≤ sizeLine) (hp : d.depth ≤ 40) (q : Q (.str d.shown) H) : wpAny (model X.prog X.w) X.A (call (.builtin "repr") [u]) (EP X pins σ Q) X.xe s := by
  obtain ⟨as, r⟩ := Dp.reads I d v u h ru
  have viaRef : ∀ a : Addr, u = .ref a → wpAny (model X.prog X.w) X.A (call (.builtin "repr") [u]) (EP X pins σ Q) X.xe s := fun a e => by
    subst e
    refine repr_of_reads' r hs (fun z => by rw [hd] at z; cases z) hg (by omega) (fun _ _ e => e) (fun h' t tk k => ?_) hz
    exact ⟨.str d.shown, H, I.kept (t' := tk) k, ⟨_, rfl⟩, q⟩
  cases h with
  | non => cases ru; exact PySem.P.repr_of_none ⟨.str _, H, I.tok _, ⟨_, rfl⟩, q⟩
  | bl b => cases ru; exact PySem.P.repr_of_bool ⟨.str _, H, I.tok _, ⟨_, rfl⟩, q⟩
  | int i =>
    obtain ⟨t, rfl⟩ := ru
    have hs' : decide (i.natAbs.log2 < 1920) = true := hs
    exact PySem.P.repr_of_int (of_decide_eq_true hs') ⟨.str _, H, I.tok _, ⟨_, rfl⟩, q⟩
  | str x =>
    obtain ⟨t, rfl⟩ := ru
    exact PySem.P.repr_of_str ⟨.str _, H, I.tok _, ⟨_, rfl⟩, q⟩ hz
  | lst a b => cases ru; exact viaRef _ rfl
  | tup a b => cases ru; exact viaRef _ rfl
theorem repr_ok (hg : X.A.guards = some []) (hu : X.A.units + 200 < cLine) : CallR X (.builtin "repr") (rBlt X.K bRepr) := by
  intro pins s σ H2 vs us Q I rs h
  obtain ⟨F, H, F2, xs, E, g, hx, h⟩ := h
  match xs, hx, h with
  | [r], hx, h =>
    obtain ⟨v, rfl, hr⟩ := hx.one
    obtain ⟨u, rfl, ru⟩ := vals1 rs
    have h : (doRepr r).wp (Wt X.K F H Q) E := h
    unfold doRepr at h
    split at h
    · rename_i hc
      rw [Bool.and_eq_true, Bool.and_eq_true] at hc
      have hn : r.d.py.hasDict = false := noDict _
      refine repr_dp hg hu I ru (hr.dp g.s) hn hc.1.1 (by rw [lim_eq]; exact of_decide_eq_true hc.2) (of_decide_eq_true hc.1.2) ?_
      have q := Wt.str g h
      exact q
    · exact h.elim
  | [], _, h => exact h.elim
  | _ :: _ :: _, _, h => exact h.elim

/-! ### the others -/
theorem lvsq {r : Rv} {xs : List D} (e : r.lv = some xs) : r.sq = some xs := by
  cases r with
  | v d => cases d <;> first | exact e | cases e
  | own ys => exact e
  | bor ys => exact e
theorem len_ok : CallR X (.builtin "len") (rBlt X.K bLen) := by
  intro pins s σ H2 vs us Q I rs h
  obtain ⟨F, H, F2, xs, E, g, hx, h⟩ := h
  unfold bLen at h
  split at h
  all_goals first
    | exact h.elim
    | skip
  · obtain ⟨v, rfl, hr⟩ := hx.one
    cases hr
    split at h
    · rename_i hl
      refine call_len pins s σ H2 _ us Q I rs ⟨_, _, rfl, ⟨by rw [mkS_len, lim_eq]; exact hl, rfl⟩, ?_⟩
      rw [mkS_len]
      exact Wt.int g h
    · exact h.elim
  · obtain ⟨v, rfl, hr⟩ := hx.one
    split at h
    · rename_i ys e
      obtain ⟨p, ws, rfl, h1, h2⟩ := hr.sq g.s e
      refine call_len_seq pins s σ H2 _ us Q I rs ⟨p, ws, rfl, h1, ?_⟩
      rw [h2.len]
      exact Wt.int g h
    · exact h.elim
theorem int_ok : CallR X (.type "int") (rBlt X.K bInt) := by
  intro pins s σ H2 vs us Q I rs h
  obtain ⟨F, H, F2, xs, E, g, hx, h⟩ := h
  unfold bInt at h
  split at h
  all_goals first
    | exact h.elim
    | skip
  · obtain ⟨v, rfl, hr⟩ := hx.one
    cases hr
    exact call_int1 pins s σ H2 _ us Q I rs (.inl ⟨_, rfl, Wt.int g h⟩)
  · obtain ⟨v, rfl, hr⟩ := hx.one
    cases hr
    exact call_int1 pins s σ H2 _ us Q I rs (.inr ⟨_, rfl, Wt.int g h⟩)
theorem bool_ok : CallR X (.type "bool") (rBlt X.K bBool) := by
  intro pins s σ H2 vs us Q I rs h
  obtain ⟨F, H, F2, xs, E, g, hx, h⟩ := h
  unfold bBool at h
  split at h
  all_goals first
    | exact h.elim
    | skip
  · obtain ⟨v, rfl, hr⟩ := hx.one
    cases hr
    exact call_bool1 pins s σ H2 _ us Q I rs (.inl ⟨_, rfl, Wt.bl g h⟩)
  · obtain ⟨v, rfl, hr⟩ := hx.one
    cases hr
    exact call_bool1 pins s σ H2 _ us Q I rs (.inr ⟨_, rfl, Wt.bl g h⟩)
theorem tuple_ok : CallR X (.type "tuple") (rBlt X.K bTuple) := by
  intro pins s σ H2 vs us Q I rs h
  obtain ⟨F, H, F2, xs, E, g, hx, h⟩ := h
  unfold bTuple at h
  split at h
  all_goals first
    | exact h.elim
    | skip
  · obtain ⟨v, rfl, hr⟩ := hx.one
    have hr' := hr
    cases hr with
    | tup a b => exact call_tuple_of pins s σ H2 _ us Q I rs ⟨_, _, rfl, .inr ⟨ex_t g.s a, Wt.val g hr' h⟩⟩
  · obtain ⟨v, rfl, hr⟩ := hx.one
    split at h
    · rename_i ys e
      obtain ⟨p, ws, rfl, h1, h2⟩ := hr.lst g.s e
      exact call_tuple_of pins s σ H2 _ us Q I rs ⟨p, ws, rfl, .inl ⟨SqL.of h1, Wt.newT g h2 h⟩⟩
    · exact h.elim
theorem list_ok : CallR X (.type "list") (rBlt X.K bList) := by
  intro pins s σ H2 vs us Q I rs h
  obtain ⟨F, H, F2, xs, E, g, hx, h⟩ := h
  unfold bList at h
  split at h
  all_goals first
    | exact h.elim
    | skip
  · obtain ⟨v, rfl, hr⟩ := hx.one
    cases hr with
    | tup a b => exact call_list_of pins s σ H2 _ us Q I rs ⟨_, _, rfl, .inr (ex_t g.s a), Wt.new g b h⟩
  · obtain ⟨v, rfl, hr⟩ := hx.one
    obtain ⟨p, ws, rfl, h1, h2⟩ := hr.sq g.s rfl
    exact call_list_of pins s σ H2 _ us Q I rs ⟨p, ws, rfl, h1, Wt.new g h2 h⟩
  · obtain ⟨v, rfl, hr⟩ := hx.one
    split at h
    · rename_i ys e
      obtain ⟨p, ws, rfl, h1, h2⟩ := hr.lst g.s e
      exact call_list_of pins s σ H2 _ us Q I rs ⟨p, ws, rfl, .inl (SqL.of h1), Wt.new g h2 h⟩
    · exact h.elim
theorem lv_ints {K : Fg} {B F H : Hp} {v : V} {r : Rv} {ns : List Int} (hr : RV K B F H v r) (s : Ex F H) (e : r.lv.bind intsO = some ns) : ∃ p, v = .ref p ∧ SqL K H p (ns.map V.int) := by
  cases q : r.lv with
  | none => rw [q] at e; cases e
  | some xs =>
    rw [q] at e
    obtain ⟨p, ws, rfl, h1, h2⟩ := hr.lst s q
    have e2 := ints_dv h2 e
    subst e2
    exact ⟨p, rfl, SqL.of h1⟩
theorem lv_bls {K : Fg} {B F H : Hp} {v : V} {r : Rv} {ns : List Bool} (hr : RV K B F H v r) (s : Ex F H) (e : r.lv.bind blsO = some ns) : ∃ p, v = .ref p ∧ SqL K H p (ns.map V.bl) := by
  cases q : r.lv with
  | none => rw [q] at e; cases e
  | some xs =>
    rw [q] at e
    obtain ⟨p, ws, rfl, h1, h2⟩ := hr.lst s q
    have e2 := bls_dv h2 e
    subst e2
    exact ⟨p, rfl, SqL.of h1⟩
theorem sum_ok (hc : X.calm = true) : CallR X (.builtin "sum") (rBlt X.K bSum) := by
  intro pins s σ H2 vs us Q I rs h
  obtain ⟨F, H, F2, xs, E, g, hx, h⟩ := h
  unfold bSum at h
  split at h
  all_goals first
    | exact h.elim
    | skip
  · obtain ⟨v, rfl, hr⟩ := hx.one
    split at h
    · rename_i ys e
      obtain ⟨p, rfl, h1⟩ := lv_ints hr g.s e
      exact cr_sum hc pins s σ H2 _ us Q I rs ⟨p, _, rfl, h1, Wt.int g h⟩
    · exact h.elim
theorem abs_ok : CallR X (.builtin "abs") (rBlt X.K bAbs) := by
  intro pins s σ H2 vs us Q I rs h
  obtain ⟨F, H, F2, xs, E, g, hx, h⟩ := h
  unfold bAbs at h
  split at h
  all_goals first
    | exact h.elim
    | skip
  · obtain ⟨v, rfl, hr⟩ := hx.one
    cases hr
    exact call_abs pins s σ H2 _ us Q I rs ⟨_, rfl, Wt.int g h⟩
theorem maxL_ge : ∀ (l : List Int) (m : Int), m ≤ maxL m l ∧ (∀ y ∈ l, y ≤ maxL m l) ∧ (maxL m l = m ∨ maxL m l ∈ l)
  | [], m => ⟨Int.le_refl _, (fun _ h => nomatch h), .inl rfl⟩
  | x :: r, m => by
    have hz : m ≤ (if m < x then x else m) ∧ x ≤ (if m < x then x else m) ∧ ((if m < x then x else m) = m ∨ (if m < x then x else m) = x) := by
      by_cases c : m < x
      · rw [if_pos c]; exact ⟨by omega, by omega, .inr rfl⟩
      · rw [if_neg c]; exact ⟨by omega, by omega, .inl rfl⟩
    show m ≤ maxL (if m < x then x else m) r ∧ (∀ y ∈ x :: r, y ≤ maxL (if m < x then x else m) r) ∧ (maxL (if m < x then x else m) r = m ∨ maxL (if m < x then x else m) r ∈ x :: r)
    generalize (if m < x then x else m) = z at hz ⊢
    obtain ⟨z1, z2, z3⟩ := hz
    obtain ⟨h1, h2, h3⟩ := maxL_ge r z
    refine ⟨by omega, fun y hy => ?_, ?_⟩
    · rcases List.mem_cons.mp hy with rfl | hy
      · omega
      · exact h2 y hy
    · rcases h3 with h3 | h3
      · rw [h3]
        rcases z3 with z3 | z3
        · exact .inl z3
        · exact .inr (by rw [z3]; exact List.mem_cons_self ..)
      · exact .inr (List.mem_cons_of_mem _ h3)
theorem minL_le : ∀ (l : List Int) (m : Int), minL m l ≤ m ∧ (∀ y ∈ l, minL m l ≤ y) ∧ (minL m l = m ∨ minL m l ∈ l)
  | [], m => ⟨Int.le_refl _, (fun _ h => nomatch h), .inl rfl⟩
  | x :: r, m => by
    have hz : (if x < m then x else m) ≤ m ∧ (if x < m then x else m) ≤ x ∧ ((if x < m then x else m) = m ∨ (if x < m then x else m) = x) := by
      by_cases c : x < m
      · rw [if_pos c]; exact ⟨by omega, by omega, .inr rfl⟩
      · rw [if_neg c]; exact ⟨by omega, by omega, .inl rfl⟩
    show minL (if x < m then x else m) r ≤ m ∧ (∀ y ∈ x :: r, minL (if x < m then x else m) r ≤ y) ∧ (minL (if x < m then x else m) r = m ∨ minL (if x < m then x else m) r ∈ x :: r)
    generalize (if x < m then x else m) = z at hz ⊢
    obtain ⟨z1, z2, z3⟩ := hz
    obtain ⟨h1, h2, h3⟩ := minL_le r z
    refine ⟨by omega, fun y hy => ?_, ?_⟩
    · rcases List.mem_cons.mp hy with rfl | hy
      · omega
      · exact h2 y hy
    · rcases h3 with h3 | h3
      · rw [h3]
        rcases z3 with z3 | z3
        · exact .inl z3
        · exact .inr (by rw [z3]; exact List.mem_cons_self ..)
      · exact .inr (List.mem_cons_of_mem _ h3)
theorem max_ok (hc : X.calm = true) : CallR X (.builtin "max") (rBlt X.K bMax) := by
  intro pins s σ H2 vs us Q I rs h
  obtain ⟨F, H, F2, xs, E, g, hx, h⟩ := h
  unfold bMax at h
  split at h
  all_goals first
    | exact h.elim
    | skip
  · obtain ⟨v, u, rfl, hr, hq⟩ := hx.two
    cases hr; cases hq
    exact call_max2 hc pins s σ H2 _ us Q I rs ⟨_, _, rfl, Wt.int g h⟩
  · obtain ⟨v, rfl, hr⟩ := hx.one
    split at h
    · rename_i n ns e
      obtain ⟨p, rfl, h1⟩ := lv_ints hr g.s e
      refine cr_max hc pins s σ H2 _ us Q I rs ⟨p, _, rfl, h1, by simp, fun m hm hge => ?_⟩
      obtain ⟨a1, a2, a3⟩ := maxL_ge ns n
      have hmem : maxL n ns ∈ n :: ns := by
        rcases a3 with a3 | a3
        · rw [a3]; exact List.mem_cons_self ..
        · exact List.mem_cons_of_mem _ a3
      have b1 := hge _ hmem
      have b2 : m ≤ maxL n ns := by
        rcases List.mem_cons.mp hm with rfl | hm
        · exact a1
        · exact a2 m hm
      have e3 : m = maxL n ns := by omega
      rw [e3]
      exact Wt.int g h
    · exact h.elim
theorem min_ok (hc : X.calm = true) : CallR X (.builtin "min") (rBlt X.K bMin) := by
  intro pins s σ H2 vs us Q I rs h
  obtain ⟨F, H, F2, xs, E, g, hx, h⟩ := h
  unfold bMin at h
  split at h
  all_goals first
    | exact h.elim
    | skip
  · obtain ⟨v, u, rfl, hr, hq⟩ := hx.two
    cases hr; cases hq
    exact call_min2 hc pins s σ H2 _ us Q I rs ⟨_, _, rfl, Wt.int g h⟩
  · obtain ⟨v, rfl, hr⟩ := hx.one
    split at h
    · rename_i n ns e
      obtain ⟨p, rfl, h1⟩ := lv_ints hr g.s e
      refine cr_min hc pins s σ H2 _ us Q I rs ⟨p, _, rfl, h1, by simp, fun m hm hge => ?_⟩
      obtain ⟨a1, a2, a3⟩ := minL_le ns n
      have hmem : minL n ns ∈ n :: ns := by
        rcases a3 with a3 | a3
        · rw [a3]; exact List.mem_cons_self ..
        · exact List.mem_cons_of_mem _ a3
      have b1 := hge _ hmem
      have b2 : minL n ns ≤ m := by
        rcases List.mem_cons.mp hm with rfl | hm
        · exact a1
        · exact a2 m hm
      have e3 : m = minL n ns := by omega
      rw [e3]
      exact Wt.int g h
    · exact h.elim
theorem str_ok : CallR X (.type "str") (rBlt X.K bStr) := by
  intro pins s σ H2 vs us Q I rs h
  obtain ⟨F, H, F2, xs, E, g, hx, h⟩ := h
  unfold bStr at h
  split at h
  all_goals first
    | exact h.elim
    | skip
  · obtain ⟨v, rfl, hr⟩ := hx.one
    cases hr
    split at h
    · rename_i hl
      exact call_str_int pins s σ H2 _ us Q I rs ⟨_, rfl, hl, Wt.str g h⟩
    · exact h.elim
theorem any_ok (hc : X.calm = true) : CallR X (.builtin "any") (rBlt X.K bAny) := by
  intro pins s σ H2 vs us Q I rs h
  obtain ⟨F, H, F2, xs, E, g, hx, h⟩ := h
  unfold bAny at h
  split at h
  all_goals first
    | exact h.elim
    | skip
  · obtain ⟨v, rfl, hr⟩ := hx.one
    split at h
    · rename_i ys e
      obtain ⟨p, rfl, h1⟩ := lv_bls hr g.s e
      exact cr_any hc pins s σ H2 _ us Q I rs ⟨p, _, rfl, h1, Wt.bl g h⟩
    · exact h.elim
theorem all_ok (hc : X.calm = true) : CallR X (.builtin "all") (rBlt X.K bAll) := by
  intro pins s σ H2 vs us Q I rs h
  obtain ⟨F, H, F2, xs, E, g, hx, h⟩ := h
  unfold bAll at h
  split at h
  all_goals first
    | exact h.elim
    | skip
  · obtain ⟨v, rfl, hr⟩ := hx.one
    split at h
    · rename_i ys e
      obtain ⟨p, rfl, h1⟩ := lv_bls hr g.s e
      exact cr_all hc pins s σ H2 _ us Q I rs ⟨p, _, rfl, h1, Wt.bl g h⟩
    · exact h.elim
def bltV : Blt → Value
  | .len => .builtin "len" | .int => .type "int" | .tuple => .type "tuple" | .list => .type "list" | .repr => .builtin "repr" | .sum => .builtin "sum" | .abs => .builtin "abs"
  | .min => .builtin "min" | .max => .builtin "max" | .str => .type "str" | .sorted => .builtin "sorted" | .any => .builtin "any" | .all => .builtin "all" | .bool => .type "bool"
theorem sorted_ok : CallR X (.builtin "sorted") (rBlt X.K fun _ => .stk) := by
  intro pins s σ H2 vs us Q I rs h
  obtain ⟨F, H, F2, xs, E, g, hx, h⟩ := h
  exact h.elim
def needC : Blt → Bool
  | .sum => true | .min => true | .max => true | .any => true | .all => true | _ => false
theorem blt_ok (b : Blt) (hc : needC b = true → X.calm = true) (hg : X.A.guards = some []) (hu : X.A.units + 200 < cLine) : CallR X (bltV b) (rBlt X.K (doBlt b)) := by
  cases b
  · exact len_ok
  · exact int_ok
  · exact tuple_ok
  · exact list_ok
  · exact repr_ok hg hu
  · exact sum_ok (hc rfl)
  · exact abs_ok
  · exact min_ok (hc rfl)
  · exact max_ok (hc rfl)
  · exact str_ok
  · exact sorted_ok
  · exact any_ok (hc rfl)
  · exact all_ok (hc rfl)
  · exact bool_ok
end
end Pd
set_option Elab.async false
set_option linter.all false
set_option maxRecDepth 100000
set_option autoImplicit false
set_option maxHeartbeats 4000000
/-! One sign in a text: how often, where first. -/
namespace Pd
open PySem Builtin.Str StrLaws
theorem occ_yes {x : Str} {c i hi limit : Nat} {st : Array Nat × Nat} (hh : hi = x.length) (h1 : st.1.size < limit) (h2 : st.2 ≤ i) (h3 : x.cps.toList[i]? = some c) : occBody x ⟨#[c]⟩ hi limit i st = pure (ForInStep.yield (st.1.push i, i + 1)) := by
  subst hh
  have h := (subAt_one x c i).mpr h3
  unfold occBody
  rw [if_pos ⟨⟨⟨h1, h2⟩, h.1⟩, h.2⟩]
  rfl
theorem occ_no {x : Str} {c i hi limit : Nat} {st : Array Nat × Nat} (hh : hi = x.length) (h : ¬ st.1.size < limit ∨ x.cps.toList[i]? ≠ some c) : occBody x ⟨#[c]⟩ hi limit i st = pure (ForInStep.yield (st.1, st.2)) := by
  subst hh
  unfold occBody
  rw [if_neg]
  intro z
  rcases h with h | h
  · exact h z.1.1.1
  · exact h ((subAt_one x c i).mp ⟨z.1.2, z.2⟩)
theorem occ_full {x : Str} {c limit : Nat} : ∀ (l : List Nat) (st : Array Nat × Nat), ¬ st.1.size < limit → (forIn l st (occBody x ⟨#[c]⟩ x.length limit)).run = st
  | [], st, _ => rfl
  | a :: l, st, h => by
    rw [List.forIn_cons, occ_no rfl (.inl h)]
    exact occ_full l st h
theorem occ_size {x : Str} {c : Nat} : ∀ (k i : Nat) (st : Array Nat × Nat), st.2 ≤ i → st.1.size ≤ i → i + k = x.length + 1 → (forIn (List.range' i k) st (occBody x ⟨#[c]⟩ x.length (x.length + 1))).run.1.size = st.1.size + (x.cps.toList.drop i).count c
  | 0, i, st, _, _, hk => by
    rw [List.drop_of_length_le (by rw [Array.length_toList]; show x.length ≤ i; omega)]
    rfl
  | k + 1, i, st, h1, h2, hk => by
    rw [List.range'_succ, List.forIn_cons]
    by_cases hc : x.cps.toList[i]? = some c
    · rw [occ_yes rfl (by omega) h1 hc]
      have ih := occ_size (x := x) (c := c) k (i + 1) (st.1.push i, i + 1) (Nat.le_refl _) (by rw [Array.size_push]; omega) (by omega)
      have hl := (List.getElem?_eq_some_iff.mp hc).1
      have e : x.cps.toList.drop i = c :: x.cps.toList.drop (i + 1) := by
        rw [← List.getElem_cons_drop hl, (List.getElem?_eq_some_iff.mp hc).2]
      rw [e, List.count_cons_self]
      have ih' : (forIn (List.range' (i + 1) k) (st.1.push i, i + 1) (occBody x ⟨#[c]⟩ x.length (x.length + 1))).run.1.size = (st.1.push i).size + (x.cps.toList.drop (i + 1)).count c := ih
      rw [Array.size_push] at ih'
      show (forIn (List.range' (i + 1) k) (st.1.push i, i + 1) (occBody x ⟨#[c]⟩ x.length (x.length + 1))).run.1.size = _
      rw [ih']
      omega
    · rw [occ_no rfl (.inr hc)]
      have ih := occ_size (x := x) (c := c) k (i + 1) st (by omega) (by omega) (by omega)
      have e : (x.cps.toList.drop i).count c = (x.cps.toList.drop (i + 1)).count c := by
        by_cases hl : i < x.cps.toList.length
        · rw [← List.getElem_cons_drop hl, List.count_cons_of_ne]
          intro z
          exact hc (by rw [List.getElem?_eq_getElem hl, z])
        · rw [List.drop_of_length_le (by omega), List.drop_of_length_le (by omega)]
      rw [e]
      exact ih
theorem occ_first {x : Str} {c : Nat} : ∀ (k i j free : Nat), free ≤ i → i + k = x.length + 1 → i ≤ j → x.cps.toList[j]? = some c → (∀ m, i ≤ m → m < j → x.cps.toList[m]? ≠ some c) → (forIn (List.range' i k) ((#[] : Array Nat), free) (occBody x ⟨#[c]⟩ x.length 1)).run.1 = #[j]
  | 0, i, j, free, _, hk, hj, hc, _ => by
    have hl := (List.getElem?_eq_some_iff.mp hc).1
    rw [Array.length_toList] at hl
    have hl : j < x.length := hl
    omega
  | k + 1, i, j, free, h1, hk, hj, hc, hno => by
    rw [List.range'_succ, List.forIn_cons]
    by_cases e : i = j
    · subst e
      rw [occ_yes rfl (by simp) h1 hc]
      show (forIn (List.range' (i + 1) k) (#[].push i, i + 1) (occBody x ⟨#[c]⟩ x.length 1)).run.1 = _
      rw [occ_full _ _ (by simp)]
      rfl
    · rw [occ_no rfl (.inr (hno i (Nat.le_refl _) (by omega)))]
      exact occ_first k (i + 1) j free (by omega) (by omega) (by omega) hc fun m h2 h3 => hno m (by omega) h3
theorem count_one (l : List Nat) (c : Nat) : Txt.count ⟨l.toArray⟩ ⟨#[c]⟩ = ((l.count c : Nat) : Int) := by
  have e : Txt.count ⟨l.toArray⟩ ⟨#[c]⟩ = ((occurrences ⟨l.toArray⟩ ⟨#[c]⟩ 0 (⟨l.toArray⟩ : Str).length ((⟨l.toArray⟩ : Str).length + 1)).length : Int) := rfl
  rw [e, occ_eq]
  have h := occ_size (x := ⟨l.toArray⟩) (c := c) ((⟨l.toArray⟩ : Str).length + 1) 0 (#[], 0) (Nat.le_refl _) (Nat.le_refl _) (by omega)
  rw [Array.length_toList, Nat.sub_zero, h]
  simp
theorem index_one {l : List Nat} {c j : Nat} (h : l[j]? = some c) (hn : ∀ m, m < j → l[m]? ≠ some c) : occurrences ⟨l.toArray⟩ ⟨#[c]⟩ 0 (⟨l.toArray⟩ : Str).length 1 = [j] := by
  rw [occ_eq]
  have := occ_first (x := ⟨l.toArray⟩) (c := c) ((⟨l.toArray⟩ : Str).length + 1) 0 j 0 (Nat.le_refl _) (by omega) (Nat.zero_le _) (by simpa using h) fun m _ hm => by simpa using hn m hm
  rw [Nat.sub_zero, this]
theorem idx_first {c : Nat} : ∀ {l : List Nat}, c ∈ l → l[l.idxOf c]? = some c ∧ ∀ m, m < l.idxOf c → l[m]? ≠ some c
  | [], h => by cases h
  | a :: l, h => by
    by_cases e : a = c
    · subst e
      rw [List.idxOf_cons_self]
      exact ⟨rfl, fun m hm => by omega⟩
    · have hm : c ∈ l := (List.mem_cons.mp h).resolve_left fun z => e z.symm
      have ei : (a :: l).idxOf c = l.idxOf c + 1 := by
        have eb : (a == c) = false := by simpa using e
        rw [List.idxOf_cons, eb]
        rfl
      rw [ei]
      obtain ⟨h1, h2⟩ := idx_first hm
      refine ⟨by simpa using h1, fun m hm => ?_⟩
      cases m with
      | zero => simpa using e
      | succ m => simpa using h2 m (by omega)
end Pd
set_option Elab.async false
set_option linter.all false
set_option maxRecDepth 100000
set_option autoImplicit false
set_option maxHeartbeats 4000000
/-! zip of two sequences, each a list or a tuple. -/
namespace Pd
open PySem PyProof.Rows L2 TL RZ
open Evl (Ex ex_l ex_t)

/-- b: a list; else a tuple -/
def AtK (b : Bool) (h : Heap) (it l : Addr) (i : Nat) : Prop :=
  match b with
  | true => h.IsListIter it l i
  | false => h.IsTupleIter it l i
def SqK (b : Bool) (h : Heap) (l : Addr) (xs : Array Value) : Prop :=
  match b with
  | true => h.IsList l xs
  | false => h.IsTuple l xs
theorem AtK.ext {b : Bool} {h g : Heap} {it l c : Addr} {i : Nat} (a : AtK b h it l i) (e : Heap.ExtBut c h g) (n : it ≠ c) : AtK b g it l i := by
  cases b
  · exact Heap.IsTupleIter.extBut a e n
  · exact Heap.IsListIter.extBut a e n
theorem AtK.get {b : Bool} {h g : Heap} {it l : Addr} {i : Nat} (a : AtK b h it l i) (f : ∀ o, h.get? it = some o → g.get? it = some o) : AtK b g it l i := by
  cases b
  · obtain ⟨o, e, r⟩ := a
    exact ⟨o, f o e, r⟩
  · obtain ⟨o, e, r⟩ := a
    exact ⟨o, f o e, r⟩
theorem AtK.has {b : Bool} {h : Heap} {it l : Addr} {i : Nat} (a : AtK b h it l i) : ∃ o, h.get? it = some o ∧ ∃ fs, o.data = .fields fs := by
  cases b
  · obtain ⟨o, e, _, d⟩ := a
    exact ⟨o, e, _, d⟩
  · obtain ⟨o, e, _, d⟩ := a
    exact ⟨o, e, _, d⟩
theorem SqK.ext {b : Bool} {h g : Heap} {l c : Addr} {xs : Array Value} (a : SqK b h l xs) (e : Heap.ExtBut c h g) (n : l ≠ c) : SqK b g l xs := by
  cases b
  · exact Heap.IsTuple.extBut a e n
  · exact Heap.IsList.extBut a e n
section
variable {prog : Program} {w : World} {A : Around} {E : Value → Shared → Prop} {s : Shared}
theorem nxt_item {b : Bool} {it l : Addr} {i : Nat} {xs : Array Value} {x : Value} {Q : Value → Shared → Prop} (a : AtK b s.heap it l i) (q : SqK b s.heap l xs) (hx : xs[i]? = some x)
    (hQ : ∀ g, AtK b g it l (i + 1) → Heap.SameBut it s.heap g → Q x { s with heap := g }) : wpAny (model prog w) A (Builtin.SmallTypes.nextOf (.ref it)) Q E s := by
  cases b
  · exact nextOf_tuple_item a q hx hQ
  · exact wpAny_nextOf_list_item a q hx hQ
def Stops (h : Heap) (e : Addr) : Prop := ∃ o, h.get? e = some o ∧ o.cls = .type "StopIteration"
theorem nxt_end {b : Bool} {it l : Addr} {i : Nat} {xs : Array Value} {Q : Value → Shared → Prop} (hh : A.handled = none) (a : AtK b s.heap it l i) (q : SqK b s.heap l xs) (hx : xs[i]? = none)
    (hE : ∀ g e, Heap.ExtBut it s.heap g → Stops g e → E (.ref e) { s with heap := g }) : wpAny (model prog w) A (Builtin.SmallTypes.nextOf (.ref it)) Q E s := by
  cases b
  · exact nextOf_tuple_end hh a q hx hE
  · exact wpAny_nextOf_list_end hh a q hx hE
/-- what zip changes alone -/
def Rest (z o2 i j : Addr) (h g : Heap) : Prop := ∀ c o, c ≠ z → c ≠ o2 → c ≠ i → c ≠ j → h.get? c = some o → g.get? c = some o
section
variable {z TI TO i j l k : Addr} {m n : Nat} {xs ys : Array Value} {x y u v : Value} {b c : Bool}
theorem zipK_item {Q : Value → Shared → Prop} (D : ZipApart z TI TO i j l k) (fz : IsZip s.heap z TI TO .none)
    (fI : IsPair s.heap TI (.ref i) (.ref j)) (fO : IsPair s.heap TO u v) (a : AtK b s.heap i l m) (d : AtK c s.heap j k n)
    (p : SqK b s.heap l xs) (q : SqK c s.heap k ys) (hx : xs[m]? = some x) (hy : ys[n]? = some y)
    (hQ : ∀ g, IsZip g z TI TO (rawInt s.heap.objs.size) → IsPair g TO x y → AtK b g i l (m + 1) → AtK c g j k (n + 1) →
      IsPair g s.heap.objs.size x y → g.objs.size = s.heap.objs.size + 1 → Rest z TO i j s.heap g → Q (.ref s.heap.objs.size) { s with heap := g }) :
    wpAny (model prog w) A (Builtin.«zip.__next__» ⟨[.ref z], []⟩) (fun fin t => ∃ r, fin = .done (.ret r) ∧ Q r t) E s := by
  show wpAny _ A (field (.ref z) 2 >>= _) _ E s
  refine wpAny_bind (wpAny_field fz rfl (x := .bool false) rfl ?_)
  show wpAny _ A (field (.ref z) 3 >>= _) _ E s
  refine wpAny_bind (wpAny_field fz rfl (x := .ref TI) rfl ?_)
  refine wpAny_bind (wpAny_seqItems fI rfl ?_)
  show wpAny _ A (Builtin.SmallTypes.ownedTupleIsFree (.ref z) >>= _) _ E s
  refine wpAny_bind ?_
  unfold Builtin.SmallTypes.ownedTupleIsFree
  refine wpAny_bind (wpAny_field fz rfl (x := .none) rfl (wpAny_pure ?_))
  simp only [if_true]
  refine wpAny_bind (wpAny_rule ?_)
  refine wpAny_bind (wpAny_field fz rfl (x := .ref TO) rfl ?_)
  refine wpAny_bind (wpAny_setField_rec fz (by simp) fun g1 fz1 s1 => ?_)
  replace fz1 : IsZip g1 z TI TO .ellipsis := fz1
  have e1 := s1.extBut
  refine wpAny_bind ?_
  simp only [List.zipIdx_cons, List.zipIdx_nil, List.forIn_cons, List.forIn_nil]
  refine wpAny_bind (wpAny_bind (wpAny_onRaise ?_))
  show wpAny _ A (Builtin.SmallTypes.nextOf (.ref i) >>= _) _ _ _
  refine wpAny_bind (nxt_item (a.ext e1 D.i1z) (p.ext e1 D.l1z) hx fun g2 a2 s2 => wpAny_pure ?_)
  have e2 := s2.extBut
  have fO2 : IsPair g2 TO u v := e2 _ _ D.TOi1 (e1 _ _ D.TOz fO)
  refine wpAny_bind (wpAny_seqItems fO2 rfl ?_)
  refine wpAny_bind (wpAny_updateSeq_pair fO2 fun g3 fO3 s3 => ?_)
  replace fO3 : IsPair g3 TO x v := fO3
  have e3 := s3.extBut
  refine wpAny_bind (wpAny_letGo (wpAny_pure ?_))
  refine wpAny_bind (wpAny_bind (wpAny_onRaise ?_))
  show wpAny _ A (Builtin.SmallTypes.nextOf (.ref j) >>= _) _ _ _
  have d3 := ((d.ext e1 D.i2z).ext e2 D.i12.symm).ext e3 D.TOi2.symm
  have q3 := ((q.ext e1 D.l2z).ext e2 D.l2i1).ext e3 D.l2TO
  refine wpAny_bind (nxt_item d3 q3 hy fun g4 d4 s4 => wpAny_pure ?_)
  have e4 := s4.extBut
  have fO4 : IsPair g4 TO x v := e4 _ _ D.TOi2 fO3
  refine wpAny_bind (wpAny_seqItems fO4 rfl ?_)
  refine wpAny_bind (wpAny_updateSeq_pair fO4 fun g5 fO5 s5 => ?_)
  replace fO5 : IsPair g5 TO x y := fO5
  have e5 := s5.extBut
  refine wpAny_bind (wpAny_letGo (wpAny_pure (wpAny_pure ?_)))
  refine wpAny_bind (wpAny_seqItems fO5 rfl ?_)
  refine wpAny_bind (wpAny_newTuple ?_)
  have sz : g5.objs.size = s.heap.objs.size := by rw [s5.1, s4.1, s3.1, s2.1, s1.1]
  have fz5 : IsZip g5 z TI TO .ellipsis := e5 _ _ D.TOz.symm (e4 _ _ D.i2z.symm (e3 _ _ D.TOz.symm (e2 _ _ D.i1z.symm fz1)))
  have r5 : Rest z TO i j s.heap g5 := fun c o n1 n2 n3 n4 e => e5 _ _ n2 (e4 _ _ n4 (e3 _ _ n2 (e2 _ _ n3 (e1 _ _ n1 e))))
  have a5 : AtK b g5 i l (m + 1) := ((a2.ext e3 D.TOi1.symm).ext e4 D.i12).ext e5 D.TOi1.symm
  have d5 : AtK c g5 j k (n + 1) := d4.ext e5 D.TOi2.symm
  have lt : z < g5.objs.size := Heap.lt_size fz5
  show wpAny _ A (Builtin.SmallTypes.ownedTupleHandOut (.ref z) (.ref g5.objs.size) >>= _) _ E _
  refine wpAny_bind ?_
  unfold Builtin.SmallTypes.ownedTupleHandOut
  have fz6 : IsZip (g5.push ⟨.type "tuple", none, .seq #[x, y], #[]⟩) z TI TO .ellipsis := Heap.get?_push_of_some _ fz5
  refine wpAny_bind (wpAny_setField_rec fz6 (by simp) fun g7 fz7 s7 => ?_)
  replace fz7 : IsZip g7 z TI TO (rawInt g5.objs.size) := fz7
  refine wpAny_setField_rec fz7 (by simp) fun g8 fz8 s8 => ?_
  replace fz8 : IsZip g8 z TI TO (rawInt g5.objs.size) := fz8
  have up : ∀ c o, c ≠ z → g5.get? c = some o → g8.get? c = some o := fun c o n1 e => s8.extBut _ _ n1 (s7.extBut _ _ n1 (Heap.get?_push_of_some _ e))
  have nw : IsPair g8 g5.objs.size x y := s8.extBut _ _ (Nat.ne_of_gt lt) (s7.extBut _ _ (Nat.ne_of_gt lt) (Heap.get?_push_size _ rfl))
  have sz8 : g8.objs.size = g5.objs.size + 1 := by rw [s8.1, s7.1, Heap.size_push]
  rw [sz] at fz8 nw sz8
  refine wpAny_pure ⟨_, rfl, ?_⟩
  show Q (.ref g5.objs.size) _
  rw [sz]
  exact hQ g8 fz8 (up _ _ D.TOz fO5) (a5.get fun o e => up _ o D.i1z e) (d5.get fun o e => up _ o D.i2z e) nw sz8 fun c o n1 n2 n3 n4 e => up c o n1 (r5 c o n1 n2 n3 n4 e)
theorem zipK_end {Q : Fin → Shared → Prop} (hh : A.handled = none) (D : ZipApart z TI TO i j l k) (fz : IsZip s.heap z TI TO .none)
    (fI : IsPair s.heap TI (.ref i) (.ref j)) (fO : IsPair s.heap TO u v) (a : AtK b s.heap i l m) (d : AtK c s.heap j k n)
    (p : SqK b s.heap l xs) (q : SqK c s.heap k ys) (he : xs[m]? = none ∨ ys[n]? = none)
    (hE : ∀ g e, Rest z TO i j s.heap g → Stops g e → E (.ref e) { s with heap := g }) : wpAny (model prog w) A (Builtin.«zip.__next__» ⟨[.ref z], []⟩) Q E s := by
  show wpAny _ A (field (.ref z) 2 >>= _) _ E s
  refine wpAny_bind (wpAny_field fz rfl (x := .bool false) rfl ?_)
  show wpAny _ A (field (.ref z) 3 >>= _) _ E s
  refine wpAny_bind (wpAny_field fz rfl (x := .ref TI) rfl ?_)
  refine wpAny_bind (wpAny_seqItems fI rfl ?_)
  show wpAny _ A (Builtin.SmallTypes.ownedTupleIsFree (.ref z) >>= _) _ E s
  refine wpAny_bind ?_
  unfold Builtin.SmallTypes.ownedTupleIsFree
  refine wpAny_bind (wpAny_field fz rfl (x := .none) rfl (wpAny_pure ?_))
  simp only [if_true]
  refine wpAny_bind (wpAny_rule ?_)
  refine wpAny_bind (wpAny_field fz rfl (x := .ref TO) rfl ?_)
  refine wpAny_bind (wpAny_setField_rec fz (by simp) fun g1 fz1 s1 => ?_)
  replace fz1 : IsZip g1 z TI TO .ellipsis := fz1
  have e1 := s1.extBut
  refine wpAny_bind ?_
  simp only [List.zipIdx_cons, List.zipIdx_nil, List.forIn_cons, List.forIn_nil]
  refine wpAny_bind (wpAny_bind (wpAny_onRaise ?_))
  show wpAny _ A (Builtin.SmallTypes.nextOf (.ref i) >>= _) _ _ _
  cases hx : xs[m]? with
  | none =>
    refine wpAny_bind (nxt_end hh (a.ext e1 D.i1z) (p.ext e1 D.l1z) hx fun g2 e e2 st => ?_)
    obtain ⟨oe, st, ce⟩ := st
    have fz2 : IsZip g2 z TI TO .ellipsis := e2 _ _ D.i1z.symm fz1
    have ez : e ≠ z := by
      rintro rfl
      rw [fz2] at st
      cases st
      simp at ce
    refine wpAny_setField_rec fz2 (by simp) fun g3 _ s3 => hE g3 e ?_ ⟨oe, s3.extBut _ _ ez st, ce⟩
    exact fun c o n1 _ n3 _ h => s3.extBut _ _ n1 (e2 _ _ n3 (e1 _ _ n1 h))
  | some x =>
    have hy : ys[n]? = none := he.resolve_left (by rw [hx]; exact Option.some_ne_none x)
    refine wpAny_bind (nxt_item (a.ext e1 D.i1z) (p.ext e1 D.l1z) hx fun g2 a2 s2 => wpAny_pure ?_)
    have e2 := s2.extBut
    have fO2 : IsPair g2 TO u v := e2 _ _ D.TOi1 (e1 _ _ D.TOz fO)
    refine wpAny_bind (wpAny_seqItems fO2 rfl ?_)
    refine wpAny_bind (wpAny_updateSeq_pair fO2 fun g3 fO3 s3 => ?_)
    have e3 := s3.extBut
    refine wpAny_bind (wpAny_letGo (wpAny_pure ?_))
    refine wpAny_bind (wpAny_bind (wpAny_onRaise ?_))
    show wpAny _ A (Builtin.SmallTypes.nextOf (.ref j) >>= _) _ _ _
    have d3 := ((d.ext e1 D.i2z).ext e2 D.i12.symm).ext e3 D.TOi2.symm
    have q3 := ((q.ext e1 D.l2z).ext e2 D.l2i1).ext e3 D.l2TO
    refine wpAny_bind (nxt_end hh d3 q3 hy fun g4 e e4 st => ?_)
    obtain ⟨oe, st, ce⟩ := st
    have fz4 : IsZip g4 z TI TO .ellipsis := e4 _ _ D.i2z.symm (e3 _ _ D.TOz.symm (e2 _ _ D.i1z.symm fz1))
    have ez : e ≠ z := by
      rintro rfl
      rw [fz4] at st
      cases st
      simp at ce
    refine wpAny_setField_rec fz4 (by simp) fun g5 _ s5 => hE g5 e ?_ ⟨oe, s5.extBut _ _ ez st, ce⟩
    exact fun c o n1 n2 n3 n4 h => s5.extBut _ _ n1 (e4 _ _ n4 (e3 _ _ n2 (e2 _ _ n3 (e1 _ _ n1 h))))
theorem pyNextK_item {Q : Option Value → Shared → Prop} (D : ZipApart z TI TO i j l k) (fz : IsZip s.heap z TI TO .none)
    (fI : IsPair s.heap TI (.ref i) (.ref j)) (fO : IsPair s.heap TO u v) (a : AtK b s.heap i l m) (d : AtK c s.heap j k n)
    (p : SqK b s.heap l xs) (q : SqK c s.heap k ys) (hx : xs[m]? = some x) (hy : ys[n]? = some y)
    (hQ : ∀ g, IsZip g z TI TO (rawInt s.heap.objs.size) → IsPair g TO x y → AtK b g i l (m + 1) → AtK c g j k (n + 1) →
      IsPair g s.heap.objs.size x y → g.objs.size = s.heap.objs.size + 1 → Rest z TO i j s.heap g → Q (some (.ref s.heap.objs.size)) { s with heap := g }) :
    wpAny (model prog w) A (pyNext (.ref z)) Q E s := by
  have ty : s.TypeIs (.ref z) "zip" := ⟨_, fz, rfl⟩
  unfold pyNext
  refine wpAny_bind (wpAny_attempt (wpAny_callSpecial?_slot (name := Str.ofString "__next__") ty PySem.F.slot_zip_next ?_))
  refine wpAny_call_entry PySem.F.slot_zip_next ty PySem.F.entry_zip_next ?_ (PySem.F.args_zip_next_1 _)
  exact zipK_item D fz fI fO a d p q hx hy fun g h1 h2 h3 h4 h5 h6 h7 => wpAny_pure (hQ g h1 h2 h3 h4 h5 h6 h7)
theorem pyNextK_end {Q : Option Value → Shared → Prop} (hh : A.handled = none) (D : ZipApart z TI TO i j l k) (fz : IsZip s.heap z TI TO .none)
    (fI : IsPair s.heap TI (.ref i) (.ref j)) (fO : IsPair s.heap TO u v) (a : AtK b s.heap i l m) (d : AtK c s.heap j k n)
    (p : SqK b s.heap l xs) (q : SqK c s.heap k ys) (he : xs[m]? = none ∨ ys[n]? = none)
    (hQ : ∀ g, Rest z TO i j s.heap g → Q none { s with heap := g }) : wpAny (model prog w) A (pyNext (.ref z)) Q E s := by
  have ty : s.TypeIs (.ref z) "zip" := ⟨_, fz, rfl⟩
  unfold pyNext
  refine wpAny_bind (wpAny_attempt (wpAny_callSpecial?_slot (name := Str.ofString "__next__") ty PySem.F.slot_zip_next ?_))
  refine wpAny_call_entry PySem.F.slot_zip_next ty PySem.F.entry_zip_next ?_ (PySem.F.args_zip_next_1 _)
  refine zipK_end hh D fz fI fO a d p q he fun g e r st => ?_
  obtain ⟨o, st, ce⟩ := st
  refine wpAny_bind (wpAny_isInstance (T := "StopIteration") (b := true) ⟨o, st, ce⟩ isSubtype_stop ?_)
  exact wpAny_pure (hQ _ r)
end
end
/-! ### zip is made -/
def itO (b : Bool) (l : Addr) : Obj := ⟨.type (match b with | true => "list_iterator" | false => "tuple_iterator"), none, .fields #[.ref l, .int 0 0], #[]⟩
abbrev mz1 (b : Bool) (h : Heap) (l : Addr) : Heap := h.push (itO b l)
abbrev mz2 (b c : Bool) (h : Heap) (l k : Addr) : Heap := (mz1 b h l).push (itO c k)
abbrev mz3 (b c : Bool) (h : Heap) (l k : Addr) : Heap := (mz2 b c h l k).push ⟨.type "tuple", none, .seq #[.ref h.objs.size, .ref (mz1 b h l).objs.size], #[]⟩
abbrev mz4 (b c : Bool) (h : Heap) (l k : Addr) : Heap := (mz3 b c h l k).push ⟨.type "tuple", none, .seq #[.none, .none], #[]⟩
abbrev mz5 (b c : Bool) (h : Heap) (l k : Addr) : Heap := (mz4 b c h l k).push ⟨.type "zip", none, .fields #[.none, .bool false, .bool false, .ref (mz2 b c h l k).objs.size, .ref (mz3 b c h l k).objs.size], #[]⟩
theorem zipK_new (b c : Bool) (l k : Addr) (xs ys : Array Value) : Meets (Builtin.«zip.__new__» ⟨[.type "zip", .ref l, .ref k], []⟩)
    (fun _ R s => SqK b s.heap l xs ∧ SqK c s.heap k ys ∧ R (.ok (.ret (.ref (mz4 b c s.heap l k).objs.size))) { s with heap := mz5 b c s.heap l k }) := by
  cases b <;> cases c
  · exact RZ.meets_zipT_new l k xs ys
  · refine .of_wp fun prog w A R s h => ?_
    obtain ⟨hp, gn, dr, tk, os⟩ := s
    obtain ⟨p, q, h⟩ := h
    have hsub := sub_zip
    have P1 : Heap.IsTuple (Shared.heap ⟨hp, gn, dr, tk, os⟩) l xs := p
    have P2 : Heap.IsList (Shared.heap ⟨hp.push { cls := .type "tuple_iterator", data := .fields #[.ref l, .int 0 0] }, gn, dr, tk, os⟩) k ys := Heap.IsList.push q _
    wp_walk using wpAny_pyIter_tuple P1, wpAny_pyIter_list P2
    exact ⟨_, rfl, h⟩
  · refine .of_wp fun prog w A R s h => ?_
    obtain ⟨hp, gn, dr, tk, os⟩ := s
    obtain ⟨p, q, h⟩ := h
    have hsub := sub_zip
    have P1 : Heap.IsList (Shared.heap ⟨hp, gn, dr, tk, os⟩) l xs := p
    have P2 : Heap.IsTuple (Shared.heap ⟨hp.push { cls := .type "list_iterator", data := .fields #[.ref l, .int 0 0] }, gn, dr, tk, os⟩) k ys := Heap.IsTuple.push q _
    wp_walk using wpAny_pyIter_list P1, wpAny_pyIter_tuple P2
    exact ⟨_, rfl, h⟩
  · exact meets_zip_new l k xs ys
theorem AtK.new {b : Bool} {h : Heap} {it l : Addr} (e : h.get? it = some (itO b l)) : AtK b h it l 0 := by
  cases b
  · exact ⟨_, e, rfl, rfl⟩
  · exact ⟨_, e, rfl, rfl⟩
theorem callK_zip {prog : Program} {w : World} {A : Around} {E : Value → Shared → Prop} {s : Shared} {b c : Bool} {l k : Addr} {xs ys : Array Value} {Q : Value → Shared → Prop} (p : SqK b s.heap l xs) (q : SqK c s.heap k ys)
    (hQ : ∀ g, IsZip g (s.heap.objs.size + 4) (s.heap.objs.size + 2) (s.heap.objs.size + 3) .none → IsPair g (s.heap.objs.size + 2) (.ref s.heap.objs.size) (.ref (s.heap.objs.size + 1)) →
      IsPair g (s.heap.objs.size + 3) .none .none → AtK b g s.heap.objs.size l 0 → AtK c g (s.heap.objs.size + 1) k 0 →
      (∀ d o, s.heap.get? d = some o → g.get? d = some o) → Q (.ref (s.heap.objs.size + 4)) { s with heap := g }) : wpAny (model prog w) A (call (.type "zip") [.ref l, .ref k]) Q E s := by
  refine callType_new PySem.F.called_zip (by decide) (PySem.F.typeCall_zip_2 _ _) (PySem.F.newCall_zip_2 _ _) (fun obj => PySem.F.args_object_init_3 obj _ _) PySem.F.entry_zip_new (zipK_new b c l k xs ys) ⟨p, q, ?_⟩
  have n1 : (mz1 b s.heap l).objs.size = s.heap.objs.size + 1 := Heap.size_push ..
  have n2 : (mz2 b c s.heap l k).objs.size = s.heap.objs.size + 2 := by rw [Heap.size_push, n1]
  have n3 : (mz3 b c s.heap l k).objs.size = s.heap.objs.size + 3 := by rw [Heap.size_push, n2]
  have n4 : (mz4 b c s.heap l k).objs.size = s.heap.objs.size + 4 := by rw [Heap.size_push, n3]
  have up : ∀ {h : Heap} {o o2 : Obj} {d : Addr}, h.get? d = some o → (h.push o2).get? d = some o := fun e => Heap.get?_push_of_some _ e
  have f5 : (mz5 b c s.heap l k).get? (mz4 b c s.heap l k).objs.size = some _ := Heap.get?_push_size _ rfl
  have f4 : (mz5 b c s.heap l k).get? (mz3 b c s.heap l k).objs.size = some _ := up (Heap.get?_push_size _ rfl)
  have f3 : (mz5 b c s.heap l k).get? (mz2 b c s.heap l k).objs.size = some _ := up (up (Heap.get?_push_size _ rfl))
  have f2 : (mz5 b c s.heap l k).get? (mz1 b s.heap l).objs.size = some _ := up (up (up (Heap.get?_push_size _ (by cases c <;> rfl))))
  have f1 : (mz5 b c s.heap l k).get? s.heap.objs.size = some _ := up (up (up (up (Heap.get?_push_size _ (by cases b <;> rfl)))))
  show _ ∧ _
  rw [n2, n3, n4] at f5
  rw [n1, n2] at f3
  rw [n3] at f4
  rw [n1] at f2
  rw [n4]
  exact ⟨⟨_, f5, rfl⟩, hQ _ f5 f3 f4 (.new f1) (.new f2) fun d o e => up (up (up (up (up e))))⟩
end Pd
set_option Elab.async false
set_option linter.all false
set_option maxRecDepth 100000
set_option autoImplicit false
set_option maxHeartbeats 4000000
/-! Readings: what an expression's meaning on data asks of the heap; targets; what a for walks. -/
namespace Pd
open PySem PyProof.Rows L2 TL
open Evl (Ex ex_l ex_t)

/-- what is wanted of exceptions behind (F, H) -/
def Xp (G : Gp) (F H : Hp) (σ : L2.St) : Xc → Prop := fun x => ∀ cls d F' H', Gr F H F' H' → XR G x cls d F' H' → G.W cls d σ H'
theorem Xp.up {G : Gp} {F H F1 H1 : Hp} {σ : L2.St} {x : Xc} (h : Xp G F H σ x) (g : Gr F H F1 H1) : Xp G F1 H1 σ x := fun cls d F' H' g' r => h cls d F' H' (g.trans g') r

abbrev RelT (α β : Type) := Hp → Hp → Hp → β → α → Prop
def tGn {α β : Type} (G : Gp) (Rel : RelT α β) (m : Env → Out α) : L2.St → Hp → (β → Hp → Prop) → Prop := fun σ H Q =>
  ∃ F0 B F env, Rep G F0 B F σ H env ∧ (m env).wp (fun r => ∀ v F' H', Gr F H F' H' → Rel H F' H' v r → Q v H') (Xp G F H σ)
abbrev rB : RelT Bool Bool := fun _ _ _ v r => v = r
def rD (K : Fg) : RelT D V := fun _ F _ v d => Dv K F v d
def rDL (K : Fg) : RelT (List D) (List V) := fun _ F _ v d => DvL K F v d
def rO : RelT (Option Int) (Option Int) := fun _ _ _ v r => v = r
abbrev tOf (G : Gp) (m : Env → Out Rv) : TE := tGn G (RV G.K) m
abbrev tTs (G : Gp) (m : Env → Out Bool) : TT := tGn G rB m
abbrev tAr (G : Gp) (m : Env → Out (List Rv)) : TA := tGn G (RVL G.K) m
abbrev tAD (G : Gp) (m : Env → Out (List D)) : TA := tGn G (rDL G.K) m
section
variable {G : Gp} {α β γ δ : Type} {Rel : RelT γ δ} {Rel1 : RelT α β} {σ : L2.St} {H : Hp} {Q : δ → Hp → Prop}
/-- one evaluation, then the rest -/
theorem seq {m : Env → Out α} {f : α → Env → Out γ} (h : tGn G Rel (fun env => (m env).bind fun a => f a env) σ H Q) {R : β → Hp → Prop}
    (k : ∀ F0 B F env v F1 H1 a, Rep G F0 B F σ H env → Gr F H F1 H1 → Rel1 H F1 H1 v a → (f a env).wp (fun c => ∀ w F' H', Gr F H F' H' → Rel H F' H' w c → Q w H') (Xp G F H σ) → R v H1) :
    tGn G Rel1 m σ H R := by
  obtain ⟨F0, B, F, env, R0, h⟩ := h
  rw [Out.wp_bind] at h
  exact ⟨F0, B, F, env, R0, Out.wp_mono h (fun a ha v F1 H1 g r => k F0 B F env v F1 H1 a R0 g r ha) fun _ hx => hx⟩
/-- a further evaluation -/
theorem nxt {m : Env → Out α} {F0 B F F1 H1 : Hp} {env : Env} (R0 : Rep G F0 B F σ H env) (g : Gr F H F1 H1) {P : α → Prop} (h : (m env).wp P (Xp G F H σ)) {R : β → Hp → Prop}
    (k : ∀ v F2 H2 a, Gr F1 H1 F2 H2 → Rel1 H1 F2 H2 v a → P a → R v H2) : tGn G Rel1 m σ H1 R :=
  ⟨F0, B, F1, env, R0.up g, Out.wp_mono h (fun a ha v F2 H2 g2 r => k v F2 H2 a g2 r ha) fun _ hx => hx.up g⟩
end

/-! ### methods of texts -/
def rMth (K : Fg) (sem : Rv → List Rv → Out Rv) : V → List V → Hp → VK → Prop := fun v vs H2 Q => ∃ F H F2 x rs E, Gr F H F2 H2 ∧ RV K H F2 H2 v x ∧ RVL K H F2 H2 vs rs ∧ (sem x rs).wp (Wt K F H Q) E
theorem join_eq (l : List Nat) (xs : List (List Nat)) : Txt.join (mkS l) (xs.map mkS) = mkS (glue l xs) := by
  show Builtin.Str.glued (mkS l) (xs.map mkS) = _
  rw [StrLaws.glued_eq_join]
  have go : ∀ ys : List (List Nat), Str.join (mkS l) (ys.map mkS) = mkS (glue l ys) := by
    intro ys
    induction ys with
    | nil => rfl
    | cons x r ih =>
      cases r with
      | nil => rfl
      | cons y r =>
        show mkS x ++ mkS l ++ Str.join (mkS l) ((y :: r).map mkS) = mkS (x ++ l ++ glue l (y :: r))
        rw [ih, mkS_app, mkS_app]
  exact go xs
section
variable {X : Cx}
theorem lower_ok : MtR X "str.lower" (rMth X.K mLower) := by
  intro pins s σ H2 v vs vv us Q I rv rs h
  obtain ⟨F, H, F2, x, xs, E, g, hx, hs, h⟩ := h
  unfold mLower at h
  split at h
  · cases hx
    have e := hs.none
    subst e
    split at h
    · rename_i hl
      exact mt_lower pins s σ H2 _ _ vv us Q I rv rs ⟨_, rfl, rfl, by rw [mkS_len]; exact hl, Wt.str g h⟩
    · exact h.elim
  · exact h.elim
theorem upper_ok : MtR X "str.upper" (rMth X.K mUpper) := by
  intro pins s σ H2 v vs vv us Q I rv rs h
  obtain ⟨F, H, F2, x, xs, E, g, hx, hs, h⟩ := h
  unfold mUpper at h
  split at h
  · cases hx
    have e := hs.none
    subst e
    split at h
    · rename_i hl
      exact mt_upper pins s σ H2 _ _ vv us Q I rv rs ⟨_, rfl, rfl, by rw [mkS_len]; exact hl, Wt.str g h⟩
    · exact h.elim
  · exact h.elim
theorem count_ok : MtR X "str.count" (rMth X.K mCount) := by
  intro pins s σ H2 v vs vv us Q I rv rs h
  obtain ⟨F, H, F2, x, xs, E, g, hx, hs, h⟩ := h
  unfold mCount at h
  split at h
  · cases hx
    obtain ⟨u, rfl, hu⟩ := hs.one
    cases hu
    exact mt_count pins s σ H2 _ _ vv us Q I rv rs ⟨_, _, rfl, rfl, Wt.int g h⟩
  · exact h.elim
theorem index_ok : MtR X "str.index" (rMth X.K mIndex) := by
  intro pins s σ H2 v vs vv us Q I rv rs h
  obtain ⟨F, H, F2, x, xs, E, g, hx, hs, h⟩ := h
  unfold mIndex at h
  split at h
  · split at h
    · rename_i l c hm
      cases hx
      obtain ⟨u, rfl, hu⟩ := hs.one
      cases hu
      obtain ⟨h1, h2⟩ := idx_first hm
      exact mt_sindex pins s σ H2 _ _ vv us Q I rv rs ⟨_, _, _, [], rfl, rfl, index_one h1 h2, Wt.int g h⟩
    · exact h.elim
  · exact h.elim
theorem join_ok : MtR X "str.join" (rMth X.K mJoin) := by
  intro pins s σ H2 v vs vv us Q I rv rs h
  obtain ⟨F, H, F2, x, xs, E, g, hx, hs, h⟩ := h
  unfold mJoin at h
  split at h
  · cases hx
    obtain ⟨u, rfl, hu⟩ := hs.one
    split at h
    · rename_i r _ ys e
      cases q : r.sq with
      | none => rw [q] at e; cases e
      | some zs =>
        rw [q] at e
        obtain ⟨p, ws, rfl, h1, h2⟩ := hu.sq g.s q
        have e2 := strs_dv h2 e
        subst e2
        split at h
        · rename_i hl
          refine mt_join pins s σ H2 _ _ vv us Q I rv rs ⟨_, p, ys.map mkS, rfl, rfl, h1, ?_, ?_⟩
          · rw [List.map_map, List.length_map, mkS_len]
            have e3 : (ys.map ((fun x => x.length) ∘ mkS)) = ys.map List.length := List.map_congr_left fun a _ => mkS_len a
            rw [e3]
            exact hl
          · rw [join_eq]
            exact Wt.str g h
        · exact h.elim
    · exact h.elim
  · exact h.elim
def mthId : Mth → String
  | .lower => "str.lower" | .upper => "str.upper" | .join => "str.join" | .count => "str.count" | .index => "str.index"
def mthNm : Mth → Str
  | .lower => "lower" | .upper => "upper" | .join => "join" | .count => "count" | .index => "index"
theorem mth_ok (m : Mth) : MtR X (mthId m) (rMth X.K (doMth m)) := by
  cases m
  · exact lower_ok
  · exact upper_ok
  · exact join_ok
  · exact count_ok
  · exact index_ok
theorem mth_slot (m : Mth) : Slot "str" (mthNm m) (mthId m) := by
  cases m
  · exact F.slot_str_lower
  · exact F.slot_str_upper
  · exact F.slot_str_join
  · exact F.slot_str_count
  · exact F.slot_str_index
theorem mth_ty (m : Mth) : typeOf (.builtin (mthId m)) = pure (.type "method_descriptor") := by
  cases m
  · exact F.type_str_lower
  · exact F.type_str_upper
  · exact F.type_str_join
  · exact F.type_str_count
  · exact F.type_str_index
end

/-! ### targets -/
mutual
def Tg.ns : Tg → List Nat
  | .nm i => [i]
  | .tp ts => Tg.nsL ts
def Tg.nsL : List Tg → List Nat
  | [] => []
  | t :: ts => t.ns ++ Tg.nsL ts
end
def Keeps (ns : List Nat) (σ σ' : L2.St) (env env' : Env) : Prop := ∀ j, j ∉ ns → σ'[j]? = σ[j]? ∧ env'[j]? = env[j]?
def tTg (G : Gp) (t : Tg) : TG := fun v σ H Q => ∃ F0 B F env d env1, Rep G F0 B F σ H env ∧ Dv G.K F v d ∧ tgt t d env = some env1 ∧
  ∀ σ', Rep G F0 B F σ' H env1 → Keeps t.ns σ σ' env env1 → Q σ' H
def tTgs (G : Gp) (ts : List Tg) : TGs := fun vs σ H Q => ∃ F0 B F env ds env1, Rep G F0 B F σ H env ∧ DvL G.K F vs ds ∧ tgtL ts ds env = some env1 ∧
  ∀ σ', Rep G F0 B F σ' H env1 → Keeps (Tg.nsL ts) σ σ' env env1 → Q σ' H
section
variable {X : Cx} {G : Gp} {pos : Pos}
theorem tg_name {i : Nat} {x : Str} (hN : X.N.Nodup) (hi : X.N[i]? = some x) (hx : Loc X.env.scope x) (hf : X.fn x = true ∨ X.env.scope.names.lookup x = some .local) : PG X (.Name x pos) (tTg G (.nm i)) :=
  PG.imp (pg_name hN hi hx hf) fun v σ H Q h => by
    obtain ⟨F0, B, F, env, d, env1, R, hd, e, q⟩ := h
    have e' : env.set i (.v d) = env1 := Option.some.inj e
    subst e'
    refine q _ (R.setV hd) fun j hj => ?_
    have hji : i ≠ j := fun z => hj (by rw [z]; exact List.mem_singleton_self _)
    exact ⟨List.getElem?_set_ne hji, List.getElem?_set_ne hji⟩
theorem tgs_nil : PGs X [] (tTgs G []) := by
  refine ⟨fun pins s σ H vs us Q I r h => ?_⟩
  obtain ⟨F0, B, F, env, ds, env1, R, hd, e, q⟩ := h
  cases hd with
  | nil =>
    have e' : env = env1 := Option.some.inj e
    subst e'
    exact pgs_nil.run pins s σ H [] us Q I r ⟨rfl, q σ R fun j _ => ⟨rfl, rfl⟩⟩
  | cons a b => cases e
theorem tgs_cons {e : Expr} {es : List Expr} {t : Tg} {ts : List Tg} (h1 : PG X e (tTg G t)) (h2 : PGs X es (tTgs G ts))
    (hs : (assignEach (e :: es) X.env).map (·.2) = assign e X.env :: (assignEach es X.env).map (·.2)) : PGs X (e :: es) (tTgs G (t :: ts)) := by
  refine ⟨fun pins s σ H vs us Q I r h => ?_⟩
  refine (pgs_cons h1 h2 hs).run pins s σ H vs us Q I r ?_
  obtain ⟨F0, B, F, env, ds, env1, R, hd, e, q⟩ := h
  cases hd with
  | nil => cases e
  | cons a b =>
    rename_i v vs d ds
    cases e1 : tgt t d env with
    | none => simp only [tgtL, e1, Option.bind_none] at e; cases e
    | some env2 =>
      simp only [tgtL, e1, Option.bind_some] at e
      refine ⟨v, vs, rfl, F0, B, F, env, d, env2, R, a, e1, fun σ' R' k => ?_⟩
      refine ⟨F0, B, F, env2, ds, env1, R', b, e, fun σ'' R'' k' => q σ'' R'' fun j hj => ?_⟩
      have hj1 : j ∉ t.ns := fun z => hj (List.mem_append_left _ z)
      have hj2 : j ∉ Tg.nsL ts := fun z => hj (List.mem_append_right _ z)
      exact ⟨(k' j hj2).1.trans (k j hj1).1, (k' j hj2).2.trans (k j hj1).2⟩
theorem tgtL_len : ∀ {ts : List Tg} {ds : List D} {env env1 : Env}, tgtL ts ds env = some env1 → ds.length = ts.length
  | [], [], _, _, _ => rfl
  | [], _ :: _, _, _, e => by cases e
  | _ :: _, [], _, _, e => by cases e
  | t :: ts, d :: ds, env, _, e => by
    cases e1 : tgt t d env with
    | none => simp only [tgtL, e1, Option.bind_none] at e; cases e
    | some env2 =>
      simp only [tgtL, e1, Option.bind_some] at e
      rw [List.length_cons, List.length_cons, tgtL_len e]
theorem tg_tup {es : List Expr} {k : Nat} {ts : List Tg} (hK : G.K = X.K) (hc : X.calm = true) (h : PGs X es (tTgs G ts)) (hn : (assignEach es X.env).length = ts.length)
    (hst : (assignEach es X.env).findIdx? (·.1) = none) : PG X (.Tuple es k pos) (tTg G (.tp ts)) :=
  PG.imp (pg_tup hc h hn hst) fun v σ H Q h => by
    obtain ⟨F0, B, F, env, d, env1, R, hd, e, q⟩ := h
    cases hd with
    | tup a b =>
      have e' : tgtL ts _ env = some env1 := e
      exact ⟨_, _, rfl, hK ▸ ex_t R.g.s a, by rw [b.len, tgtL_len e'], F0, B, F, env, _, env1, R, b, e', q⟩
    | _ => cases e
end

/-! ### what a for walks -/
structure WalkD (K : Fg) (J : L2.It) (F' H' : Hp) (σ : Nat → Addr → Prop) (ns : List Nat) (ds : List D) : Prop where
  ex : ∃ (Gd : Hp → Prop) (Y : Nat → Hp → V → Hp → Prop) (A : Addr → Prop), Walk J ds.length Gd Y ∧ (∀ H1, Ex F' H1 → (∀ a, A a → H1 a = H' a) → Gd H1) ∧
    (∀ a, A a → H' a ≠ none ∧ ∃ i ∈ ns, σ i a) ∧
    ∀ i H1 x H2, i < ds.length → Gd H1 → Y i H1 x H2 → ∀ F1, Ex F' F1 → Ex F1 H1 → ∃ F2 d, ds[i]? = some d ∧ Gr F1 H1 F2 H2 ∧ Dv K F2 x d
/-- slot i owns the list at a -/
def owF (σ : L2.St) (env : Env) : Nat → Addr → Prop := fun i a => σ[i]? = some (some (.ref a)) ∧ ∃ xs, Has env i xs
def tIt (G : Gp) (ns : List Nat) (m : Env → Out (List D)) : TI := fun σ H R =>
  ∃ F0 B F env, Rep G F0 B F σ H env ∧ (m env).wp (fun ds => ∀ J F' H', Gr F H F' H' → WalkD G.K J F' H' (owF σ env) ns ds → R J H') (Xp G F H σ)
/-- a walk's source: a borrowed list is that of a name -/
def tSr (G : Gp) (ns : List Nat) (m : Env → Out Rv) : TE := fun σ H Q =>
  ∃ F0 B F env, Rep G F0 B F σ H env ∧ (m env).wp (fun r => ∀ v F' H', Gr F H F' H' → RV G.K H F' H' v r → (∀ xs, r = .bor xs → ∃ i ∈ ns, ∃ a, v = .ref a ∧ owF σ env i a) → Q v H') (Xp G F H σ)
theorem src_nb {X : Cx} {G : Gp} {e : Expr} {r : E} {m : Env → Out Rv} {ns : List Nat} (h : PE X e (tOf G m)) (hr : ∀ xs, brw r (.bor xs) = false) : PE X e (tSr G ns fun env => srcOf r (m env)) :=
  PE.imp h fun σ H Q hq => by
    obtain ⟨F0, B, F, env, R, q⟩ := hq
    unfold srcOf at q
    rw [Out.wp_bind] at q
    refine ⟨F0, B, F, env, R, Out.wp_mono q (fun x hx v F' H' g rv => ?_) fun _ z => z⟩
    split at hx
    · rename_i hb
      exact hx v F' H' g rv fun xs z => by rw [z, hr xs] at hb; cases hb
    · exact hx.elim
/-- a list that is walked: known, or owned by a name of ns -/
def Held (F H : Hp) (σ : Nat → Addr → Prop) (ns : List Nat) (p : Addr) (vs : List V) : Prop := F p = some (.lst vs) ∨ (H p = some (.lst vs) ∧ ∃ i ∈ ns, σ i p)
theorem hold {K : Fg} {F H F2 H2 : Hp} {σ : Nat → Addr → Prop} {ns : List Nat} {v : V} {x : Rv} {xs : List D} (g : Gr F H F2 H2) (hx : RV K H F2 H2 v x) (e : x.lv = some xs) (ho : ∀ xs, x = .bor xs → ∃ i ∈ ns, ∃ a, v = .ref a ∧ σ i a) :
    ∃ p vs F3, v = .ref p ∧ Gr F H F3 H2 ∧ H2 p = some (.lst vs) ∧ DvL K F3 vs xs ∧ Held F3 H2 σ ns p vs := by
  cases x with
  | v d =>
    cases d with
    | lst ys =>
      have e' : ys = xs := Option.some.inj e
      subst e'
      cases hx with
      | lst a b => exact ⟨_, _, F2, rfl, g, g.s _ _ a, b, .inl a⟩
    | _ => cases e
  | own ys =>
    have e' : ys = xs := Option.some.inj e
    subst e'
    obtain ⟨p, vs, rfl, h1, h2, h3, h4⟩ := hx
    exact ⟨p, vs, _, rfl, g.know h1 h2 h3, h1, h4.up (Ex.step g.s h1 h2).1, .inl upd_same⟩
  | bor ys =>
    have e' : ys = xs := Option.some.inj e
    subst e'
    obtain ⟨i, hi, a, ea, hs⟩ := ho _ rfl
    obtain ⟨p, vs, rfl, h1, h2, h4⟩ := hx
    have ea := (V.ref.inj ea).symm
    subst ea
    exact ⟨a, vs, F2, rfl, g, h1, h4, .inr ⟨h1, i, hi, hs⟩⟩
theorem Held.mono {F H F2 H2 : Hp} {σ : Nat → Addr → Prop} {ns ms : List Nat} {p : Addr} {vs : List V} (h : Held F H σ ns p vs) (g : Gr F H F2 H2) (hn : ∀ i ∈ ns, i ∈ ms) : Held F2 H2 σ ms p vs := by
  rcases h with h | ⟨h, i, hi, e⟩
  · exact .inl (g.f _ _ h)
  · exact .inr ⟨g.h _ _ h, i, hn i hi, e⟩
/-- it stands as long as F stands and the owned lists are left alone -/
theorem Held.at {F H H1 : Hp} {σ : Nat → Addr → Prop} {ns : List Nat} {p : Addr} {vs : List V} (h : Held F H σ ns p vs) (e : Ex F H1) (hA : (H p ≠ none ∧ ∃ i ∈ ns, σ i p) → H1 p = H p) : H1 p = some (.lst vs) := by
  rcases h with h | ⟨h, i, hi, z⟩
  · exact e _ _ h
  · rw [hA ⟨by rw [h]; simp, i, hi, z⟩]; exact h
section
variable {K : Fg} {F H : Hp} {σ : Nat → Addr → Prop} {ns : List Nat}
theorem walkD_list {p : Addr} {vs : List V} {xs : List D} (hv : DvL K F vs xs) (hh : Held F H σ ns p vs) : WalkD K (Itl K p) F H σ ns xs := by
  refine ⟨fun H1 => SqL K H1 p vs, YAt vs, fun a => a = p ∧ H p ≠ none ∧ ∃ i ∈ ns, σ i p, ?_, fun H1 e hA => SqL.of (hh.at e fun z => hA p ⟨rfl, z⟩), fun a ha => ?_, fun i H1 x H2 hi _ y F1 e1 e2 => ?_⟩
  · rw [← hv.len]; exact walk_list
  · obtain ⟨rfl, z⟩ := ha; exact z
  · obtain ⟨rfl, y⟩ := y
    obtain ⟨d, h1, h2⟩ := hv.getV y
    exact ⟨F1, d, h1, Gr.refl e2, h2.up e1⟩
theorem walkD_scr {p : Addr} {ks : List Int} (h : SqL K F p (ks.map V.int)) : WalkD K (Itl K p) F H σ ns (ks.map D.int) := by
  refine ⟨fun H1 => SqL K H1 p (ks.map V.int), YAt (ks.map V.int), fun _ => False, ?_, fun H1 e _ => ex_l e h, fun _ z => z.elim, fun i H1 x H2 hi _ y F1 e1 e2 => ?_⟩
  · have e := walk_list (K := K) (a := p) (xs := ks.map V.int)
    rw [List.length_map] at e ⊢
    exact e
  · obtain ⟨rfl, y⟩ := y
    rw [List.getElem?_map] at y
    cases q : ks[i]? with
    | none => rw [q] at y; cases y
    | some k =>
      rw [q] at y
      have y' := Option.some.inj y
      subst y'
      exact ⟨F1, .int k, by rw [List.getElem?_map, q]; rfl, Gr.refl e2, .int k⟩
theorem walkD_tup {p : Addr} {vs : List V} {xs : List D} (hv : DvL K F vs xs) (h : SqT K F p vs) : WalkD K (Itt K p) F H σ ns xs := by
  refine ⟨fun H1 => SqT K H1 p vs, YAt vs, fun _ => False, ?_, fun H1 e _ => ex_t e h, fun _ z => z.elim, fun i H1 x H2 hi _ y F1 e1 e2 => ?_⟩
  · rw [← hv.len]; exact walk_tup
  · obtain ⟨rfl, y⟩ := y
    obtain ⟨d, h1, h2⟩ := hv.getV y
    exact ⟨F1, d, h1, Gr.refl e2, h2.up e1⟩
theorem walkD_str {l : List Nat} : WalkD K (Its (mkS l)) F H σ ns (l.map fun c => D.str [c]) := by
  refine ⟨fun _ => True, fun i H v H' => H' = H ∧ ∃ c, (mkS l).cps[i]? = some c ∧ v = .str ⟨#[c]⟩, fun _ => False, ?_, fun _ _ _ => True.intro, fun _ z => z.elim, fun i H1 x H2 hi _ y F1 e1 e2 => ?_⟩
  · rw [List.length_map]
    have e := walk_str (z := mkS l)
    have e2 : (mkS l).cps.size = l.length := mkS_len l
    rw [e2] at e
    exact e
  · obtain ⟨rfl, c, h1, rfl⟩ := y
    have h1' : l[i]? = some c := by simpa using h1
    refine ⟨F1, .str [c], by rw [List.getElem?_map, h1']; rfl, Gr.refl e2, .str [c]⟩
theorem rngL_len (lo : Int) (n : Nat) : (rngL lo n).length = n := by
  induction n generalizing lo with
  | zero => rfl
  | succ n ih => show (rngL (lo + 1) n).length + 1 = n + 1; rw [ih]
theorem rngL_get : ∀ (n : Nat) (lo : Int) (i : Nat), i < n → (rngL lo n)[i]? = some (.int (lo + i))
  | 0, _, _, h => by omega
  | n + 1, lo, 0, _ => by show some (D.int lo) = _; rw [show lo + ((0 : Nat) : Int) = lo by omega]
  | n + 1, lo, i + 1, h => by
    show (rngL (lo + 1) n)[i]? = _
    rw [rngL_get n (lo + 1) i (by omega), show lo + 1 + (i : Int) = lo + ((i + 1 : Nat) : Int) by omega]
theorem walkD_rng {lo : Int} {n : Nat} : WalkD K (Itr lo n) F H σ ns (rngL lo n) := by
  refine ⟨fun _ => True, YFn fun i => .int (lo + i), fun _ => False, ?_, fun _ _ _ => True.intro, fun _ z => z.elim, fun i H1 x H2 hi _ y F1 e1 e2 => ?_⟩
  · rw [rngL_len]; exact walk_range
  · obtain ⟨rfl, rfl⟩ := y
    rw [rngL_len] at hi
    exact ⟨F1, .int (lo + i), rngL_get n lo i hi, Gr.refl e2, .int _⟩
theorem rngC_len (lo c : Int) (n : Nat) : (rngC lo c n).length = n := by
  induction n generalizing lo with
  | zero => rfl
  | succ n ih => show (rngC (lo + c) c n).length + 1 = n + 1; rw [ih]
theorem rngC_get (c : Int) : ∀ (n : Nat) (lo : Int) (i : Nat), i < n → (rngC lo c n)[i]? = some (.int (lo + (i : Nat) * c))
  | 0, _, _, h => by omega
  | n + 1, lo, 0, _ => by show some (D.int lo) = _; rw [show lo + ((0 : Nat) : Int) * c = lo by simp]
  | n + 1, lo, i + 1, h => by
    show (rngC (lo + c) c n)[i]? = _
    rw [rngC_get c n (lo + c) i (by omega), show lo + c + (i : Int) * c = lo + ((i + 1 : Nat) : Int) * c by rw [Int.natCast_add, Int.add_mul]; simp; omega]
theorem walkD_rngC {lo c : Int} {n : Nat} : WalkD K (Itc lo c n) F H σ ns (rngC lo c n) := by
  refine ⟨fun _ => True, YFn fun i => .int (lo + (i : Nat) * c), fun _ => False, ?_, fun _ _ _ => True.intro, fun _ z => z.elim, fun i H1 x H2 hi _ y F1 e1 e2 => ?_⟩
  · rw [rngC_len]; exact walk_rangeC
  · obtain ⟨rfl, rfl⟩ := y
    rw [rngC_len] at hi
    exact ⟨F1, .int (lo + (i : Nat) * c), rngC_get c n lo i hi, Gr.refl e2, .int _⟩
theorem walkD_rev {p : Addr} {vs : List V} {xs : List D} (hv : DvL K F vs xs) (hh : Held F H σ ns p vs) : WalkD K (Itv K p vs.length) F H σ ns xs.reverse := by
  refine ⟨fun H1 => SqL K H1 p vs, fun i H x H' => H' = H ∧ vs[vs.length - 1 - i]? = some x, fun a => a = p ∧ H p ≠ none ∧ ∃ i ∈ ns, σ i p, ?_, fun H1 e hA => SqL.of (hh.at e fun z => hA p ⟨rfl, z⟩), fun a ha => ?_, fun i H1 x H2 hi _ y F1 e1 e2 => ?_⟩
  · rw [List.length_reverse, ← hv.len]; exact walk_rev
  · obtain ⟨rfl, z⟩ := ha; exact z
  · obtain ⟨rfl, y⟩ := y
    rw [List.length_reverse] at hi
    obtain ⟨d, h1, h2⟩ := hv.getV y
    refine ⟨F1, d, ?_, Gr.refl e2, h2.up e1⟩
    rw [List.getElem?_reverse hi, ← hv.len]
    exact h1
/-- pairs, each a new tuple -/
theorem pair_dv {F1 H1 H2 : Hp} {x a b : V} {T : Addr} {d e : D} (e2 : Ex F1 H1) (hT : H1 T = none) (hH : H2 = upd H1 T (.tup [a, b])) (hx : x = .ref T) (h1 : Dv K F1 a d) (h2 : Dv K F1 b e) :
    ∃ F2, Gr F1 H1 F2 H2 ∧ Dv K F2 x (.tup [d, e]) := by
  subst hH hx
  have s : Ex F1 (upd F1 T (.tup [a, b])) := Ex.new (back e2 hT)
  exact ⟨_, (Gr.refl e2).add hT, .tup (SqT.of upd_same) (.cons (h1.up s) (.cons (h2.up s) .nil))⟩
theorem zipL_len : ∀ (xs ys : List D), (zipL xs ys).length = min xs.length ys.length
  | [], _ => by simp [zipL]
  | _ :: _, [] => by simp [zipL]
  | x :: xs, y :: ys => by show (zipL xs ys).length + 1 = min (xs.length + 1) (ys.length + 1); rw [zipL_len xs ys]; omega
theorem zipL_get : ∀ (xs ys : List D) (i : Nat) (x y : D), xs[i]? = some x → ys[i]? = some y → (zipL xs ys)[i]? = some (.tup [x, y])
  | [], _, _, _, _, h, _ => by simp at h
  | _ :: _, [], _, _, _, _, h => by simp at h
  | x :: xs, y :: ys, 0, _, _, h, h2 => by
    simp at h h2
    subst h h2
    rfl
  | x :: xs, y :: ys, i + 1, a, b, h, h2 => zipL_get xs ys i a b (by simpa using h) (by simpa using h2)
theorem walkD_zip {p q : Addr} {vs ws : List V} {xs ys : List D} (hv : DvL K F vs xs) (hw : DvL K F ws ys) (hp : Held F H σ ns p vs) (hq : Held F H σ ns q ws) : WalkD K (Itz K p q) F H σ ns (zipL xs ys) := by
  refine ⟨fun H1 => SqL K H1 p vs ∧ SqL K H1 q ws, YPair (fun i => vs[i]?) (fun i => ws[i]?), fun a => (a = p ∨ a = q) ∧ H a ≠ none ∧ ∃ i ∈ ns, σ i a, ?_,
    fun H1 e hA => ⟨SqL.of (hp.at e fun z => hA p ⟨.inl rfl, z⟩), SqL.of (hq.at e fun z => hA q ⟨.inr rfl, z⟩)⟩, fun a ha => ha.2, fun i H1 x H2 hi _ y F1 e1 e2 => ?_⟩
  · exact walk_zip (by rw [zipL_len, hv.len, hw.len])
  · obtain ⟨T, a, b, h1, h2, h3, h4, h5⟩ := y
    obtain ⟨d, g1, g2⟩ := hv.getV h4
    obtain ⟨e, g3, g4⟩ := hw.getV h5
    obtain ⟨F2, gg, hd⟩ := pair_dv e2 h2 h3 h1 (g2.up e1) (g4.up e1)
    exact ⟨F2, _, zipL_get xs ys i d e g1 g3, gg, hd⟩
theorem enmL_len : ∀ (xs : List D) (k : Nat), (enmL k xs).length = xs.length
  | [], _ => rfl
  | _ :: xs, k => by show (enmL (k + 1) xs).length + 1 = _; rw [enmL_len xs]; rfl
theorem enmL_get : ∀ (xs : List D) (k i : Nat) (x : D), xs[i]? = some x → (enmL k xs)[i]? = some (.tup [.int ((k + i : Nat) : Int), x])
  | [], _, _, _, h => by simp at h
  | y :: xs, k, 0, x, h => by
    simp at h
    subst h
    rfl
  | y :: xs, k, i + 1, x, h => by
    have := enmL_get xs (k + 1) i x (by simpa using h)
    rw [show k + (i + 1) = k + 1 + i by omega]
    exact this
theorem walkD_enm {p : Addr} {vs : List V} {xs : List D} (hv : DvL K F vs xs) (hp : Held F H σ ns p vs) : WalkD K (Ite K p) F H σ ns (enmL 0 xs) := by
  refine ⟨fun H1 => SqL K H1 p vs, YPair (fun i => some (.int (i : Nat))) (fun i => vs[i]?), fun a => a = p ∧ H p ≠ none ∧ ∃ i ∈ ns, σ i p, ?_,
    fun H1 e hA => SqL.of (hp.at e fun z => hA p ⟨rfl, z⟩), fun a ha => by obtain ⟨rfl, z⟩ := ha; exact z, fun i H1 x H2 hi _ y F1 e1 e2 => ?_⟩
  · rw [enmL_len, ← hv.len]; exact walk_enum
  · obtain ⟨T, a, b, h1, h2, h3, h4, h5⟩ := y
    obtain ⟨d, g1, g2⟩ := hv.getV h5
    have h4' := Option.some.inj h4
    subst h4'
    obtain ⟨F2, gg, hd⟩ := pair_dv e2 h2 h3 h1 (Dv.int _) (g2.up e1)
    refine ⟨F2, _, ?_, gg, hd⟩
    have := enmL_get xs 0 i d g1
    rw [Nat.zero_add] at this
    exact this
end
section
variable {X : Cx} {G : Gp} {tg : Expr} {ns ms : List Nat} {m m2 : Env → Out Rv}
/-- a list, a tuple, a text -/
theorem pi_any {e : Expr} (hK : X.K = G.K) (h : PE X e (tSr G ns m)) : PI X tg e (tIt G ns fun env => (m env).bind fun x => .ofO x.its) := by
  have h3 := PI.or (PI.or (pi_list (tg := tg) h) (pi_tup (tg := tg) h)) (pi_str (tg := tg) h)
  refine PI.imp h3 fun σ H R hq => ?_
  obtain ⟨F0, B, F, env, R0, q⟩ := hq
  rw [Out.wp_bind] at q
  rw [hK]
  cases em : m env with
  | stk => rw [em] at q; exact q.elim
  | exc x => rw [em] at q; exact .inl (.inl ⟨F0, B, F, env, R0, by rw [em]; exact q⟩)
  | ok x =>
    rw [em] at q
    have q : (Out.ofO x.its).wp (fun ds => ∀ J F' H', Gr F H F' H' → WalkD G.K J F' H' (owF σ env) ns ds → R J H') (Xp G F H σ) := q
    cases ei : x.its with
    | none => rw [ei] at q; exact q.elim
    | some ds =>
      rw [ei] at q
      have q : ∀ J F' H', Gr F H F' H' → WalkD G.K J F' H' (owF σ env) ns ds → R J H' := q
      have viaL : ∀ xs, x.lv = some xs → ds = xs → iList G.K (tSr G ns m) σ H R := fun xs e e2 => ⟨F0, B, F, env, R0, by
        rw [em]
        intro v F' H' g rv ho
        obtain ⟨p, vs, F3, e1, g3, h1, h2, h3⟩ := hold g rv e ho
        subst e2
        exact ⟨p, e1, ⟨vs, SqL.of h1⟩, q _ F3 H' g3 (walkD_list h2 h3)⟩⟩
      cases x with
      | own xs => exact .inl (.inl (viaL xs rfl (Option.some.inj ei).symm))
      | bor xs => exact .inl (.inl (viaL xs rfl (Option.some.inj ei).symm))
      | v d =>
        cases d with
        | lst xs => exact .inl (.inl (viaL xs rfl (Option.some.inj ei).symm))
        | tup xs =>
          refine .inl (.inr ⟨F0, B, F, env, R0, ?_⟩)
          rw [em]
          intro v F' H' g rv ho
          have e2 := Option.some.inj ei
          subst e2
          cases rv with
          | tup a b => exact ⟨_, rfl, ⟨_, ex_t g.s a⟩, q _ F' H' g (walkD_tup b a)⟩
        | scr ks =>
          refine .inl (.inl ⟨F0, B, F, env, R0, ?_⟩)
          rw [em]
          intro v F' H' g rv ho
          have e2 := Option.some.inj ei
          subst e2
          cases rv with
          | scr a => exact ⟨_, rfl, ⟨_, ex_l g.s a⟩, q _ F' H' g (walkD_scr a)⟩
        | str l =>
          refine .inr ⟨F0, B, F, env, R0, ?_⟩
          rw [em]
          intro v F' H' g rv ho
          have e2 := Option.some.inj ei
          subst e2
          cases rv
          exact ⟨_, rfl, q _ F' H' g walkD_str⟩
        | _ => cases ei
end
end Pd
set_option Elab.async false
set_option linter.all false
set_option maxRecDepth 100000
set_option autoImplicit false
set_option maxHeartbeats 4000000
/-! Walks over zip of two sequences of any kind. -/
namespace Pd
open PySem PyProof.Rows L2 TL RZ
open Evl (Ex ex_l ex_t)

def SqB (b : Bool) (K : Fg) (H : Hp) (l : Addr) (xs : List V) : Prop :=
  match b with
  | true => SqL K H l xs
  | false => SqT K H l xs
theorem SqB.ex {b : Bool} {K : Fg} {H H' : Hp} {l : Addr} {xs : List V} (h : SqB b K H l xs) (e : Ex H H') : SqB b K H' l xs := by
  cases b
  · exact ex_t e h
  · exact ex_l e h
theorem SqB.get {b : Bool} {X : Cx} {pins : List (Addr × Obj)} {σ : L2.St} {H : Hp} {s : Shared} {l : Addr} {xs : List V} (I : L2.Inv X pins σ H s) (h : SqB b X.K H l xs) : ∃ its : List Value, Vals xs its ∧ SqK b s.heap l its.toArray ∧ l < s.heap.objs.size := by
  cases b
  · obtain ⟨its, r, p, _⟩ := I.tuple h
    obtain ⟨o, e, _⟩ := id p
    exact ⟨its, r, p, Heap.lt_size e⟩
  · obtain ⟨its, r, p, _⟩ := I.list h
    exact ⟨its, r, p.isList, p.lt⟩
theorem SqB.inj {b : Bool} {X : Cx} {pins : List (Addr × Obj)} {σ : L2.St} {H : Hp} {s : Shared} {l : Addr} {xs ys : List V} (I : L2.Inv X pins σ H s) (h : SqB b X.K H l xs) (h' : SqB b X.K H l ys) : xs = ys := by
  cases b
  · exact I.tuple_inj h h'
  · exact I.list_inj h h'
def ItK (K : Fg) (b c : Bool) (l k : Addr) : L2.It :=
  ⟨fun i H => ∃ (xs ys : List V) (x y : V), (SqB b K H l xs ∧ SqB c K H k ys) ∧ xs[i]? = some x ∧ ys[i]? = some y,
    fun i H v H' => ∃ T x y, (v = .ref T ∧ H T = none ∧ H' = upd H T (.tup [x, y])) ∧ (∀ xs, SqB b K H l xs → xs[i]? = some x) ∧ ∀ ys, SqB c K H k ys → ys[i]? = some y,
    fun i H => ∃ xs ys : List V, (SqB b K H l xs ∧ SqB c K H k ys) ∧ (xs.length ≤ i ∨ ys.length ≤ i)⟩
theorem five {P : Addr → Prop} {z a b c d : Addr} (hz : P z) (ha : P a) (hb : P b) (hc : P c) (hd : P d) : ∀ x ∈ [z, a, b, c, d], P x := by
  intro x hx
  simp only [List.mem_cons, List.not_mem_nil, or_false] at hx
  rcases hx with rfl | rfl | rfl | rfl | rfl <;> assumption
theorem turnK {P : Program} {w : World} {K : Fg} {elts : List Expr} {kk : Nat} {tpos : Pos} {b c : Bool} {l k z TI TO i j : Addr} (D : ZipApart z TI TO i j l k) :
    L2.Turn P w K (.Tuple elts kk tpos) (ItK K b c l k) [z, TI, TO, i, j] z (fun n h => IsZip h z TI TO .none ∧ IsPair h TI (.ref i) (.ref j) ∧ (∃ x y, IsPair h TO x y) ∧ AtK b h i l n ∧ AtK c h j k n) where
  mem := List.mem_cons_self
  obj := fun n h st => by
    obtain ⟨fz, fI, ⟨x, y, fO⟩, a, d⟩ := st
    obtain ⟨o1, e1, _, d1⟩ := a.has
    obtain ⟨o2, e2, _, d2⟩ := d.has
    refine five ⟨_, fz, fun v q => nomatch q⟩ ⟨_, fI, fun v q => nomatch q⟩ ⟨_, fO, fun v q => nomatch q⟩ ⟨o1, e1, fun v q => ?_⟩ ⟨o2, e2, fun v q => ?_⟩
    · rw [d1] at q; cases q
    · rw [d2] at q; cases q
  keep := fun n h g st f => by
    obtain ⟨fz, fI, ⟨x, y, fO⟩, a, d⟩ := st
    exact ⟨f z (by simp) _ fz, f TI (by simp) _ fI, ⟨x, y, f TO (by simp) _ fO⟩, a.get (f i (by simp)), d.get (f j (by simp))⟩
  item := by
    intro X eP ew eK _ n pins s σ H E I fr st go
    subst eP ew eK
    obtain ⟨fz, fI, ⟨u0, v0, fO⟩, a, d⟩ := st
    obtain ⟨xs, ys, x, y, ⟨qx, qy⟩, hx, hy⟩ := go
    obtain ⟨its, rx, px, _⟩ := qx.get I
    obtain ⟨jts, ry, py, _⟩ := qy.get I
    obtain ⟨u, hu, ru⟩ := rx.get hx
    obtain ⟨v, hv, rv⟩ := ry.get hy
    have lz : z < s.heap.objs.size := Heap.lt_size fz
    refine pyNextK_item D fz fI fO a d px py (x := u) (y := v) (by simpa using hu) (by simpa using hv) fun g fz' fO' a' d' nw sz rest => ?_
    refine ⟨_, rfl, wpAny_letOwnedTupleGo_zip (s := { s with heap := g }) fz' fun g2 fz2 sb => ?_⟩
    have nw2 : g2.get? s.heap.objs.size = some ⟨.type "tuple", none, .seq #[u, v], #[]⟩ := (sb.2 _ (Nat.ne_of_gt lz)).trans nw
    have ok : ObjOk X.prog X.w (upd H s.heap.objs.size (.tup [x, y])) g2 s.heap.objs.size (.tup [x, y]) :=
      ⟨by show 2 ≤ sizeLine; decide, [u, v], .cons ru (.cons rv .nil), _, nw2, rfl, _, rfl⟩
    have out : ∀ {e : Addr} {o : Obj}, e ∉ [z, TI, TO, i, j] → s.heap.get? e = some o → g2.get? e = some o := fun {e o} ne h => by
      simp only [List.mem_cons, List.not_mem_nil, or_false, not_or] at ne
      exact (sb.2 e ne.1).trans (rest e o ne.1 ne.2.2.1 ne.2.2.2.1 ne.2.2.2.2 h)
    have I1 : L2.Inv X pins σ (upd H s.heap.objs.size (.tup [x, y])) { s with heap := g2 } := I.turnedNew (t' := s.toks) (ch := [z, TI, TO, i, j]) (fun e o ne h => out ne h) fr (Nat.le_refl _) ok
    have lt : ∀ e ∈ [z, TI, TO, i, j], e < s.heap.objs.size := five lz (Heap.lt_size fI) (Heap.lt_size fO) (by obtain ⟨_, e, _⟩ := a.has; exact Heap.lt_size e) (by obtain ⟨_, e, _⟩ := d.has; exact Heap.lt_size e)
    refine ⟨.ref s.heap.objs.size, _, I1, rfl, ⟨_, x, y, ⟨rfl, I.hok.fresh (Nat.le_refl _), rfl⟩, fun l hl => ?_, fun l hl => ?_⟩, ⟨fz2, ?_, ⟨u, v, ?_⟩, ?_, ?_⟩, fun e he => ?_⟩
    · rw [hl.inj I qx]; exact hx
    · rw [hl.inj I qy]; exact hy
    · exact (sb.2 _ D.TIz).trans (rest _ _ D.TIz D.TITO D.TIi1 D.TIi2 fI)
    · exact (sb.2 _ D.TOz).trans fO'
    · exact a'.get fun o q => (sb.2 _ D.i1z).trans q
    · exact d'.get fun o q => (sb.2 _ D.i2z).trans q
    · rw [upd_ne (Nat.ne_of_lt (lt e he))]
      exact (fr e he).1
  done := by
    intro X eP ew eK hc n pins s σ H E I fr st stop
    subst eP ew eK
    obtain ⟨fz, fI, ⟨u0, v0, fO⟩, a, d⟩ := st
    obtain ⟨xs, ys, ⟨qx, qy⟩, hend⟩ := stop
    obtain ⟨its, rx, px, _⟩ := qx.get I
    obtain ⟨jts, ry, py, _⟩ := qy.get I
    have l1 := rx.length
    have l2 := ry.length
    have he : its.toArray[n]? = none ∨ jts.toArray[n]? = none := hend.imp (fun q => by simp; omega) fun q => by simp; omega
    refine pyNextK_end (I.ok.hd hc) D fz fI fO a d px py he fun g rest => ⟨rfl, I.turnedL (t' := s.toks) (ch := [z, TI, TO, i, j]) (fun e o ne h => ?_) fr⟩
    simp only [List.mem_cons, List.not_mem_nil, or_false, not_or] at ne
    exact rest e o ne.1 ne.2.2.1 ne.2.2.2.1 ne.2.2.2.2 h
  self := fun A n s Q E st h => wpAny_pyIter_zip st.1 h
def iZipK (K : Fg) (ta : TA) : TI := fun σ H R => ta σ H fun vs H1 => ∃ b c l k xs ys, vs = [V.ref l, V.ref k] ∧ SqB b K H1 l xs ∧ SqB c K H1 k ys ∧ R (ItK K b c l k) H1
theorem piK_zip {X : Cx} {e e2 : Expr} {ta : TA} {p pos tpos : Pos} {elts : List Expr} {kk : Nat} (hg : Gl X "zip") (hm : X.mg "zip" = none) (ha : PA X [e, e2] ta)
    (hs : starEach [e, e2] X.env = (false, eval e X.env) :: starEach [e2] X.env) (hp : (backTo pos (starEach [e2] X.env)).any (·.1) = false) :
    L2.PI X (.Tuple elts kk tpos) (.Call (.Name "zip" p) [e, e2] [] pos) (iZipK X.K ta) := by
  refine ⟨fun pins s σ H R I h => ?_⟩
  refine Call_ (ld_blt I hg hm PyProof.Rows.boot_zip (PyProof.Rows.callWith_type1 (thn (ha.run pos pins s σ H _ I h) fun us s1 hus => ?_) hs hp))
  obtain ⟨vs, H1, I1, r1, b, c, l, k, xs, ys, rfl, qx, qy, q⟩ := hus
  obtain ⟨u, v, rfl, ru, rv⟩ := r1.two
  cases ru
  cases rv
  obtain ⟨its, rx, px, lx⟩ := qx.get I1
  obtain ⟨jts, ry, py, ly⟩ := qy.get I1
  have le : ∀ m, FpOk X pins H1 (s1.heap.objs.size + m) := fun m => I1.fpOk (Nat.le_add_right _ _) (I1.hok.fresh (Nat.le_add_right _ _))
  refine callK_zip px py fun g fz fI fO a d keep => wpAny_pyIter_zip fz ?_
  exact ⟨_, _, _, _, H1, rfl, I1.kept (t' := s1.toks) keep, turnK (PySem.W.ktu_apart s1.heap.objs.size l k lx ly), ⟨fz, fI, ⟨_, _, fO⟩, a, d⟩, five (le 4) (le 2) (le 3) (le 0) (le 1), q⟩
section
variable {K : Fg} {F H : Hp} {σ : Nat → Addr → Prop} {ns ms : List Nat}
theorem walk_zipK {b c : Bool} {l k : Addr} {xs ys : List V} {n : Nat} (hn : n = min xs.length ys.length) : Walk (ItK K b c l k) n (fun H => SqB b K H l xs ∧ SqB c K H k ys) (YPair (fun i => xs[i]?) (fun i => ys[i]?)) where
  goes := fun i H hi q => ⟨xs, ys, xs[i]'(by omega), ys[i]'(by omega), q, List.getElem?_eq_getElem _, List.getElem?_eq_getElem _⟩
  stops := fun H q => ⟨xs, ys, q, by omega⟩
  yields := fun i H v H' _ q y => by
    obtain ⟨T, x, z, ⟨e1, e2, e3⟩, e4, e5⟩ := y
    exact ⟨T, x, z, e1, e2, e3, e4 xs q.1, e5 ys q.2⟩
/-- a sequence that is walked: known, or a list owned by a name of ns -/
def Stand (K : Fg) (b : Bool) (F H : Hp) (σ : Nat → Addr → Prop) (ns : List Nat) (p : Addr) (vs : List V) : Prop := SqB b K F p vs ∨ (b = true ∧ H p = some (.lst vs) ∧ ∃ i ∈ ns, σ i p)
theorem Stand.at {b : Bool} {H1 : Hp} {p : Addr} {vs : List V} (h : Stand K b F H σ ns p vs) (e : Ex F H1) (hA : (H p ≠ none ∧ ∃ i ∈ ns, σ i p) → H1 p = H p) : SqB b K H1 p vs := by
  rcases h with h | ⟨rfl, h, i, hi, z⟩
  · exact h.ex e
  · exact SqL.of (by rw [hA ⟨by rw [h]; simp, i, hi, z⟩]; exact h)
theorem Stand.mono {b : Bool} {F2 H2 : Hp} {p : Addr} {vs : List V} (h : Stand K b F H σ ns p vs) (g : Gr F H F2 H2) (hn : ∀ i ∈ ns, i ∈ ms) : Stand K b F2 H2 σ ms p vs := by
  rcases h with h | ⟨e, h, i, hi, z⟩
  · exact .inl (h.ex g.f)
  · exact .inr ⟨e, g.h _ _ h, i, hn i hi, z⟩
theorem stand_of {F2 H2 : Hp} {v : V} {x : Rv} {xs : List D} (g : Gr F H F2 H2) (hx : RV K H F2 H2 v x) (e : x.sq = some xs) (ho : ∀ xs, x = .bor xs → ∃ i ∈ ns, ∃ a, v = .ref a ∧ σ i a) :
    ∃ b p vs F3, v = .ref p ∧ Gr F H F3 H2 ∧ SqB b K H2 p vs ∧ DvL K F3 vs xs ∧ Stand K b F3 H2 σ ns p vs := by
  have viaL : x.lv = some xs → ∃ b p vs F3, v = .ref p ∧ Gr F H F3 H2 ∧ SqB b K H2 p vs ∧ DvL K F3 vs xs ∧ Stand K b F3 H2 σ ns p vs := fun el => by
    obtain ⟨p, vs, F3, e1, g3, h1, h2, h3⟩ := hold g hx el ho
    refine ⟨true, p, vs, F3, e1, g3, SqL.of h1, h2, ?_⟩
    rcases h3 with h3 | ⟨h3, z⟩
    · exact .inl (SqL.of h3)
    · exact .inr ⟨rfl, h3, z⟩
  cases x with
  | own ys => exact viaL e
  | bor ys => exact viaL e
  | v d =>
    cases d with
    | lst ys => exact viaL e
    | tup ys =>
      have e' : ys = xs := Option.some.inj e
      subst e'
      cases hx with
      | tup a c => exact ⟨false, _, _, F2, rfl, g, ex_t g.s a, c, .inl a⟩
    | scr ks =>
      have e' : ks.map D.int = xs := Option.some.inj e
      subst e'
      cases hx with
      | scr a =>
        refine ⟨true, _, _, F2, rfl, g, ex_l g.s a, ?_, .inl a⟩
        have go : ∀ l : List Int, DvL K F2 (l.map V.int) (l.map D.int) := fun l => by
          induction l with
          | nil => exact .nil
          | cons i r ih => exact .cons (.int i) ih
        exact go ks
    | _ => cases e
theorem walkD_zipK {b c : Bool} {p q : Addr} {vs ws : List V} {xs ys : List D} (hv : DvL K F vs xs) (hw : DvL K F ws ys) (hp : Stand K b F H σ ns p vs) (hq : Stand K c F H σ ns q ws) : WalkD K (ItK K b c p q) F H σ ns (zipL xs ys) := by
  refine ⟨fun H1 => SqB b K H1 p vs ∧ SqB c K H1 q ws, YPair (fun i => vs[i]?) (fun i => ws[i]?), fun a => (a = p ∨ a = q) ∧ H a ≠ none ∧ ∃ i ∈ ns, σ i a, walk_zipK (by rw [zipL_len, hv.len, hw.len]),
    fun H1 e hA => ⟨hp.at e fun z => hA p ⟨.inl rfl, z⟩, hq.at e fun z => hA q ⟨.inr rfl, z⟩⟩, fun a ha => ha.2, fun i H1 x H2 hi _ y F1 e1 e2 => ?_⟩
  obtain ⟨T, a, d, h1, h2, h3, h4, h5⟩ := y
  obtain ⟨m, g1, g2⟩ := hv.getV h4
  obtain ⟨n, g3, g4⟩ := hw.getV h5
  obtain ⟨F2, gg, hd⟩ := pair_dv e2 h2 h3 h1 (g2.up e1) (g4.up e1)
  exact ⟨F2, _, zipL_get xs ys i m n g1 g3, gg, hd⟩
end
section
variable {X : Cx} {G : Gp} {ns ms : List Nat} {m m2 : Env → Out Rv}
theorem pi_zipD {e e2 : Expr} {p pos tpos : Pos} {elts : List Expr} {kk : Nat} (hK : X.K = G.K) (hg : Gl X "zip") (hm : X.mg "zip" = none) (h1 : PE X e (tSr G ns m)) (h2 : PE X e2 (tSr G ms m2))
    (hs1 : starEach (e :: [e2]) X.env = (false, eval e X.env) :: starEach [e2] X.env) (hs2 : starEach (e2 :: []) X.env = (false, eval e2 X.env) :: starEach [] X.env) :
    PI X (.Tuple elts kk tpos) (.Call (.Name "zip" p) [e, e2] [] pos) (tIt G (ns ++ ms) fun env => (m env).bind fun x => (m2 env).bind fun y => zipR x y) := by
  have hpl : (backTo pos (starEach [e2] X.env)).any (·.1) = false := by rw [hs2]; rfl
  refine PI.imp (piK_zip hg hm (pa_cons h1 (pa_cons h2 pa_nil hs2) hs1) hs1 hpl) fun σ H R hq => ?_
  obtain ⟨F0, B, F, env, R0, q⟩ := hq
  rw [Out.wp_bind] at q
  rw [hK]
  refine ⟨F0, B, F, env, R0, Out.wp_mono q (fun x hx v F1 H1 g1 rv ho => ?_) fun _ z => z⟩
  rw [Out.wp_bind] at hx
  cases ex : x.sq with
  | none =>
    refine ⟨F0, B, F1, env, R0.up g1, Out.wp_mono hx (fun y hy u F3 H3 g3 ru ho2 => ?_) fun _ z => z.up g1⟩
    have hy : (zipR x y).wp _ _ := hy
    unfold zipR at hy
    rw [ex] at hy
    exact hy.elim
  | some xs =>
    obtain ⟨b, a, vs, F2, rfl, g2, e1, e2, e3⟩ := stand_of g1 rv ex ho
    refine ⟨F0, B, F2, env, R0.up g2, Out.wp_mono hx (fun y hy u F3 H3 g3 ru ho2 => ?_) fun _ z => z.up g2⟩
    have hy : (zipR x y).wp _ _ := hy
    unfold zipR at hy
    rw [ex] at hy
    cases ey : y.sq with
    | none => rw [ey] at hy; exact hy.elim
    | some ys =>
      rw [ey] at hy
      obtain ⟨c, d, ws, F4, rfl, g4, e4, e5, e6⟩ := stand_of g3 ru ey ho2
      have r1 := e3.mono (ms := ns ++ ms) g4 fun i z => List.mem_append_left _ z
      have r2 : Stand G.K c F4 H3 (owF σ env) (ns ++ ms) d ws := e6.mono (Gr.refl g4.s) fun i z => List.mem_append_right _ z
      exact ⟨b, c, a, d, vs, ws, rfl, e1.ex g4.h, e4, hy _ F4 H3 (g2.trans g4) (walkD_zipK (e2.up g4.f) e5 r1 r2)⟩
end
end Pd
set_option Elab.async false
set_option linter.all false
set_option maxRecDepth 100000
set_option autoImplicit false
set_option maxHeartbeats 4000000
/-! Walks over zip, enumerate, reversed, range; comprehensions. -/
namespace Pd
open PySem PyProof.Rows L2 TL RZ
open Evl (Ex ex_l ex_t)

theorem walk_zipTT {K : Fg} {a b : Addr} {xs ys : List V} {n : Nat} (hn : n = min xs.length ys.length) : Walk (ItzT K a b) n (fun H => SqT K H a xs ∧ SqT K H b ys) (YPair (fun i => xs[i]?) (fun i => ys[i]?)) where
  goes := fun i H hi q => ⟨xs, ys, xs[i]'(by omega), ys[i]'(by omega), q.1, q.2, List.getElem?_eq_getElem _, List.getElem?_eq_getElem _⟩
  stops := fun H q => ⟨xs, ys, q.1, q.2, by omega⟩
  yields := fun i H v H' _ q y => by
    obtain ⟨T, x, z, e1, e2, e3, e4, e5⟩ := y
    exact ⟨T, x, z, e1, e2, e3, e4 xs q.1, e5 ys q.2⟩
section
variable {K : Fg} {F H : Hp} {σ : Nat → Addr → Prop} {ns : List Nat}
theorem walkD_zipT {p q : Addr} {vs ws : List V} {xs ys : List D} (hv : DvL K F vs xs) (hw : DvL K F ws ys) (hp : SqT K F p vs) (hq : SqT K F q ws) : WalkD K (ItzT K p q) F H σ ns (zipL xs ys) := by
  refine ⟨fun H1 => SqT K H1 p vs ∧ SqT K H1 q ws, YPair (fun i => vs[i]?) (fun i => ws[i]?), fun _ => False, ?_,
    fun H1 e hA => ⟨ex_t e hp, ex_t e hq⟩, fun a ha => ha.elim, fun i H1 x H2 hi _ y F1 e1 e2 => ?_⟩
  · exact walk_zipTT (by rw [zipL_len, hv.len, hw.len])
  · obtain ⟨T, a, b, h1, h2, h3, h4, h5⟩ := y
    obtain ⟨d, g1, g2⟩ := hv.getV h4
    obtain ⟨e, g3, g4⟩ := hw.getV h5
    obtain ⟨F2, gg, hd⟩ := pair_dv e2 h2 h3 h1 (g2.up e1) (g4.up e1)
    exact ⟨F2, _, zipL_get xs ys i d e g1 g3, gg, hd⟩
end
section
variable {X : Cx} {G : Gp} {tg : Expr} {ns ms : List Nat} {m m2 : Env → Out Rv}
theorem lv_tup {x : Rv} {xs : List D} (e : x.lv = some xs) : ∀ ys, x ≠ .v (.tup ys) := fun ys z => by rw [z] at e; cases e
theorem pi_enumD {e : Expr} {p pos tpos : Pos} {elts : List Expr} {kk : Nat} (hK : X.K = G.K) (hg : Gl X "enumerate") (hm : X.mg "enumerate" = none) (h1 : PE X e (tSr G ns m))
    (hs1 : starEach (e :: []) X.env = (false, eval e X.env) :: starEach [] X.env) :
    PI X (.Tuple elts kk tpos) (.Call (.Name "enumerate" p) [e] [] pos) (tIt G ns fun env => (m env).bind fun x => .ofO (x.lv.map (enmL 0))) := by
  refine PI.imp (pi_enum hg hm (pa_cons h1 pa_nil hs1) hs1) fun σ H R hq => ?_
  obtain ⟨F0, B, F, env, R0, q⟩ := hq
  rw [Out.wp_bind] at q
  rw [hK]
  refine ⟨F0, B, F, env, R0, Out.wp_mono q (fun x hx v F1 H1 g1 rv ho => ?_) fun _ z => z⟩
  cases ex : x.lv with
  | none => rw [ex] at hx; exact hx.elim
  | some xs =>
    rw [ex] at hx
    obtain ⟨a, vs, F2, rfl, g2, e1, e2, e3⟩ := hold g1 rv ex ho
    exact ⟨a, vs, rfl, SqL.of e1, hx _ F2 H1 g2 (walkD_enm e2 e3)⟩
theorem pi_revD {e : Expr} {p pos : Pos} (hK : X.K = G.K) (hg : Gl X "reversed") (hm : X.mg "reversed" = none) (h1 : PE X e (tSr G ns m))
    (hs1 : starEach (e :: []) X.env = (false, eval e X.env) :: starEach [] X.env) :
    PI X tg (.Call (.Name "reversed" p) [e] [] pos) (tIt G ns fun env => (m env).bind fun x => .ofO (x.lv.map List.reverse)) := by
  refine PI.imp (pi_reversed hg hm (pa_cons h1 pa_nil hs1) hs1) fun σ H R hq => ?_
  obtain ⟨F0, B, F, env, R0, q⟩ := hq
  rw [Out.wp_bind] at q
  rw [hK]
  refine ⟨F0, B, F, env, R0, Out.wp_mono q (fun x hx v F1 H1 g1 rv ho => ?_) fun _ z => z⟩
  cases ex : x.lv with
  | none => rw [ex] at hx; exact hx.elim
  | some xs =>
    rw [ex] at hx
    obtain ⟨a, vs, F2, rfl, g2, e1, e2, e3⟩ := hold g1 rv ex ho
    exact ⟨a, vs, rfl, SqL.of e1, hx _ F2 H1 g2 (walkD_rev e2 e3)⟩
theorem pi_rng1 {a : Expr} {p pos : Pos} {k : Env → Out (List Rv)} (hg : Gl X "range") (hm : X.mg "range" = none) (h1 : PA X [a] (tAr G k)) (hs : starEach [a] X.env = [(false, eval a X.env)]) :
    PI X tg (.Call (.Name "range" p) [a] [] pos) (tIt G [] fun env => (k env).bind fun rs => match rs with | [_] => doRng rs | _ => .stk) := by
  refine PI.imp (pi_range1 hg hm h1 hs) fun σ H R hq => ?_
  obtain ⟨F0, B, F, env, R0, q⟩ := hq
  rw [Out.wp_bind] at q
  refine ⟨F0, B, F, env, R0, Out.wp_mono q (fun rs hx vs F1 H1 g1 rv => ?_) fun _ z => z⟩
  split at hx
  · obtain ⟨v, rfl, hv⟩ := rv.one
    unfold doRng at hx
    split at hx
    · rename_i j e
      have e' := (List.cons.inj e).1
      subst e'
      cases hv
      split at hx
      · rename_i hc
        rw [Bool.and_eq_true] at hc
        have c1 := of_decide_eq_true hc.1
        have c2 := of_decide_eq_true hc.2
        have hl : (lim : Int) < 2 ^ 62 := by decide
        refine ⟨j, rfl, by omega, by omega, hx _ F1 H1 g1 walkD_rng⟩
      · exact hx.elim
    · rename_i e
      cases e
    · rename_i e
      cases e
    · exact hx.elim
  · exact hx.elim
theorem pi_rng2 {a b : Expr} {p pos : Pos} {k : Env → Out (List Rv)} (hg : Gl X "range") (hm : X.mg "range" = none) (h1 : PA X [a, b] (tAr G k)) (hs : starEach [a, b] X.env = [(false, eval a X.env), (false, eval b X.env)]) (hs2 : starEach [b] X.env = [(false, eval b X.env)]) :
    PI X tg (.Call (.Name "range" p) [a, b] [] pos) (tIt G [] fun env => (k env).bind fun rs => match rs with | [_, _] => doRng rs | _ => .stk) := by
  refine PI.imp (pi_range2 hg hm h1 hs hs2) fun σ H R hq => ?_
  obtain ⟨F0, B, F, env, R0, q⟩ := hq
  rw [Out.wp_bind] at q
  refine ⟨F0, B, F, env, R0, Out.wp_mono q (fun rs hx vs F1 H1 g1 rv => ?_) fun _ z => z⟩
  split at hx
  · obtain ⟨v, u, rfl, hv, hu⟩ := rv.two
    unfold doRng at hx
    split at hx
    · rename_i e
      cases e
    · rename_i i j e
      have e1 := (List.cons.inj e).1
      have e2 := (List.cons.inj (List.cons.inj e).2).1
      subst e1 e2
      cases hv
      cases hu
      split at hx
      · rename_i hc
        simp only [Bool.and_eq_true] at hc
        have c1 := of_decide_eq_true hc.1.1.1.1
        have c2 := of_decide_eq_true hc.1.1.1.2
        have c3 := of_decide_eq_true hc.1.1.2
        have c4 := of_decide_eq_true hc.1.2
        exact ⟨i, j, rfl, ⟨by omega, by omega, by omega, by omega⟩, hx _ F1 H1 g1 walkD_rng⟩
      · exact hx.elim
    · rename_i e
      cases e
    · exact hx.elim
  · exact hx.elim
theorem pi_rng3 {a b e : Expr} {p pos : Pos} {k : Env → Out (List Rv)} (hg : Gl X "range") (hm : X.mg "range" = none) (h1 : PA X [a, b, e] (tAr G k)) (hs : starEach [a, b, e] X.env = (false, eval a X.env) :: starEach [b, e] X.env)
    (hpl : (backTo pos (starEach [b, e] X.env)).any (·.1) = false) :
    PI X tg (.Call (.Name "range" p) [a, b, e] [] pos) (tIt G [] fun env => (k env).bind fun rs => match rs with | [_, _, _] => doRng rs | _ => .stk) := by
  refine PI.imp (pi_range3 hg hm h1 hs hpl) fun σ H R hq => ?_
  obtain ⟨F0, B, F, env, R0, q⟩ := hq
  rw [Out.wp_bind] at q
  refine ⟨F0, B, F, env, R0, Out.wp_mono q (fun rs hx vs F1 H1 g1 rv => ?_) fun _ z => z⟩
  split at hx
  · rename_i r1 r2 r3
    match vs, rv with
    | [v1, v2, v3], rv =>
      obtain ⟨hv1, hv2, hv3, _⟩ := rv
      unfold doRng at hx
      split at hx
      · rename_i e; cases e
      · rename_i e; cases e
      · rename_i i j c e
        have e1 := (List.cons.inj e).1
        have e2 := (List.cons.inj (List.cons.inj e).2).1
        have e3 := (List.cons.inj (List.cons.inj (List.cons.inj e).2).2).1
        subst e1 e2 e3
        cases hv1
        cases hv2
        cases hv3
        split at hx
        · rename_i hc
          simp only [Bool.and_eq_true] at hc
          exact ⟨i, j, c, rngN i j c, rfl, ⟨of_decide_eq_true hc.1.1.1.1, of_decide_eq_true hc.1.1.1.2, hc.1.1.2, of_decide_eq_true hc.1.2⟩, hx _ F1 H1 g1 walkD_rngC⟩
        · exact hx.elim
      · exact hx.elim
  · exact hx.elim
end
/-! ### comprehensions -/
abbrev Gp.no (G : Gp) : Gp := { G with W := fun _ _ _ _ => False }
theorem Rep.tono {G : Gp} {F0 B F H : Hp} {σ : L2.St} {env : Env} (R : Rep G F0 B F σ H env) : Rep G.no F0 B F σ H env := ⟨R.g, R.len, R.v, R.o, R.d, R.x⟩
theorem Rep.ofno {G : Gp} {F0 B F H : Hp} {σ : L2.St} {env : Env} (R : Rep G.no F0 B F σ H env) : Rep G F0 B F σ H env := ⟨R.g, R.len, R.v, R.o, R.d, R.x⟩
theorem wipe_len (σ : L2.St) : ∀ vs : List Nat, (wipe σ vs).length = σ.length := wipe_length σ
theorem wipe_in {σ : L2.St} {j : Nat} : ∀ {vs : List Nat}, j ∈ vs → j < σ.length → (wipe σ vs)[j]? = some none
  | [], h, _ => by cases h
  | v :: vs, h, hl => by
    unfold wipe
    by_cases q : v = j
    · subst q
      exact List.getElem?_set_self (by rw [wipe_len]; exact hl)
    · rw [List.getElem?_set_ne q]
      rcases List.mem_cons.mp h with z | z
      · exact absurd z.symm q
      · exact wipe_in z hl
theorem wipe_same {σ σ' : L2.St} {vs ns : List Nat} {env env' : Env} (hl : σ'.length = σ.length) (h : Keeps ns (wipe σ vs) σ' env env') (hs : ∀ i ∈ ns, i ∈ vs) : wipe σ' vs = wipe σ vs := by
  apply List.ext_getElem?
  intro j
  by_cases q : j ∈ vs
  · by_cases hj : j < σ.length
    · rw [wipe_in q hj, wipe_in q (by rw [hl]; exact hj)]
    · rw [List.getElem?_eq_none (by rw [wipe_len, hl]; omega), List.getElem?_eq_none (by rw [wipe_len]; omega)]
  · rw [wipe_out q, (h j fun z => q (hs j z)).1]
theorem Rep.wip {K : Gp} {F0 B F H : Hp} {σ : L2.St} {env : Env} (R : Rep K F0 B F σ H env) : ∀ vs : List Nat, Rep K F0 B F (wipe σ vs) H (wip env vs)
  | [] => R
  | _ :: vs => (Rep.wip R vs).un
def cmpB (t : Tg) (ws : List Nat) (mt : Env → Out Bool) (me : Env → Out Rv) (env : Env) (d : D) : Out (Option D) :=
  match tgt t d (Pd.wip env ws) with
  | some env1 => (mt env1).noX.bind fun k => if k then (((me env1).bind Rv.fz).noX.bind fun x => .ok (some x)) else .ok none
  | none => .stk
def cmpM (t : Tg) (ws : List Nat) (mi : Env → Out (List D)) (mt : Env → Out Bool) (me : Env → Out Rv) (env : Env) : Out Rv :=
  (mi env).bind fun ds => if ds.length ≤ lim then (cmpL (cmpB t ws mt me env) ds).noX.bind fun r => .ok (.own r) else .stk
theorem noX_ok {α : Type} {m : Out α} {a : α} (h : m.noX = .ok a) : m = .ok a := by
  cases m with
  | ok b => exact h
  | exc x => cases h
  | stk => cases h
theorem bind_ok {α β : Type} {m : Out α} {f : α → Out β} {b : β} (h : m.bind f = .ok b) : ∃ a, m = .ok a ∧ f a = .ok b := by
  cases m with
  | ok a => exact ⟨a, rfl, h⟩
  | exc x => cases h
  | stk => cases h
mutual
theorem tgt_len : ∀ (t : Tg) (d : D) (env env1 : Env), tgt t d env = some env1 → env1.length = env.length
  | .nm i, d, env, env1, h => by
    have e := Option.some.inj h
    rw [← e, List.length_set]
  | .tp ts, d, env, env1, h => by
    cases d with
    | tup ds => exact tgtL_lenE ts ds env env1 h
    | _ => cases h
theorem tgtL_lenE : ∀ (ts : List Tg) (ds : List D) (env env1 : Env), tgtL ts ds env = some env1 → env1.length = env.length
  | [], [], env, env1, h => by
    have e := Option.some.inj h
    rw [e]
  | [], _ :: _, _, _, h => by cases h
  | _ :: _, [], _, _, h => by cases h
  | t :: ts, d :: ds, env, env1, h => by
    cases e1 : tgt t d env with
    | none => simp only [tgtL, e1, Option.bind_none] at h; cases h
    | some env2 =>
      simp only [tgtL, e1, Option.bind_some] at h
      rw [tgtL_lenE ts ds env2 env1 h, tgt_len t d env env2 e1]
end
theorem cmp_read {G : Gp} {ns ws : List Nat} {t : Tg} {mi : Env → Out (List D)} {mt : Env → Out Bool} {me : Env → Out Rv} {tt : TT} (htt : ∀ σ H Q, tTs G.no mt σ H Q → tt σ H Q) (hns : ∀ i ∈ t.ns, i ∈ ws) {σ : L2.St} {H : Hp} {Q : VK}
    (h : tOf G (cmpM t ws mi mt me) σ H Q) : tLc (tIt G ns mi) (tTg G.no t) tt (tOf G.no me) ws σ H Q := by
  obtain ⟨F0, B, F, env, R0, q⟩ := h
  unfold cmpM at q
  rw [Out.wp_bind] at q
  refine ⟨F0, B, F, env, R0, Out.wp_mono q (fun ds hd J F1 H1 g1 wk D hD => ?_) fun _ z => z⟩
  split at hd
  · rename_i hlen
    cases ec : cmpL (cmpB t ws mt me env) ds with
    | stk => rw [ec] at hd; exact hd.elim
    | exc x => rw [ec] at hd; exact hd.elim
    | ok r =>
      rw [ec] at hd
      have hd : ∀ v F' H', Gr F H F' H' → RV G.K H F' H' v (.own r) → Q v H' := hd
      obtain ⟨Gd, Y, A, w, hst, hA, hy⟩ := wk.ex
      have hDH : H D = none := back g1.h hD
      refine lc_it w (fun i H2 => ∃ F2 vs acc rest, Gr F H F2 H2 ∧ Ex F1 F2 ∧ Ex H1 H2 ∧ H2 D = some (.lst vs) ∧ F2 D = none ∧ DvL G.K F2 vs acc ∧ acc.length ≤ i ∧ cmpL (cmpB t ws mt me env) (ds.drop i) = .ok rest ∧ r = acc ++ rest) ?_ ?_ ?_ ?_
      · exact ⟨F1, [], [], r, g1.new hD, Ex.refl F1, Ex.new hD, upd_same, back g1.s hD, .nil, Nat.le_refl _, ec, rfl⟩
      · rintro i H2 _ ⟨F2, vs, acc, rest, g2, e1, e2, _⟩
        refine hst H2 (e1.trans g2.s) fun a ha => ?_
        cases qa : H1 a with
        | none => exact absurd qa (hA a ha).1
        | some o => exact e2 a o qa
      · rintro i x H2 H3 hi ⟨F2, vs, acc, rest, g2, e1, e2, e3, e4, e5, e6, e7, e8⟩ hY
        have hGd : Gd H2 := by
          refine hst H2 (e1.trans g2.s) fun a ha => ?_
          cases qa : H1 a with
          | none => exact absurd qa (hA a ha).1
          | some o => exact e2 a o qa
        obtain ⟨F3, d, ed, g3, hdv⟩ := hy i H2 x H3 hi hGd hY F2 e1 g2.s
        obtain ⟨hlt, eg⟩ := List.getElem?_eq_some_iff.mp ed
        rw [List.drop_eq_getElem_cons hlt, eg] at e7
        obtain ⟨o, ho, e7⟩ := bind_ok (show ((cmpB t ws mt me env d).bind fun o => (cmpL (cmpB t ws mt me env) (ds.drop (i + 1))).bind fun r => .ok (optC o r)) = .ok rest from e7)
        obtain ⟨rest', hr', e7⟩ := bind_ok e7
        have e7 : optC o rest' = rest := by cases e7; rfl
        have gA : Gr F H F3 H3 := g2.trans g3
        have RA : Rep G F0 B F3 (wipe σ ws) H3 (Pd.wip env ws) := (R0.up gA).wip ws
        unfold cmpB at ho
        split at ho
        · rename_i env1 et
          obtain ⟨k, hk, ho⟩ := bind_ok ho
          have hk := noX_ok hk
          refine ⟨F0, B, F3, Pd.wip env ws, d, env1, RA.tono, hdv, et, fun σ2 R2 kp => ⟨wipe_same ?_ kp hns, htt _ _ _ ⟨F0, B, F3, env1, R2, ?_⟩⟩⟩
          · have h1 := R2.len
            have h2 := RA.len
            rw [← h1]
            have h3 := wipe_len σ ws
            rw [← h3, ← h2]
            exact tgt_len _ _ _ _ et
          · rw [hk]
            rintro b F5 H5 g5 rfl
            have Ex25 : Ex H2 H5 := g3.h.trans g5.h
            split at ho
            · rename_i hb
              rw [if_pos hb]
              obtain ⟨dx, hdx, ho⟩ := bind_ok ho
              have hdx := noX_ok hdx
              obtain ⟨rx, hrx, hfz⟩ := bind_ok hdx
              have eo : some dx = o := by cases ho; rfl
              subst eo
              refine ⟨F0, B, F5, env1, R2.up g5, ?_⟩
              rw [hrx]
              intro y F6 H6 g6 rv
              obtain ⟨F7, g7, hv⟩ := rv.known g6 hfz
              have gT : Gr F2 H2 F7 H6 := (g3.trans g5).trans g7
              have hFD : F7 D = none := by
                cases qd : F7 D with
                | none => rfl
                | some oo => have := gT.n D e4 (by rw [qd]; simp); rw [e3] at this; cases this
              refine ⟨vs, gT.h _ _ e3, ?_, F7, vs ++ [y], acc ++ [dx], rest', (g2.trans gT).mut hFD hDH, e1.trans gT.f, Ex.mut (e2.trans gT.h) hD, upd_same, hFD, (e5.up gT.f).app (.cons hv .nil), ?_, hr', ?_⟩
              · rw [e5.len, lim_eq]; omega
              · rw [List.length_append]; show acc.length + 1 ≤ i + 1; omega
              · rw [e8, ← e7, List.append_assoc]; rfl
            · rename_i hb
              rw [if_neg hb]
              have eo : none = o := by cases ho; rfl
              subst eo
              have gT : Gr F2 H2 F5 H5 := g3.trans g5
              have hFD : F5 D = none := by
                cases qd : F5 D with
                | none => rfl
                | some oo => have := gT.n D e4 (by rw [qd]; simp); rw [e3] at this; cases this
              exact ⟨F5, vs, acc, rest', g2.trans gT, e1.trans gT.f, e2.trans gT.h, gT.h _ _ e3, hFD, e5.up gT.f, by omega, hr', by rw [e8, ← e7]; rfl⟩
        · cases ho
      · rintro H2 ⟨F2, vs, acc, rest, g2, e1, e2, e3, e4, e5, e6, e7, e8⟩
        rw [List.drop_length] at e7
        have e9 : [] = rest := by cases e7; rfl
        subst e9
        rw [List.append_nil] at e8
        subst e8
        exact hd _ F2 H2 g2 ⟨D, vs, rfl, e3, e4, hDH, e5⟩
  · exact hd.elim
end Pd
set_option Elab.async false
set_option linter.all false
set_option maxRecDepth 100000
set_option autoImplicit false
set_option maxHeartbeats 4000000
/-! Calls of defs, where no repr is under way (the guards are empty). -/
namespace Pd
open PySem PyProof.Rows L2 TL RZ
open Evl (Ex ex_l ex_t)

/-- a def's promise on data -/
def spOf (G : Gp) (m : List D → Out Rv) : Sp := fun vs H Q E => ∃ F ds, Ex F H ∧ DvL G.K F vs ds ∧
  (m ds).wp (fun r => ∀ v F' H', Gr F H F' H' → RV G.K H F' H' v r → Q v H') (fun x => ∀ cls d F' H', Gr F H F' H' → XR G x cls d F' H' → E cls d H')
/-- a def keeps a promise, by at most k calls one in another -/
structure FnG (P : Program) (w : World) (K : Fg) (mg : Str → Option Value) (base : Heap) (k : Nat) (f : Addr) (fd : FuncData) (ps : List Str) (sp : Sp) : Prop where
  len : ∀ vs H Q E, sp vs H Q E → vs.length = ps.length
  go : ∀ (A : Around) (outer : List PySem.Env) (s : Shared) (H : Hp) (args : Args) (us : List Value) (vs : List V) (Q : VK) (E : XK), A.guards = some [] → Room k A → Env0 P w K mg base A outer s H →
    BindsTo s fd args (ps.zip us) → Vals vs us → sp vs H Q E → codeAny (model P w) A (.call (.ref f) args) (CR (L2.CX P w) outer P w H s Q E) s
section
variable {P : Program} {w : World} {K : Fg} {mg : Str → Option Value} {base : Heap}
theorem guards_deeper {A : Around} {env : PySem.Env} (h : A.guards = some []) : (A.deeper env).guards = some [] := h
/-- the rule for a def, by its body -/
theorem fnG_of {k : Nat} {f : Addr} {name qual : Str} {pr : Arguments} {body : List Stmt} {sc : Scope} {dV kV doc pm cdv ct oc : Value} {an od : Option Addr} {osl : Array (Option Value)} {N ps : List Str} {sp : Sp}
    (look : K.lookup f = some ⟨oc, od, .func (PySem.W.fnOf name qual pr body sc dV kV doc pm an cdv ct), osl⟩) (hcode : PySem.W.codeIn K cdv qual = true) (S : FnScope N ps sc) (len : ∀ vs H Q E, sp vs H Q E → vs.length = ps.length)
    (hb : ∀ (A : Around) (outer : List PySem.Env) (s : Shared) (H : Hp) (vs : List V) (Q : VK) (E : XK), A.guards = some [] → Room k (A.deeper (envOfC qual sc s.heap.objs.size f cdv)) → sp vs H Q E →
      ∃ t, PSs (cxOf (L2.CX P w) P w K mg base N qual sc f cdv A outer s H E) body t ∧ t { nx := fun _ H' => Q .non H', rt := Q } (start N vs) H) :
    FnG P w K mg base (k + 1) f (PySem.W.fnOf name qual pr body sc dV kV doc pm an cdv ct) ps sp := by
  constructor
  · exact len
  intro A outer s H args us vs Q E hgd room ent bind vals hsp
  have hvl := len _ _ _ _ hsp
  have inK : K.In s.heap := ent.mod.kin.keeps fun a o h => (ent.bs a o h).1
  have nolim : s.heap.NoLimit := ent.mod.nolimit.keeps fun a o h => (ent.bs a o h).1
  have kinds : ∀ y ∈ ps.zip us, sc.names.lookup y.1 = some .local ∨ (sc.names.lookup y.1 = some .cell ∧ ((cellsFrom (s.heap.objs.size + 1) sc.names []).lookup y.1).isSome = true) := by
    rintro ⟨nm, val⟩ hmem
    have q := S.par nm (List.of_mem_zip hmem).1
    cases q with
    | inl q => exact .inl q
    | inr q => exact .inr ⟨q, PySem.W.cellsFrom_some _ _ _ (.inl q)⟩
  refine codeAny_call_function room.depth (inK _ _ look) rfl S.co S.gen rfl (PySem.W.codeRec_of inK hcode) (bind _ _ _ _ (wpAny_newFunctionEnv_cells S.kind kinds fun env0 henv s1 entered => ?_))
  subst henv
  refine ⟨nolim.keeps entered.toInCall.keep, codeAny_func ?_⟩
  obtain ⟨t, hbody, hq⟩ := hb A outer s H vs Q E hgd (room.deeper _) hsp
  have J : L2.Inv (cxOf (L2.CX P w) P w K mg base N qual sc f cdv A outer s H E) [] (start N vs) H s1 := inv_start S room.hd ent hvl vals entered
  have ret : ∀ {σ' : L2.St} {H' : Hp} {v : V} {u : Value} {s' : Shared}, L2.Inv (cxOf (L2.CX P w) P w K mg base N qual sc f cdv A outer s H E) [] σ' H' s' → L2.RelV v u → Q v H' → CE outer P w H s Q u s' := by
    intro σ' H' v u s' I rv q
    exact ⟨v, H', I.os, I.bare, I.base, I.hok, rv, q⟩
  refine wpAny_mono (hbody.run [] s1 (start N vs) H _ J hq) ?_ fun _ _ hs => hs
  intro fl s' hs
  match fl, hs with
  | .ret u, hs =>
    obtain ⟨v, σ', H', I, rv, q⟩ := hs
    exact ret I rv q
  | .next, hs =>
    obtain ⟨σ', H', I, q⟩ := hs
    exact ret (v := V.non) (u := Value.none) I rfl q
  | .brk, hs => exact (show False from by obtain ⟨_, _, _, q⟩ := hs; exact q).elim
  | .cont, hs => exact (show False from by obtain ⟨_, _, _, q⟩ := hs; exact q).elim
end
section
variable {X : Cx} {G : Gp} {k : Nat} {f : Addr} {fd : FuncData} {ps : List Str} {x : Str} {p pos : Pos} {m : List D → Out Rv}
theorem run_G {pins : List (Addr × Obj)} {σ : L2.St} {H : Hp} {s : Shared} {Q : VK} {us : List Value} {vs : List V} {ds : List Value} {dvs : List V} (hF : FnG X.prog X.w X.K X.mg X.base k f fd ps (spOf G m)) (hgd : X.A.guards = some []) (hr : Room k X.A)
    (hb : Binds X.K fd ps ds) (hd : Vals dvs ds) (tk : Takes X G.W) (I : L2.Inv X pins σ H s) (r : Vals vs us) (h : spOf G m (vs ++ dvs) H Q fun cls d H' => G.W cls d σ H') : wpAny (model X.prog X.w) X.A (call (.ref f) us) (EP X pins σ Q) X.xe s := by
  have r' : Vals (vs ++ dvs) (us ++ ds) := r.append hd
  have e : (us ++ ds).length = ps.length := by rw [← r'.length]; exact hF.len _ _ _ _ h
  refine wpAny_call (codeAny_mono (hF.go X.A X.stack s H ⟨us, []⟩ (us ++ ds) (vs ++ dvs) Q _ hgd hr I.env0 (hb s us I.kIn e) r' h) ?_)
  intro res s' hres
  match res, hres with
  | .error ev, hres => exact tk ev s' (XE.of_call I (fun cls d H' z => z) hres)
  | .ok (.ret u), hres => exact I.after hres
  | .ok .next, hres => exact hres.elim
  | .ok .brk, hres => exact hres.elim
  | .ok .cont, hres => exact hres.elim
theorem call_G {e : Expr} {es : List Expr} {ma : Env → Out (List D)} {dd : List D} {ds : List Value} {dvs : List V} (hK : X.K = G.K) (hF : FnG X.prog X.w X.K X.mg X.base k f fd ps (spOf G m)) (hgd : X.A.guards = some []) (hr : Room k X.A) (hg : Gl X x) (hm : X.mg x = some (.ref f))
    (hk : PySem.W.keepIn X.K (.ref f) = true) (hb : Binds X.K fd ps ds) (hd : Vals dvs ds) (hdd : ∀ F, DvL G.K F dvs dd) (tk : Takes X G.W) (ha : PA X (e :: es) (tAD G ma)) (hdb : (x == ("__debug__" : Str)) = false)
    (hs : starEach (e :: es) X.env = (false, eval e X.env) :: starEach es X.env) (hpl : (backTo pos (starEach es X.env)).any (·.1) = false) :
    PE X (.Call (.Name x p) (e :: es) [] pos) (tOf G fun env => (ma env).bind fun xs => m (xs ++ dd)) := by
  refine ⟨fun pins s σ H Q I h => wpAny_Call_Name_kw (ld_glob I hg hm ?_ hdb)⟩
  have h' : tAD G ma σ H fun vs H1 => spOf G m (vs ++ dvs) H1 Q fun cls d H' => G.W cls d σ H' := by
    obtain ⟨F0, B, F, env, R0, q⟩ := h
    rw [Out.wp_bind] at q
    refine ⟨F0, B, F, env, R0, Out.wp_mono q (fun xs hx vs F1 H1 g1 hv => ?_) fun _ z => z⟩
    exact ⟨F1, xs ++ dd, g1.s, DvL.app hv (hdd F1), Out.wp_mono hx (fun rr hrr v F' H' g' rv => hrr v F' H' (g1.trans g') (rv.old g1.h)) fun xx hxx cls d F' H' g' xr => hxx cls d F' H' (g1.trans g') xr⟩
  refine PySem.W.callWith_K (h₀ := X.base) I.ok.mod.kin hk (thn (ha.run pos pins s σ H _ I h') ?_) hs hpl
  intro us s1 hus
  obtain ⟨vs, H1, I1, r1, q1⟩ := hus
  exact ⟨I1.kIn, run_G hF hgd hr hb hd tk I1 r1 q1⟩
theorem call_G0 {dd : List D} {ds : List Value} {dvs : List V} (hK : X.K = G.K) (hF : FnG X.prog X.w X.K X.mg X.base k f fd ps (spOf G m)) (hgd : X.A.guards = some []) (hr : Room k X.A) (hg : Gl X x) (hm : X.mg x = some (.ref f))
    (hk : PySem.W.keepIn X.K (.ref f) = true) (hb : Binds X.K fd ps ds) (hd : Vals dvs ds) (hdd : ∀ F, DvL G.K F dvs dd) (tk : Takes X G.W) (hdb : (x == ("__debug__" : Str)) = false) :
    PE X (.Call (.Name x p) [] [] pos) (tOf G fun _ => m dd) := by
  refine ⟨fun pins s σ H Q I h => wpAny_Call_Name_kw (ld_glob I hg hm ?_ hdb)⟩
  obtain ⟨F0, B, F, env, R0, q⟩ := h
  exact PySem.W.callWith_K0 I.kIn hk (run_G (us := []) (vs := []) hF hgd hr hb hd tk I .nil ⟨F, dd, R0.g.s, hdd F, q⟩)
end
end Pd
set_option Elab.async false
set_option linter.all false
set_option maxRecDepth 100000
set_option autoImplicit false
set_option maxHeartbeats 4000000
/-! Exceptions: their fields, isinstance of them, their making. -/
namespace Pd
open PySem PyProof.Rows L2 TL RZ
open Evl (Ex ex_l ex_t)

/-- what is known of an own class of errors -/
structure XcC (K : Fg) (flds : List Str) (C : Addr) : Prop where
  xf : XfC K C
  ec : ExcC K C
  no : ∀ f ∈ flds, PySem.W.findIn K (.ref C) f = some none

/-- isinstance(e, c), e the exception that the suite holds -/
def rIsX (K : Fg) (D a : Addr) (d : Option Addr) : List V → Hp → VK → Prop := fun xs H Q => ∃ (c : V) (cv : Value) (b : Bool), xs = [.ref a, c] ∧ ClsV c cv ∧ PySem.W.kitOne K (.ref D) cv = some b ∧ (d = none ∨ ∃ dx fs, d = some dx ∧ H dx = some (.xd fs)) ∧ Q (.bl b) H
theorem call_isX {X : Cx} {a D : Addr} {d : Option Addr} {oe : Obj} {pn : List (Addr × Obj)} (C : ExcC X.K D) (hz : Zc (.ref D) d oe) (hf : ∃ vs, oe.data = .fields vs) : CallR (X.suite a ((a, oe) :: pn)) (.builtin "isinstance") (rIsX X.K D a d) := by
  intro pins s σ H xs us Q I r h
  obtain ⟨c, cv, b, rfl, hcv, e, hd, q⟩ := h
  obtain ⟨u1, u2, rfl, r1, r2⟩ := vals2 r
  cases (show u1 = Value.ref a from r1)
  have ec := hcv.eq r2
  subst ec
  obtain ⟨hget, _⟩ := I.pin (a, oe) (List.mem_append.mpr (.inl List.mem_cons_self))
  obtain ⟨vs, hv⟩ := hf
  have hcl : (PySem.W.clsIn X.K D).isSome = true := by
    obtain ⟨cd, h1, _⟩ := PySem.W.any_some C.hd
    rw [h1]
    rfl
  have fin : ∀ od, PySem.W.InstAt s.heap a oe D od → wpAny (model X.prog X.w) (X.suite a ((a, oe) :: pn)).A (call (.builtin "isinstance") [.ref a, u2]) (EP (X.suite a ((a, oe) :: pn)) pins σ Q) (X.suite a ((a, oe) :: pn)).xe s := fun od J =>
    PySem.W.kia_one (PySem.W.kitx_exc (od := od) (ox := oe) hcl C.hg C.hk C.hs C.ha C.hn C.ht C.hm) I.kIn J e (fun z => nomatch z) fun tk => ⟨.bl b, H, I.tok tk, rfl, q⟩
  rcases hd with rfl | ⟨dx, fs, rfl, hx⟩
  · refine fin none ⟨hget, hz.1, by unfold PySem.W.notCls; rw [hv] <;> rfl, ?_⟩
    rw [hz.2]
    trivial
  · obtain ⟨mA, hns, _⟩ := (show ObjOk X.prog X.w H s.heap dx (.xd fs) from I.hok dx _ hx)
    obtain ⟨od, ho, _⟩ := lookIn_ns hns
    exact fin (some od) ⟨hget, hz.1, by unfold PySem.W.notCls; rw [hv] <;> rfl, by rw [hz.2]; exact ho⟩
theorem xf_look {K : Fg} {F : Hp} {f : Str} {d : D} : ∀ {fs : List (Str × V)} {gs : List (Str × D)}, fs.map (·.1) = gs.map (·.1) → DvL K F (fs.map (·.2)) (gs.map (·.2)) → gs.lookup f = some d → ∃ v, fs.lookup f = some v ∧ Dv K F v d
  | [], [], _, _, h => by cases h
  | [], _ :: _, e, _, _ => by cases e
  | _ :: _, [], e, _, _ => by cases e
  | (x, v) :: fs, (y, d') :: gs, e, r, h => by
    have e1 : x = y := (List.cons.inj e).1
    subst e1
    cases r with
    | cons r1 r2 =>
      rw [List.lookup_cons] at h ⊢
      cases q : (f == x) with
      | true =>
        rw [q] at h
        have h' : d' = d := Option.some.inj h
        subst h'
        exact ⟨v, rfl, r1⟩
      | false =>
        rw [q] at h
        exact xf_look (List.cons.inj e).2 r2 h
section
variable {G : Gp} {σ : L2.St} {H : Hp} {i : Nat}
/-- the reading of a field -/
theorem fld_read {f : Str} {Q : VK} (h : tOf G (fun env => fldO env i f) σ H Q) : ∃ a C d ci, G.xa = some (i, a, C, d) ∧ G.ct ci = some C ∧ tXf a (.ref C) d C f (tVar i) σ H Q := by
  obtain ⟨F0, B, F, env, R, q⟩ := h
  have q : (fldO env i f).wp _ _ := q
  unfold fldO at q
  split at q
  · rename_i y hy
    split at q
    · rename_i d hd
      obtain ⟨a, C, dx, h1, h2, h3, h4⟩ := R.x i y hy
      refine ⟨a, C, dx, y.c, h1, h3, _, h2, rfl, rfl, ?_⟩
      rcases h4 with ⟨h4, _⟩ | ⟨dd, fs, e1, e2, e3, e4⟩
      · rw [h4] at hd; cases hd
      · obtain ⟨v, g1, g2⟩ := xf_look e3 e4 hd
        exact ⟨dd, fs, v, e1, e2, g1, q v F H (Gr.refl R.g.s) g2⟩
    · exact q.elim
  · exact q.elim
/-- the reading of isinstance -/
theorem isX_read {l : List Nat} {Q : VK} (h : tOf G (fun env => isO env i l) σ H Q) : ∃ a C d ci, G.xa = some (i, a, C, d) ∧ G.ct ci = some C ∧
    ((d = none ∨ ∃ dx fs, d = some dx ∧ H dx = some (.xd fs)) ∧ σ[i]? = some (some (.ref a)) ∧ Q (.bl (l.contains ci)) H) := by
  obtain ⟨F0, B, F, env, R, q⟩ := h
  have q : (isO env i l).wp _ _ := q
  unfold isO at q
  split at q
  · rename_i y hy
    obtain ⟨a, C, dx, h1, h2, h3, h4⟩ := R.x i y hy
    refine ⟨a, C, dx, y.c, h1, h3, ?_, h2, q _ F H (Gr.refl R.g.s) (.bl _)⟩
    rcases h4 with ⟨_, h4⟩ | ⟨dd, fs, e1, e2, e3, e4⟩
    · exact .inl h4
    · exact .inr ⟨dd, fs, e1, e2⟩
  · exact q.elim
end

/-! ### the making of an exception: __init__ stores its parameters -/
def initB : List Str → List Stmt → Bool
  | [], [] => true
  | f :: fs, .Assign [.Attribute (.Name s p1) g p2] (.Name h p3) pos :: r => (s == ("self" : Str)) && (g == f) && (h == f) && (!(f == ("__debug__" : Str))) && (!(f == ("__classdict__" : Str))) && initB fs r
  | _, _ => false
def tInit (K : Fg) : Nat → List Str → TS
  | _, [] => tNext
  | j, f :: fs => tSeq (tOst K f (tVar 0) (tVar j)) (tInit K (j + 1) fs)
theorem init_ps {X : Cx} {N : List Str} (hN : X.N = N) (h0 : N[0]? = some (Str.ofString "self")) (hv : ∀ x ∈ N, Vis X.env.scope x) : ∀ (fs : List Str) (j : Nat) (b : List Stmt), (∀ i f, fs[i]? = some f → N[j + i]? = some f) → initB fs b = true → PSs X b (tInit X.K j fs)
  | [], j, b, _, h => by
    cases b with
    | nil => exact pss_nil
    | cons s r => cases h
  | f :: fs, j, b, hN', h => by
    unfold initB at h
    split at h
    · rename_i e
      cases e
    · rename_i f' fs' s p1 g p2 hn p3 pos r e
      cases e
      simp only [Bool.and_eq_true] at h
      obtain ⟨⟨⟨⟨⟨h1, h2⟩, h3⟩, h4⟩, h5⟩, h6⟩ := h
      have e1 : s = "self" := by simpa using h1
      have e2 : g = f := by simpa using h2
      have e3 : hn = f := by simpa using h3
      subst e1 e2 e3
      have hf := hN' 0 _ rfl
      rw [Nat.add_zero] at hf
      have v0 : PE X (.Name "self" p1) (tVar 0) := pe_var (by rw [hN]; exact h0) (hv _ (List.mem_of_getElem? h0)) (by decide) (by decide)
      have v1 : PE X (.Name hn p3) (tVar j) := pe_var (by rw [hN]; exact hf) (hv _ (List.mem_of_getElem? hf)) (by simpa using h4) (by simpa using h5)
      exact pss_cons (ps_ost v0 v1) (init_ps hN h0 hv fs (j + 1) r (fun i x hx => by rw [show j + 1 + i = j + (i + 1) by omega]; exact hN' (i + 1) x hx) h6)
    · cases h
def spI (K : Fg) (nm : List Str) : Sp := fun vs H Q E => ∃ (a C : Addr) (ws : List V), vs = .ref a :: ws ∧ ws.length = nm.length ∧ OexC K C ∧ (∀ f ∈ nm, PySem.W.findIn K (.ref C) f = some none) ∧ H a = some (exo a C none) ∧
  ∀ d, H d = none → d ≠ a → Q .non (upd (upd H d (exd d (nm.zip ws).reverse)) a (exo a C (some d)))
section
variable {K : Fg} {a C d : Addr} {σ : L2.St} {D : Ends}
theorem upd_self {H : Hp} {d : Addr} {o : HO} (h : H d = some o) : upd H d o = H := by
  funext b
  by_cases e : b = d
  · rw [e, upd_same, h]
  · rw [upd_ne e]
theorem upd_upd {H : Hp} {d : Addr} {o u : HO} : upd (upd H d o) d u = upd H d u := by
  funext b
  by_cases e : b = d
  · rw [e, upd_same, upd_same]
  · rw [upd_ne e, upd_ne e, upd_ne e]
theorem upd_swap {H : Hp} {d a : Addr} {o u : HO} (h : d ≠ a) : upd (upd H d o) a u = upd (upd H a u) d o := by
  funext b
  by_cases e : b = a
  · subst e
    rw [upd_same, upd_ne (Ne.symm h), upd_same]
  · rw [upd_ne e]
    by_cases e2 : b = d
    · subst e2; rw [upd_same, upd_same]
    · rw [upd_ne e2, upd_ne e2, upd_ne e]
theorem init_rest (T : OexC K C) (hs : σ[0]? = some (some (.ref a))) (hda : d ≠ a) : ∀ (fs : List Str) (ws : List V) (j : Nat) (acc : List (Str × V)) (H : Hp), (∀ f ∈ fs, PySem.W.findIn K (.ref C) f = some none) → (∀ i w, ws[i]? = some w → σ[j + i]? = some (some w)) → ws.length = fs.length →
    H a = some (exo a C (some d)) → H d = some (exd d acc) → acc.length + fs.length ≤ 900 → D.nx σ (upd H d (exd d ((fs.zip ws).reverse ++ acc))) → tInit K j fs D σ H
  | [], ws, j, acc, H, _, _, _, _, hd, _, q => by
    have q : D.nx σ (upd H d (exd d acc)) := q
    rw [upd_self hd] at q
    exact q
  | f :: fs, [], j, acc, H, _, _, hl, _, _, _, _ => by cases hl
  | f :: fs, w :: ws, j, acc, H, hno, hw, hl, ha, hd, hacc, q => by
    rw [List.length_cons] at hacc
    have hw0 := hw 0 w rfl
    rw [Nat.add_zero] at hw0
    refine ⟨w, hw0, _, hs, a, C, rfl, T, hno f (List.mem_cons_self ..), .inr ⟨d, acc, ha, hd, by omega, ?_⟩⟩
    refine init_rest T hs hda fs ws (j + 1) ((f, w) :: acc) _ (fun g hg => hno g (List.mem_cons_of_mem _ hg)) (fun i x hx => by rw [show j + 1 + i = j + (i + 1) by omega]; exact hw (i + 1) x hx) (Nat.succ.inj hl) ?_ upd_same (by rw [List.length_cons]; omega) ?_
    · rw [upd_ne (Ne.symm hda)]; exact ha
    · rw [upd_upd]
      rw [List.zip_cons_cons, List.reverse_cons, List.append_assoc] at q
      exact q
end
theorem init_ok {P : Program} {w : World} {K : Fg} {mg : Str → Option Value} {base : Heap} {fI : Addr} {qual : Str} {st : Stmt} {fd : FuncData} {nm : List Str} (F : L2.Fun K "__init__" qual st fI fd) (S : FnScope ("self" :: nm) ("self" :: nm) (defScope st))
    (hne : nm ≠ []) (hl : nm.length ≤ 900) (hb : initB nm (defBody st) = true) : FnOk P w K mg base (L2.CX P w) 1 fI fd ("self" :: nm) (spI K nm) := by
  refine F.okX S (fun vs H Q E h => ?_) fun cdv A outer s H vs Q E hr h => ⟨tInit K 1 nm, ?_, ?_⟩
  · obtain ⟨a, C, ws, rfl, h, _⟩ := h
    rw [List.length_cons, List.length_cons, h]
  · exact init_ps (N := "self" :: nm) rfl rfl (fun x hx => (S.par x hx).elim .inl fun z => .inr (.inl z)) nm 1 _ (fun i f hf => by rw [Nat.add_comm]; exact hf) hb
  · obtain ⟨a, C, ws, rfl, hlen, T, hno, ha, q⟩ := h
    match nm, ws, hne, hlen, hno, q, hl with
    | f :: fs, w0 :: ws, _, hlen, hno, q, hl =>
      have get : ∀ (i : Nat) (u : V), (V.ref a :: w0 :: ws)[i]? = some u → (L2.start ("self" :: f :: fs) (V.ref a :: w0 :: ws))[i]? = some (some u) := fun i u hu => by
        unfold L2.start
        rw [List.getElem?_append_left (by rw [List.length_map]; exact (List.getElem?_eq_some_iff.mp hu).1), List.getElem?_map, hu]
        rfl
      refine ⟨w0, get 1 _ rfl, _, get 0 _ rfl, a, C, rfl, T, hno f (List.mem_cons_self ..), .inl ⟨ha, fun d hd hda => ?_⟩⟩
      refine init_rest T (get 0 _ rfl) hda fs ws 2 [(f, w0)] _ (fun g hg => hno g (List.mem_cons_of_mem _ hg)) (fun i x hx => get (2 + i) x (by rw [show 2 + i = (i + 1) + 1 by omega]; exact hx)) (Nat.succ.inj hlen) upd_same ?_ ?_ ?_
      · rw [upd_ne hda, upd_same]
      · rw [List.length_cons] at hl
        show 1 + fs.length ≤ 900
        omega
      · have q' := q d hd hda
        rw [List.zip_cons_cons, List.reverse_cons] at q'
        have e : ∀ o1 o2 u, upd (upd (upd H d o1) a u) d o2 = upd (upd H d o2) a u := fun o1 o2 u => by
          rw [upd_swap hda, upd_upd, ← upd_swap hda]
        show Q .non (upd (upd (upd H d _) a _) d _)
        rw [e]
        exact q'
/-- what is known of a class that is raised -/
structure MkC (X : Cx) (x : Str) (nm : List Str) (C : Addr) : Prop where
  o : OexC X.K C
  no : ∀ f ∈ nm, PySem.W.findIn X.K (.ref C) f = some none
  mg : X.mg x = some (.ref C)
  ini : ∃ fI fd, PySem.W.findIn X.K (.ref C) "__init__" = some (some (.ref fI)) ∧ PySem.W.typeIn X.K (.ref fI) = some (.type "function") ∧ FnOk X.prog X.w X.K X.mg X.base (L2.CX X.prog X.w) 1 fI fd ("self" :: nm) (spI X.K nm) ∧ Binds X.K fd ("self" :: nm) []
  ln : nm.length ≤ 900
end Pd
set_option Elab.async false
set_option linter.all false
set_option maxRecDepth 100000
set_option autoImplicit false
set_option maxHeartbeats 4000000
/-! From the program's expressions to E (trE), and what that says (PE of evE). -/
namespace Pd
open PySem PyProof.Rows L2 TL RZ
open Evl (Ex ex_l ex_t)

/-- where one stands: the names by slot, the scope, which names may be stored, the defs by name (place in the table, arguments, defaults), constants of the module; in an except suite?; the fields of errors; the classes that are raised (place, fields); the classes that are asked of errors (which places) -/
structure Sc where
  N : List Str
  sc : Scope
  fn : Str → Bool
  ft : Str → Option (Nat × Nat × List D)
  gt : Str → Option D
  sup : Bool := false
  flds : List Str := []
  et : Str → Option (Nat × List Str) := fun _ => none
  xt : Str → Option (List Nat) := fun _ => none
def ixOf : List Str → Str → Option Nat
  | [], _ => none
  | a :: r, x => if a = x then some 0 else (ixOf r x).map (· + 1)
theorem ixOf_get : ∀ {N : List Str} {x : Str} {i : Nat}, ixOf N x = some i → N[i]? = some x
  | [], _, _, h => by cases h
  | a :: r, x, i, h => by
    unfold ixOf at h
    split at h
    · rename_i e
      have e' := Option.some.inj h
      rw [← e', e]
      rfl
    · cases q : ixOf r x with
      | none => rw [q] at h; cases h
      | some j =>
        rw [q] at h
        have e' : j + 1 = i := Option.some.inj h
        rw [← e']
        exact ixOf_get (N := r) q
def visB (sc : Scope) (x : Str) : Bool :=
  match sc.names.lookup x with
  | some .local => true
  | some .cell => true
  | some .free => true
  | _ => false
theorem visB_ok {sc : Scope} {x : Str} (h : visB sc x = true) : Vis sc x := by
  unfold visB at h
  split at h
  · exact .inl (by assumption)
  · exact .inr (.inl (by assumption))
  · exact .inr (.inr (by assumption))
  · cases h
def glB (sc : Scope) (x : Str) : Bool :=
  match sc.names.lookup x with
  | some .globalImplicit => true
  | _ => false
theorem glB_ok {sc : Scope} {x : Str} (h : glB sc x = true) : sc.names.lookup x = some .globalImplicit := by
  unfold glB at h
  split at h
  · assumption
  · cases h
def locB (c : Sc) (x : Str) : Bool :=
  match c.sc.names.lookup x with
  | some .local => true
  | some .cell => c.fn x
  | _ => false
def nmB (x : Str) : Bool := !(x == ("__debug__" : Str)) && !(x == ("__classdict__" : Str))
theorem nmB_ok {x : Str} (h : nmB x = true) : (x == ("__debug__" : Str)) = false ∧ (x == ("__classdict__" : Str)) = false := by
  unfold nmB at h
  rw [Bool.and_eq_true] at h
  exact ⟨by simpa using h.1, by simpa using h.2⟩

/-! ### syntax -/
def bopOf : Operator → Option BOp
  | .Add => some .add | .Sub => some .sub | .Mult => some .mul | .FloorDiv => some .fdiv | .Mod => some .mod | .Pow => some .pow | _ => none
theorem bopOf_ok {o : Operator} {b : BOp} (h : bopOf o = some b) : o = opOf b := by
  cases o <;> first | (cases h; rfl) | cases h
def copOf : CmpOp → Option COp
  | .Eq => some .eq | .NotEq => some .ne | .Lt => some .lt | .LtE => some .le | .Gt => some .gt | .GtE => some .ge | .Is => some .isN | .IsNot => some .notN | .In => some .in_ | .NotIn => some .notIn
theorem copOf_ok {o : CmpOp} {b : COp} (h : copOf o = some b) : o = cmpOf b := by
  cases o <;> first | (cases h; rfl) | cases h
def bltTab : List (Str × Blt) := [("len", .len), ("int", .int), ("tuple", .tuple), ("list", .list), ("repr", .repr), ("sum", .sum), ("abs", .abs), ("min", .min), ("max", .max), ("str", .str), ("any", .any), ("all", .all), ("bool", .bool)]
def bltOf (x : Str) : Option Blt := bltTab.lookup x
/-- the names of built-ins that must not be the module's own -/
def bltNames : List Str := ["len", "int", "tuple", "list", "repr", "sum", "abs", "min", "max", "str", "any", "all", "bool", "range", "zip", "enumerate", "reversed", "isinstance", "ValueError", "Exception"]
def bltGood (p : Str × Blt) : Bool := decide (p.1 ∈ bltNames) && decide (bootBuiltins p.1 = some (bltV p.2)) && decide (p.1 ≠ "__name__") && !(p.1 == ("__debug__" : Str))
theorem bltTab_good : bltTab.all bltGood = true := by decide +kernel
theorem bltOf_ok {x : Str} {b : Blt} (h : bltOf x = some b) : x ∈ bltNames ∧ bootBuiltins x = some (bltV b) ∧ x ≠ "__name__" ∧ (x == ("__debug__" : Str)) = false := by
  have g := List.all_eq_true.mp bltTab_good _ (PySem.mem_of_lookup h)
  unfold bltGood at g
  simp only [Bool.and_eq_true] at g
  exact ⟨of_decide_eq_true g.1.1.1, of_decide_eq_true g.1.1.2, of_decide_eq_true g.1.2, by simpa using g.2⟩
def mthTab : List (Str × Mth) := [("lower", .lower), ("upper", .upper), ("join", .join), ("count", .count), ("index", .index)]
def mthOf (x : Str) : Option Mth := mthTab.lookup x
theorem mthTab_good : (mthTab.all fun p => decide (p.1 = mthNm p.2)) = true := by decide +kernel
theorem mthOf_ok {x : Str} {b : Mth} (h : mthOf x = some b) : x = mthNm b :=
  of_decide_eq_true (List.all_eq_true.mp mthTab_good _ (PySem.mem_of_lookup h))
def trC : Const → Option D
  | .none => some .non
  | .bool b => some (.bl b)
  | .int i => some (.int i)
  | .str s => some (.str s.cps.toList)
  | _ => none
def baseOk : Expr → Bool
  | .Call (.Attribute _ _ _) _ _ _ => true
  | .Call (.Name _ _) (_ :: _) _ _ => true
  | .Call _ _ _ _ => false
  | _ => true
theorem baseOk_ok {o : Expr} (h : baseOk o = true) (a : Str) (env : PySem.Env) (m : Sem Value) : attributeBase o a env m = m := by
  cases o with
  | Call fn args kws pos =>
    cases fn with
    | Attribute _ _ _ => rfl
    | Name _ _ =>
      cases args with
      | nil => cases h
      | cons _ _ => rfl
    | _ => cases h
  | _ => rfl
/-- the names that are read or stored as data in a comprehension's block -/
def ownOf (N : List Str) : List (Str × NameKind) → List (Str × Nat)
  | [] => []
  | (x, k) :: r => match k, ixOf N x with
    | .local, some i => (x, i) :: ownOf N r
    | .cell, some i => (x, i) :: ownOf N r
    | _, _ => ownOf N r
def Sc.blk (c : Sc) (s : Scope) : Sc := { c with sc := relS s c.sc, fn := fun x => s.names.lookup x == some .cell }
mutual
def trT (c : Sc) : Nat → Expr → Option Tg
  | 0, _ => none
  | n + 1, .Name x _ => if locB c x then (ixOf c.N x).map Tg.nm else none
  | n + 1, .Tuple es _ _ => if c.sup then none else (trTs c n es).map Tg.tp
  | _, _ => none
def trTs (c : Sc) : Nat → List Expr → Option (List Tg)
  | 0, _ => none
  | n + 1, [] => some []
  | n + 1, e :: es => (trT c n e).bind fun t => (trTs c n es).bind fun ts => some (t :: ts)
end
def subB (xs ys : List Nat) : Bool := xs.all fun i => ys.contains i
theorem subB_ok {xs ys : List Nat} (h : subB xs ys = true) : ∀ i ∈ xs, i ∈ ys := fun i hi => by
  have := List.all_eq_true.mp h i hi
  simpa using this
def isTup : Expr → Bool
  | .Tuple _ _ _ => true
  | _ => false
theorem isTup_ok {e : Expr} (h : isTup e = true) : ∃ es k p, e = .Tuple es k p := by
  cases e with
  | Tuple es k p => exact ⟨es, k, p, rfl⟩
  | _ => cases h
/-- isinstance(e, C) -/
def trIs (c : Sc) (x : Str) : List Expr → Option E
  | [.Name e _, .Name y _] => if (x == ("isinstance" : Str)) && nmB e && visB c.sc e && nmB y && glB c.sc y then (ixOf c.N e).bind fun i => (c.xt y).map fun l => .isX i l else none
  | _ => none
def okBlt (c : Sc) (b : Blt) : Bool := !(needC b && c.sup)
mutual
def trE (c : Sc) : Nat → Expr → Option E
  | 0, _ => none
  | n + 1, .Name x _ => if nmB x then (if visB c.sc x then (ixOf c.N x).map E.var else if glB c.sc x then (c.gt x).map E.c else none) else none
  | n + 1, .Constant k _ _ => (trC k).map E.c
  | n + 1, .BinOp a o b _ => (bopOf o).bind fun o => (trE c n a).bind fun a => (trE c n b).bind fun b => some (.bin o a b)
  | n + 1, .UnaryOp .USub a _ => (trE c n a).map E.neg
  | n + 1, .UnaryOp .Not a _ => (trE c n a).map E.nt
  | n + 1, .BoolOp o (a :: b :: vs) _ => trB c n o (a :: b :: vs)
  | n + 1, .Compare a [o] [b] _ => (copOf o).bind fun o => (trE c n a).bind fun a => (trE c n b).bind fun b => some (.cmp o a b)
  | n + 1, .Compare a [o, p] [b, d] _ => (copOf o).bind fun o => (copOf p).bind fun p => (trE c n a).bind fun a => (trE c n b).bind fun b => (trE c n d).bind fun d => some (.chn o p a b d)
  | n + 1, .IfExp t a b _ => (trE c n t).bind fun t => (trE c n a).bind fun a => (trE c n b).bind fun b => some (.ife t a b)
  | n + 1, .Call (.Name x _) es [] _ => if nmB x && glB c.sc x then (match c.ft x with
      | some (f, np, dd) => (trL c n es).bind fun rs => if decide (rs.length ≤ np) && !c.sup then some (.call f (rs ++ (dd.drop (rs.length + dd.length - np)).map E.c)) else none
      | none => match bltOf x with
        | some b => (match es with
          | [] => none
          | es => if okBlt c b then (trL c n es).map (E.blt b) else none)
        | none => trIs c x es) else none
  | n + 1, .Call (.Attribute o m ap) es [] ps => if baseOk o && (ap.endLine == ps.line) then (mthOf m).bind fun m => (trE c n o).bind fun o => (match es with
      | [] => some (.mth m o [])
      | [e] => (trE c n e).map fun e => .mth m o [e]
      | _ => none) else none
  | n + 1, .Subscript a (.Slice lo hi none _) _ => (trE c n a).bind fun a => (trO c n lo).bind fun lo => (trO c n hi).bind fun hi => some (.slc a lo hi)
  | n + 1, .Subscript a (.Slice none none (some (.UnaryOp .USub (.Constant (.int 1) _ _) _)) _) _ => (trE c n a).map E.rev
  | n + 1, .Subscript a b _ => (trE c n a).bind fun a => (trE c n b).bind fun b => some (.idx a b)
  | n + 1, .List es _ => (trL c n es).map E.lst
  | n + 1, .Tuple es _ _ => (trL c n es).map E.tup
  | n + 1, .ListComp e [⟨tg, it, ifs, 0⟩] s _ => (trI c n it tg).bind fun i => (trT (c.blk s) n tg).bind fun t => (trL (c.blk s) n ifs).bind fun fs => (trE (c.blk s) n e).bind fun e =>
      if blkC c.N c.sc s (ownOf c.N s.names) && subB t.ns ((ownOf c.N s.names).map (·.2)) && decide (fs.length ≤ 1) && !c.sup then some (.cmpr e t i fs ((ownOf c.N s.names).map (·.2))) else none
  | n + 1, .Attribute (.Name x _) f _ => if nmB x && visB c.sc x && c.flds.contains f then (ixOf c.N x).map fun i => .fld i f else none
  | _, _ => none
def trO (c : Sc) : Nat → Option Expr → Option E
  | 0, _ => none
  | n + 1, none => some (.c .non)
  | n + 1, some e => (trE c n e).bind fun e => match e with
    | .c .non => none
    | e => some e
def trB (c : Sc) : Nat → BoolOp → List Expr → Option E
  | 0, _, _ => none
  | n + 1, _, [] => none
  | n + 1, _, [a] => trE c n a
  | n + 1, o, a :: r => (trE c n a).bind fun a => (trB c n o r).bind fun b => some (match o with | .And => .and a b | .Or => .or a b)
def trL (c : Sc) : Nat → List Expr → Option (List E)
  | 0, _ => none
  | n + 1, [] => some []
  | n + 1, e :: es => (trE c n e).bind fun r => (trL c n es).bind fun rs => some (r :: rs)
/-- tg: the target (zip and enumerate give pairs that are unpacked at once) -/
def trI (c : Sc) : Nat → Expr → Expr → Option It
  | 0, _, _ => none
  | n + 1, e, tg => match e with
    | .Call (.Name x _) es [] _ => if nmB x && glB c.sc x && (c.ft x).isNone then (
        if x = "range" then (match es with
          | [a] => (trL c n [a]).map It.rng
          | [a, b] => (trL c n [a, b]).map It.rng
          | [a, b, d] => (trL c n [a, b, d]).map It.rng
          | _ => none)
        else if x = "zip" then (match es with
          | [a, b] => if isTup tg then (trE c n a).bind fun a => (trE c n b).map fun b => .zip a b else none
          | _ => none)
        else if x = "enumerate" then (match es with
          | [a] => if isTup tg then (trE c n a).map .enm else none
          | _ => none)
        else if x = "reversed" then (match es with
          | [a] => (trE c n a).map .rvs
          | _ => none)
        else (trE c n e).map .seq)
      else (trE c n e).map .seq
    | _ => (trE c n e).map .seq
end
end Pd
set_option Elab.async false
set_option linter.all false
set_option maxRecDepth 100000
set_option autoImplicit false
set_option maxHeartbeats 4000000
/-! What trE gives is what the program's expression does. -/
namespace Pd
open PySem PyProof.Rows L2 TL RZ
open Evl (Ex ex_l ex_t)

structure Cok (G : Gp) (T : List Fn) (k : Nat) (c : Sc) (X : Cx) : Prop where
  K : X.K = G.K
  N : X.N = c.N
  nd : c.N.Nodup
  sc : X.env.scope = c.sc
  fn : ∀ x, c.fn x = true → X.fn x = true
  calm : c.sup = false → X.calm = true
  gd : X.A.guards = some []
  un : X.A.units + 200 < cLine
  room : c.sup = false → Room (k + 2) X.A
  tk : Takes X G.W
  mg : ∀ x ∈ bltNames, X.mg x = none
  fns : ∀ x f np dd, c.ft x = some (f, np, dd) → ∃ a fd ps ds dvs, FnG X.prog X.w X.K X.mg X.base (k + 2) a fd ps (spOf G (callF T k f)) ∧ X.mg x = some (.ref a) ∧ PySem.W.keepIn X.K (.ref a) = true ∧
    (∀ j, Binds X.K fd ps (ds.drop j)) ∧ Vals dvs ds ∧ (∀ F, DvL G.K F dvs dd) ∧ ps.length = np
  gts : ∀ x d, c.gt x = some d → ∃ v u, X.mg x = some u ∧ L2.RelV v u ∧ ∀ F, Dv G.K F v d
  nx : c.sup = false → G.xa = none
  xs : ∀ i a C d, G.xa = some (i, a, C, d) → ∃ (X0 : Cx) (oe : Obj) (pn : List (Addr × Obj)), X = X0.suite a ((a, oe) :: pn) ∧ Zc (.ref C) d oe ∧ ∃ vs, oe.data = .fields vs
  xc : ∀ ci C, G.ct ci = some C → XcC X.K c.flds C
  ets : ∀ x ci nm, c.et x = some (ci, nm) → ∃ C, G.ct ci = some C ∧ MkC X x nm C
  xts : ∀ x l, c.xt x = some l → ∃ v cv, ClsV v cv ∧ (X.mg x = some cv ∨ (X.mg x = none ∧ bootBuiltins x = some cv ∧ x ≠ "__name__")) ∧ ∀ ci C, G.ct ci = some C → PySem.W.exmOne X.K (.ref C) cv = some (l.contains ci) ∧ PySem.W.kitOne X.K (.ref C) cv = some (l.contains ci)
theorem spOf_no {G : Gp} {m : List D → Out Rv} : spOf G.no m = spOf G m := rfl
/-- in a comprehension's block -/
theorem Cok.blk {G : Gp} {T : List Fn} {k : Nat} {c : Sc} {X : Cx} (h : Cok G T k c X) (hs : c.sup = false) (scope : Scope) (s : Shared) (H : Hp) (cl : List (Str × Addr)) (C : Addr) (fp : List Addr) :
    Cok G.no T k (c.blk scope) (X.blk s H scope (compEnvC scope cl C X.env) fp) where
  K := h.K
  N := h.N
  nd := h.nd
  sc := by
    have e : (compEnvC scope cl C X.env).scope = relS scope X.env.scope := rfl
    show (compEnvC scope cl C X.env).scope = relS scope c.sc
    rw [e, h.sc]
  fn := fun x hx => hx
  calm := h.calm
  gd := h.gd
  un := h.un
  room := h.room
  tk := takes0
  mg := h.mg
  fns := h.fns
  gts := h.gts
  nx := h.nx
  xs := fun i a C d e => by
    rw [show G.no.xa = none from h.nx hs] at e
    cases e
  xc := h.xc
  ets := fun x ci nm e => by
    obtain ⟨C, h1, m⟩ := h.ets x ci nm e
    exact ⟨C, h1, m.o, m.no, m.mg, m.ini, m.ln⟩
  xts := h.xts

theorem Out.assoc {α β γ : Type} (m : Out α) (f : α → Out β) (g : β → Out γ) : (m.bind f).bind g = m.bind fun a => (f a).bind g := by cases m <;> rfl
section
variable {cf : Nat → List D → Out Rv}
theorem evA_consts (cs : List D) (env : Env) : evA cf (cs.map E.c) env = .ok cs := by
  induction cs with
  | nil => simp only [List.map_nil, evA]
  | cons d r ih =>
    simp only [List.map_cons, evA, evE, ih, Out.bind, Rv.fz]
theorem evA_app (rs : List E) (cs : List D) (env : Env) : evA cf (rs ++ cs.map E.c) env = (evA cf rs env).bind fun ds => .ok (ds ++ cs) := by
  induction rs with
  | nil =>
    rw [List.nil_append, evA_consts]
    simp only [evA, Out.bind, List.nil_append]
  | cons r rs ih =>
    simp only [List.cons_append, evA, ih, Out.assoc]
    congr 1
end
theorem star_no {c : Sc} {n : Nat} {e : Expr} {r : E} (h : trE c n e = some r) (es : List Expr) (env : PySem.Env) : starEach (e :: es) env = (false, eval e env) :: starEach es env := by
  cases n with
  | zero => simp only [trE] at h; cases h
  | succ n =>
    cases e with
    | Starred v p => simp only [trE] at h; cases h
    | _ => rfl
theorem set_no {c : Sc} {n : Nat} {e : Expr} {r : E} (h : trE c n e = some r) (o : CmpOp) : behindInMarks o e = false := by
  cases n with
  | zero => simp only [trE] at h; cases h
  | succ n =>
    cases e with
    | Set v p q => simp only [trE] at h; cases h
    | _ => rfl
theorem plain_ix {c : Sc} {n : Nat} {e : Expr} {r : E} (h : trE c n e = some r) : PlainIx e := by
  cases n with
  | zero => simp only [trE] at h; cases h
  | succ n =>
    cases e with
    | Slice a b d p => simp only [trE] at h; cases h
    | _ => intro o i; rfl
theorem trL_len {c : Sc} : ∀ {n : Nat} {es : List Expr} {rs : List E}, trL c n es = some rs → rs.length = es.length
  | 0, _, _, h => by simp only [trL] at h; cases h
  | n + 1, [], rs, h => by simp only [trL] at h; cases h; rfl
  | n + 1, e :: es, rs, h => by
    simp only [trL, Option.bind_eq_some_iff] at h
    obtain ⟨r, h1, rs', h2, h3⟩ := h
    cases h3
    rw [List.length_cons, List.length_cons, trL_len h2]
theorem star_all {c : Sc} : ∀ {n : Nat} {es : List Expr} {rs : List E}, trL c n es = some rs → ∀ (env : PySem.Env) (pos : Pos), starEach es env = es.map (fun e => (false, eval e env)) ∧ (backTo pos (starEach es env)).any (·.1) = false
  | 0, _, _, h => by simp only [trL] at h; cases h
  | n + 1, [], rs, h => fun env pos => ⟨rfl, rfl⟩
  | n + 1, e :: es, rs, h => fun env pos => by
    simp only [trL, Option.bind_eq_some_iff] at h
    obtain ⟨r, h1, rs', h2, h3⟩ := h
    obtain ⟨a, b⟩ := star_all h2 env pos
    have s := star_no h1 es env
    refine ⟨by rw [s, a]; rfl, ?_⟩
    rw [s]
    show (false || (backTo pos (starEach es env)).any (·.1)) = false
    rw [b]
    rfl

/-! ### targets -/
mutual
theorem sndT {G : Gp} {T : List Fn} {k : Nat} {c : Sc} {X : Cx} (h : Cok G T k c X) : ∀ (n : Nat) (e : Expr) (t : Tg), trT c n e = some t → PG X e (tTg G t)
  | 0, _, _, e => by simp only [trT] at e; cases e
  | n + 1, e, t, ht => by
    cases e with
    | Name x p =>
      simp only [trT] at ht
      split at ht
      · rename_i hl
        cases q : ixOf c.N x with
        | none => rw [q] at ht; cases ht
        | some i =>
          rw [q] at ht
          cases ht
          skip
          unfold locB at hl
          split at hl
          · rename_i hk
            exact tg_name (by rw [h.N]; exact h.nd) (by rw [h.N]; exact ixOf_get q) (.inl (by rw [h.sc]; exact hk)) (.inr (by rw [h.sc]; exact hk))
          · rename_i hk
            exact tg_name (by rw [h.N]; exact h.nd) (by rw [h.N]; exact ixOf_get q) (.inr (by rw [h.sc]; exact hk)) (.inl (h.fn x hl))
          · cases hl
      · cases ht
    | Tuple es a b =>
      simp only [trT] at ht
      split at ht
      · cases ht
      rename_i hsup
      have hsup := Bool.eq_false_iff.mpr hsup
      cases q : trTs c n es with
      | none => rw [q] at ht; cases ht
      | some ts =>
        rw [q] at ht
        cases ht
        obtain ⟨h1, h2, h3⟩ := sndTs h n es ts q
        skip
        exact tg_tup h.K.symm (h.calm hsup) h1 h2 h3
    | _ => simp only [trT] at ht; cases ht
theorem sndTs {G : Gp} {T : List Fn} {k : Nat} {c : Sc} {X : Cx} (h : Cok G T k c X) : ∀ (n : Nat) (es : List Expr) (ts : List Tg), trTs c n es = some ts →
    PGs X es (tTgs G ts) ∧ (assignEach es X.env).length = ts.length ∧ (assignEach es X.env).findIdx? (·.1) = none
  | 0, _, _, e => by simp only [trTs] at e; cases e
  | n + 1, [], ts, ht => by
    simp only [trTs] at ht
    cases ht
    skip
    exact ⟨tgs_nil, rfl, rfl⟩
  | n + 1, e :: es, ts, ht => by
    simp only [trTs, Option.bind_eq_some_iff] at ht
    obtain ⟨t, h1, ts', h2, h3⟩ := ht
    cases h3
    have a := sndT h n e t h1
    obtain ⟨b1, b2, b3⟩ := sndTs h n es ts' h2
    have s : assignEach (e :: es) X.env = (false, assign e X.env) :: assignEach es X.env := by
      cases n with
      | zero => simp only [trT] at h1; cases h1
      | succ n =>
        cases e with
        | Starred v p => simp only [trT] at h1; cases h1
        | _ => rfl
    skip
    refine ⟨tgs_cons a b1 (by rw [s]; rfl), by rw [s, List.length_cons, List.length_cons, b2], ?_⟩
    rw [s, List.findIdx?_cons, b3]
    rfl
end
theorem trIs_inv {c : Sc} {x : Str} {es : List Expr} {r : E} (h : trIs c x es = some r) : ∃ e p1 y p2 i l, es = [.Name e p1, .Name y p2] ∧ x = "isinstance" ∧ nmB e = true ∧ visB c.sc e = true ∧ nmB y = true ∧ glB c.sc y = true ∧ ixOf c.N e = some i ∧ c.xt y = some l ∧ r = .isX i l := by
  unfold trIs at h
  split at h
  · rename_i e p1 y p2
    split at h
    · rename_i hc
      simp only [Bool.and_eq_true] at hc
      simp only [Option.bind_eq_some_iff, Option.map_eq_some_iff] at h
      obtain ⟨i, h1, l, h2, h3⟩ := h
      exact ⟨e, p1, y, p2, i, l, rfl, by simpa using hc.1.1.1.1, hc.1.1.1.2, hc.1.1.2, hc.1.2, hc.2, h1, h2, h3.symm⟩
    · cases h
  · cases h
end Pd
set_option Elab.async false
set_option linter.all false
set_option maxRecDepth 100000
set_option autoImplicit false
set_option maxHeartbeats 4000000
/-! The readings of single constructs, from what they are on data. -/
namespace Pd
open PySem PyProof.Rows L2 TL RZ
open Evl (Ex ex_l ex_t)

section
variable {X : Cx} {G : Gp} {σ : L2.St} {H : Hp} {ma mb md : Env → Out Rv}
theorem op_read {sem : Rv → Rv → Out Rv} {Q : VK} (h : tOf G (fun env => (ma env).bind fun x => (mb env).bind fun y => sem x y) σ H Q) : tOp (rSem G.K sem) (tOf G ma) (tOf G mb) σ H Q :=
  seq h fun F0 B F env v F1 H1 x R g1 rv hx => by
    rw [Out.wp_bind] at hx
    exact nxt R g1 hx fun u F2 H2 y g2 ru hy => ⟨F, H, F2, x, y, Xp G F H σ, H, g1.trans g2, rv.up g2, ru.old g1.h, hy⟩
theorem un_read {sem : Rv → Out Rv} {Q : VK} (h : tOf G (fun env => (ma env).bind sem) σ H Q) : tUn (rSem1 G.K sem) (tOf G ma) σ H Q :=
  seq h fun F0 B F env v F1 H1 x R g1 rv hx => ⟨F, H, F1, x, Xp G F H σ, g1, rv, hx⟩
/-- a bool as a test -/
theorem asB_read {Q : Bool → Hp → Prop} (h : tTs G (fun env => (ma env).bind asB) σ H Q) : tOf G ma σ H fun x H' => ∃ k, x = .bl k ∧ Q k H' :=
  seq h fun F0 B F env v F1 H1 x R g1 rv hx => by
    unfold asB at hx
    split at hx
    · cases rv
      exact ⟨_, rfl, hx _ F1 H1 g1 rfl⟩
    · exact hx.elim
theorem asB_wp {x : Rv} {P : Bool → Prop} {E : Xc → Prop} (h : (asB x).wp P E) : ∃ k, x = .v (.bl k) ∧ P k := by
  unfold asB at h
  split at h
  · exact ⟨_, rfl, h⟩
  · exact h.elim
theorem tru_read {Q : Bool → Hp → Prop} (h : tTs G (fun env => (ma env).bind tru) σ H Q) : tOf G ma σ H fun x H' => ∃ k, TruV G.K x H' k ∧ Q k H' :=
  seq h fun F0 B F env v F1 H1 x R g1 rv hx => by
    obtain ⟨k, h1, h2⟩ := tru_val (P := fun k => ∀ b F' H', Gr F H F' H' → b = k → Q b H') rv g1.s hx
    exact ⟨k, h1, h2 k F1 H1 g1 rfl⟩
theorem chn_read {s1 s2 : Rv → Rv → Out Rv} {Q : VK} (h : tOf G (fun env => (ma env).bind fun x => (mb env).bind fun y => (s1 x y).bind fun r => (asB r).bind fun k => if k then (md env).bind fun z => s2 y z else dBl false) σ H Q) :
    tChain (rSem G.K s1) (rSem G.K s2) (tOf G ma) (tOf G mb) (tOf G md) σ H Q :=
  seq h fun F0 B F env v F1 H1 x R g1 rv hx => by
    rw [Out.wp_bind] at hx
    refine nxt R g1 hx fun u F2 H2 y g2 ru hy => ?_
    rw [Out.wp_bind] at hy
    refine ⟨F2, H2, F2, x, y, Xp G F H σ, H, Gr.refl g2.s, rv.up g2, ru.old g1.h, Out.wp_mono hy (fun r hr w F3 H3 g3 rw' => ?_) fun _ z => z⟩
    rw [Out.wp_bind] at hr
    obtain ⟨k, rfl, hk⟩ := asB_wp hr
    cases rw'
    refine ⟨k, rfl, ?_⟩
    have gA : Gr F H F3 H3 := (g1.trans g2).trans g3
    cases k with
    | true =>
      rw [if_pos rfl] at hk ⊢
      rw [Out.wp_bind] at hk
      refine ⟨F0, B, F3, env, R.up gA, Out.wp_mono hk (fun z hz t F4 H4 g4 rt => ?_) fun _ q => q.up gA⟩
      exact ⟨F, H, F4, y, z, Xp G F H σ, H, gA.trans g4, (ru.old g1.h).up (g3.trans g4), rt.old gA.h, hz⟩
    | false =>
      rw [if_neg Bool.false_ne_true] at hk ⊢
      exact Wt.bl gA hk
theorem and_read {Q : VK} (h : tOf G (fun env => (ma env).bind fun x => (asB x).bind fun c => if c then mb env else dBl false) σ H Q) : tAndV (tOf G ma) (tOf G mb) σ H Q :=
  seq h fun F0 B F env v F1 H1 x R g1 rv hx => by
    rw [Out.wp_bind] at hx
    obtain ⟨k, rfl, hk⟩ := asB_wp hx
    cases rv
    refine ⟨k, rfl, ?_⟩
    cases k with
    | true =>
      rw [if_pos rfl] at hk ⊢
      exact nxt R g1 hk fun u F2 H2 y g2 ru hy => hy u F2 H2 (g1.trans g2) (ru.old g1.h)
    | false =>
      rw [if_neg Bool.false_ne_true] at hk ⊢
      exact Wt.bl g1 hk
theorem or_read {Q : VK} (h : tOf G (fun env => (ma env).bind fun x => (asB x).bind fun c => if c then dBl true else mb env) σ H Q) : tOrV (tOf G ma) (tOf G mb) σ H Q :=
  seq h fun F0 B F env v F1 H1 x R g1 rv hx => by
    rw [Out.wp_bind] at hx
    obtain ⟨k, rfl, hk⟩ := asB_wp hx
    cases rv
    refine ⟨k, rfl, ?_⟩
    cases k with
    | true =>
      rw [if_pos rfl] at hk ⊢
      exact Wt.bl g1 hk
    | false =>
      rw [if_neg Bool.false_ne_true] at hk ⊢
      exact nxt R g1 hk fun u F2 H2 y g2 ru hy => hy u F2 H2 (g1.trans g2) (ru.old g1.h)
theorem not_read {Q : VK} (h : tOf G (fun env => (ma env).bind fun x => (tru x).bind fun b => dBl (!b)) σ H Q) : tNotT G.K (tOf G ma) σ H Q :=
  seq h fun F0 B F env v F1 H1 x R g1 rv hx => by
    rw [Out.wp_bind] at hx
    obtain ⟨k, h1, h2⟩ := tru_val rv g1.s hx
    exact ⟨k, h1, Wt.bl g1 h2⟩
theorem ife_read {mt : Env → Out Bool} {Q : VK} (h : tOf G (fun env => (mt env).bind fun k => if k then ma env else mb env) σ H Q) : tIf (tTs G mt) (tOf G ma) (tOf G mb) σ H Q :=
  seq h fun F0 B F env v F1 H1 x R g1 rv hx => by
    have rv : v = x := rv
    subst rv
    cases v with
    | true =>
      rw [if_pos rfl] at hx ⊢
      exact nxt R g1 hx fun u F2 H2 y g2 ru hy => hy u F2 H2 (g1.trans g2) (ru.old g1.h)
    | false =>
      rw [if_neg Bool.false_ne_true] at hx ⊢
      exact nxt R g1 hx fun u F2 H2 y g2 ru hy => hy u F2 H2 (g1.trans g2) (ru.old g1.h)
theorem tand_read {m1 m2 : Env → Out Bool} {Q : Bool → Hp → Prop} (h : tTs G (fun env => (m1 env).bind fun k => if k then m2 env else .ok false) σ H Q) : tAnd (tTs G m1) (tTs G m2) σ H Q :=
  seq h fun F0 B F env v F1 H1 x R g1 rv hx => by
    have rv : v = x := rv
    subst rv
    cases v with
    | true =>
      rw [if_pos rfl] at hx ⊢
      exact nxt R g1 hx fun u F2 H2 y g2 ru hy => hy u F2 H2 (g1.trans g2) ru
    | false =>
      rw [if_neg Bool.false_ne_true] at hx ⊢
      exact hx false F1 H1 g1 rfl
theorem tor_read {m1 m2 : Env → Out Bool} {Q : Bool → Hp → Prop} (h : tTs G (fun env => (m1 env).bind fun k => if k then .ok true else m2 env) σ H Q) : tOr (tTs G m1) (tTs G m2) σ H Q :=
  seq h fun F0 B F env v F1 H1 x R g1 rv hx => by
    have rv : v = x := rv
    subst rv
    cases v with
    | true =>
      rw [if_pos rfl] at hx ⊢
      exact hx true F1 H1 g1 rfl
    | false =>
      rw [if_neg Bool.false_ne_true] at hx ⊢
      exact nxt R g1 hx fun u F2 H2 y g2 ru hy => hy u F2 H2 (g1.trans g2) ru
theorem tnot_read {m1 : Env → Out Bool} {Q : Bool → Hp → Prop} (h : tTs G (fun env => (m1 env).bind fun k => .ok (!k)) σ H Q) : tNot (tTs G m1) σ H Q :=
  seq h fun F0 B F env v F1 H1 x R g1 rv hx => by
    have rv : v = x := rv
    subst rv
    exact hx _ F1 H1 g1 rfl
theorem blt_read {ml : Env → Out (List Rv)} {sem : List Rv → Out Rv} {Q : VK} (h : tOf G (fun env => (ml env).bind sem) σ H Q) : tCB (rBlt G.K sem) (tAr G ml) σ H Q :=
  seq h fun F0 B F env v F1 H1 x R g1 rv hx => ⟨F, H, F1, x, Xp G F H σ, g1, rv, hx⟩
theorem asS_wp {x : Rv} {P : Rv → Prop} {E : Xc → Prop} (h : (asS x).wp P E) : ∃ l, x = .v (.str l) ∧ P x := by
  unfold asS at h
  split at h
  · exact ⟨_, rfl, h⟩
  · exact h.elim
theorem mth0_read {m : Mth} {Q : VK} (h : tOf G (fun env => (ma env).bind fun x => (asS x).bind fun x => (Out.ok []).bind fun rs => doMth m x rs) σ H Q) : tM0 (rMth G.K (doMth m)) (tOf G ma) σ H Q :=
  seq h fun F0 B F env v F1 H1 x R g1 rv hx => by
    rw [Out.wp_bind] at hx
    obtain ⟨l, rfl, hx⟩ := asS_wp hx
    have rv' := rv
    cases rv
    exact ⟨⟨_, rfl⟩, F, H, F1, _, [], Xp G F H σ, g1, rv', True.intro, hx⟩
theorem mth1_read {m : Mth} {Q : VK} (h : tOf G (fun env => (ma env).bind fun x => (asS x).bind fun x => ((mb env).bind fun y => (Out.ok []).bind fun ys => .ok (y :: ys)).bind fun rs => doMth m x rs) σ H Q) : tM1 (rMth G.K (doMth m)) (tOf G ma) (tOf G mb) σ H Q :=
  seq h fun F0 B F env v F1 H1 x R g1 rv hx => by
    rw [Out.wp_bind] at hx
    obtain ⟨l, rfl, hx⟩ := asS_wp hx
    have rv' := rv
    cases rv
    refine ⟨⟨_, rfl⟩, ?_⟩
    rw [Out.wp_bind, Out.wp_bind] at hx
    exact nxt R g1 hx fun u F2 H2 y g2 ru hy => ⟨F, H, F2, _, [y], Xp G F H σ, g1.trans g2, rv'.up g2, ⟨ru.old g1.h, True.intro⟩, hy⟩
theorem ix_read {Q : VK} (h : tOf G (fun env => (ma env).bind fun x => (mb env).bind fun y => getI x y) σ H Q) : tOp (rSem G.K getI) (tOf G ma) (tOf G mb) σ H Q := op_read h
/-- a part of a slice -/
def tPt (G : Gp) (m : Env → Out (Option Int)) : TO := tGn G rO m
theorem slc_read {ml mh : Env → Out (Option Int)} {Q : VK} (h : tOf G (fun env => (ma env).bind fun x => (ml env).bind fun l => (mh env).bind fun u => getS x l u) σ H Q) : tSl (rSlc G.K) (tOf G ma) (tPt G ml) (tPt G mh) σ H Q :=
  seq h fun F0 B F env v F1 H1 x R g1 rv hx => by
    rw [Out.wp_bind] at hx
    refine nxt R g1 hx fun l F2 H2 l' g2 rl hl => ?_
    have rl : l = l' := rl
    subst rl
    rw [Out.wp_bind] at hl
    refine nxt R (g1.trans g2) hl fun u F3 H3 u' g3 ru hu => ?_
    have ru : u = u' := ru
    subst ru
    exact ⟨F, H, F3, x, Xp G F H σ, (g1.trans g2).trans g3, rv.up (g2.trans g3), hu⟩
theorem part_read {Q : Option Int → Hp → Prop} (h : tPt G (fun env => (ma env).bind part) σ H Q) : tPart (tOf G ma) σ H Q :=
  seq h fun F0 B F env v F1 H1 x R g1 rv hx => by
    unfold part at hx
    split at hx
    · cases rv
      exact ⟨_, rfl, hx _ F1 H1 g1 rfl⟩
    · exact hx.elim
theorem lst_read {ml : Env → Out (List D)} {Q : VK} (h : tOf G (fun env => (ml env).bind fun ds => if ds.length ≤ lim then .ok (.own ds) else .stk) σ H Q) : tLst (tAD G ml) σ H Q :=
  seq h fun F0 B F env v F1 H1 x R g1 rv hx => by
    have rv : DvL G.K F1 v x := rv
    split at hx
    · rename_i hl
      exact ⟨by rw [rv.len, lim_eq]; exact hl, Wt.new g1 rv hx⟩
    · exact hx.elim
theorem tup_read {ml : Env → Out (List D)} {Q : VK} (h : tOf G (fun env => (ml env).bind fun ds => if ds.length ≤ lim then .ok (.v (.tup ds)) else .stk) σ H Q) : tTup (tAD G ml) σ H Q :=
  seq h fun F0 B F env v F1 H1 x R g1 rv hx => by
    have rv : DvL G.K F1 v x := rv
    split at hx
    · rename_i hl
      exact ⟨by rw [rv.len, lim_eq]; exact hl, Wt.newT g1 rv hx⟩
    · exact hx.elim
/-- argument lists -/
theorem ar_nil {Q : List V → Hp → Prop} (h : tAr G (fun _ => .ok []) σ H Q) : tNil σ H Q := by
  obtain ⟨F0, B, F, env, R, q⟩ := h
  exact q [] F H (Gr.refl R.g.s) True.intro
theorem ad_nil {Q : List V → Hp → Prop} (h : tAD G (fun _ => .ok []) σ H Q) : tNil σ H Q := by
  obtain ⟨F0, B, F, env, R, q⟩ := h
  exact q [] F H (Gr.refl R.g.s) DvL.nil
theorem ar_cons {ml : Env → Out (List Rv)} {Q : List V → Hp → Prop} (h : tAr G (fun env => (ma env).bind fun x => (ml env).bind fun xs => .ok (x :: xs)) σ H Q) : tCons (tOf G ma) (tAr G ml) σ H Q :=
  seq h fun F0 B F env v F1 H1 x R g1 rv hx => by
    rw [Out.wp_bind] at hx
    exact nxt R g1 hx fun vs F2 H2 xs g2 rvs hy => hy (v :: vs) F2 H2 (g1.trans g2) ⟨rv.up g2, rvs.old g1.h⟩
theorem ad_cons {ml : Env → Out (List D)} {Q : List V → Hp → Prop} (h : tAD G (fun env => ((ma env).bind Rv.fz).bind fun x => (ml env).bind fun xs => .ok (x :: xs)) σ H Q) : tCons (tOf G ma) (tAD G ml) σ H Q := by
  have h' : tAD G (fun env => (ma env).bind fun r => r.fz.bind fun x => (ml env).bind fun xs => .ok (x :: xs)) σ H Q := by
    obtain ⟨F0, B, F, env, R, q⟩ := h
    simp only [Out.assoc] at q
    exact ⟨F0, B, F, env, R, q⟩
  refine seq h' fun F0 B F env v F1 H1 r R g1 rv hx => ?_
  rw [Out.wp_bind] at hx
  cases ef : r.fz with
  | stk => rw [ef] at hx; exact hx.elim
  | exc x => cases r <;> cases ef
  | ok d =>
    rw [ef] at hx
    obtain ⟨F2, g2, hd⟩ := rv.known g1 ef
    have hx : ((ml env).bind fun xs => .ok (d :: xs)).wp _ _ := hx
    rw [Out.wp_bind] at hx
    exact nxt R g2 hx fun vs F3 H3 xs g3 rvs hy => hy (v :: vs) F3 H3 (g2.trans g3) (DvL.cons (hd.up g3.f) rvs)
theorem rev_read {Q : VK} (h : tOf G (fun env => (ma env).bind getR) σ H Q) :
    (tOf G ma σ H fun v H1 => ∃ z, v = .str z ∧ z.length ≤ sizeLine ∧ Q (.str (mkS z.cps.toList.reverse)) H1) ∨ tRevL G.K (tOf G ma) σ H Q := by
  obtain ⟨F0, B, F, env, R, q⟩ := h
  rw [Out.wp_bind] at q
  cases em : ma env with
  | stk => rw [em] at q; exact q.elim
  | exc x => rw [em] at q; exact .inl ⟨F0, B, F, env, R, by rw [em]; exact q⟩
  | ok x =>
    rw [em] at q
    have q : (getR x).wp (Wt G.K F H Q) (Xp G F H σ) := q
    unfold getR at q
    split at q
    · refine .inl ⟨F0, B, F, env, R, ?_⟩
      rw [em]
      intro v F1 H1 g1 rv
      cases rv
      split at q
      · rename_i hl
        exact ⟨_, rfl, by rw [mkS_len, lim_eq]; exact hl, Wt.str g1 q⟩
      · exact q.elim
    · refine .inr ⟨F0, B, F, env, R, ?_⟩
      rw [em]
      intro v F1 H1 g1 rv
      split at q
      · rename_i xs e
        obtain ⟨p, vs, rfl, h1, h2⟩ := rv.lst g1.s e
        exact ⟨p, vs, rfl, SqL.of h1, Wt.new g1 h2.rev q⟩
      · exact q.elim
end
end Pd
set_option Elab.async false
set_option linter.all false
set_option maxRecDepth 100000
set_option autoImplicit false
set_option maxHeartbeats 4000000
/-! The soundness of expressions. -/
namespace Pd
open PySem PyProof.Rows L2 TL RZ
open Evl (Ex ex_l ex_t)

structure Snd (T : List Fn) (k n : Nat) : Prop where
  e : ∀ (G : Gp) (c : Sc) (X : Cx), Cok G T k c X → ∀ (e : Expr) (r : E), trE c n e = some r → PE X e (tOf G (evE (callF T k) r))
  t : ∀ (G : Gp) (c : Sc) (X : Cx), Cok G T k c X → ∀ (e : Expr) (r : E), trE c n e = some r → PT X e (tTs G (evT (callF T k) r))
  o : ∀ (G : Gp) (c : Sc) (X : Cx), Cok G T k c X → ∀ (e : Option Expr) (r : E), trO c n e = some r → PO X e (tPt G fun env => partE r (evE (callF T k) r env))
  b : ∀ (G : Gp) (c : Sc) (X : Cx), Cok G T k c X → ∀ (o : BoolOp) (vs : List Expr) (r : E) (pos : Pos), trB c n o vs = some r → PE X (.BoolOp o vs pos) (tOf G (evE (callF T k) r)) ∧ PW X (.BoolOp o vs pos) (tTs G (evT (callF T k) r))
  l : ∀ (G : Gp) (c : Sc) (X : Cx), Cok G T k c X → ∀ (es : List Expr) (rs : List E), trL c n es = some rs → PA X es (tAr G (evL (callF T k) rs)) ∧ PA X es (tAD G (evA (callF T k) rs))
  f : ∀ (G : Gp) (c : Sc) (X : Cx), Cok G T k c X → ∀ (e : Expr) (r : E), trL c n [e] = some [r] → PT X e (tTs G (evT (callF T k) r))
  i : ∀ (G : Gp) (c : Sc) (X : Cx), Cok G T k c X → ∀ (e tg : Expr) (r : It), trI c n e tg = some r → PI X tg e (tIt G r.vars (evI (callF T k) r)) ∧ ∀ (env : PySem.Env) (x : Value), foldedSetIterable e env x = pure x
section
variable {T : List Fn} {k n : Nat} {G : Gp} {c : Sc} {X : Cx}
theorem fun_ext {α β : Type} {f g : α → β} (h : ∀ x, f x = g x) : f = g := funext h
theorem tGn_congr {α β : Type} {Rel : RelT α β} {m m' : Env → Out α} (h : ∀ env, m env = m' env) {σ : L2.St} {H : Hp} {Q : β → Hp → Prop} (q : tGn G Rel m σ H Q) : tGn G Rel m' σ H Q := by
  rw [← funext h]
  exact q
/-- a name -/
theorem snd_var (h : Cok G T k c X) {x : Str} {p : Pos} {i : Nat} (hn : nmB x = true) (hv : visB c.sc x = true) (hi : ixOf c.N x = some i) : PE X (.Name x p) (tVar i) :=
  pe_var (by rw [h.N]; exact ixOf_get hi) (by rw [h.sc]; exact visB_ok hv) (nmB_ok hn).1 (nmB_ok hn).2
theorem var_of {σ : L2.St} {H : Hp} {Q : VK} {i : Nat} (q : tOf G (fun env => look env i) σ H Q) : tVar i σ H Q := by
  obtain ⟨F0, B, F, env, R, q⟩ := q
  have q : (look env i).wp _ _ := q
  unfold look at q
  split at q
  · rename_i d e
    obtain ⟨u, h1, h2⟩ := R.v i d e
    exact ⟨u, h1, q u F H (Gr.refl R.g.s) h2⟩
  · rename_i xs e
    obtain ⟨p, vs, h1, h2, h3, h4, h5⟩ := R.o i xs (.inl e)
    exact ⟨_, h1, q _ F H (Gr.refl R.g.s) ⟨p, vs, rfl, h2, h3, h5⟩⟩
  · rename_i xs e
    obtain ⟨p, vs, h1, h2, h3, h4, h5⟩ := R.o i xs (.inr e)
    exact ⟨_, h1, q _ F H (Gr.refl R.g.s) ⟨p, vs, rfl, h2, h3, h5⟩⟩
  · exact q.elim
/-- a name as a walk's source -/
theorem src_var {σ : L2.St} {H : Hp} {Q : VK} {i : Nat} (q : tSr G [i] (fun env => srcOf (.var i) (look env i)) σ H Q) : tVar i σ H Q := by
  obtain ⟨F0, B, F, env, R, q⟩ := q
  have q : (srcOf (.var i) (look env i)).wp _ _ := q
  unfold look at q
  split at q
  · rename_i d e
    obtain ⟨u, h1, h2⟩ := R.v i d e
    exact ⟨u, h1, q u F H (Gr.refl R.g.s) h2 (fun xs z => by cases z)⟩
  · rename_i xs e
    obtain ⟨p, vs, h1, h2, h3, h4, h5⟩ := R.o i xs (.inl e)
    exact ⟨_, h1, q _ F H (Gr.refl R.g.s) ⟨p, vs, rfl, h2, h3, h5⟩ fun _ _ => ⟨i, List.mem_singleton_self _, p, rfl, h1, xs, .inl e⟩⟩
  · rename_i xs e
    obtain ⟨p, vs, h1, h2, h3, h4, h5⟩ := R.o i xs (.inr e)
    exact ⟨_, h1, q _ F H (Gr.refl R.g.s) ⟨p, vs, rfl, h2, h3, h5⟩ fun _ _ => ⟨i, List.mem_singleton_self _, p, rfl, h1, xs, .inr e⟩⟩
  · exact q.elim
theorem trE_var {i : Nat} : ∀ {n : Nat} {e : Expr}, trE c n e = some (.var i) → ∃ x p, e = .Name x p ∧ nmB x = true ∧ visB c.sc x = true ∧ ixOf c.N x = some i := by
  intro n e h
  cases n with
  | zero => simp only [trE] at h; cases h
  | succ n =>
    unfold trE at h
    split at h
    case h_2 =>
      rename_i x p _
      split at h
      · rename_i hn
        split at h
        · rename_i hv
          rw [Option.map_eq_some_iff] at h
          obtain ⟨j, h1, h2⟩ := h
          cases h2
          exact ⟨x, p, rfl, hn, hv, h1⟩
        · split at h
          · rw [Option.map_eq_some_iff] at h
            obtain ⟨j, h1, h2⟩ := h
            cases h2
          · cases h
      · cases h
    case h_7 =>
      rename_i m o a b vs p _
      cases m with
      | zero => simp only [trB] at h; cases h
      | succ m =>
        simp only [trB, Option.bind_eq_some_iff] at h
        obtain ⟨_, _, _, _, h⟩ := h
        cases o <;> cases h
    all_goals first
      | (cases h; done)
      | (simp [Option.bind_eq_some_iff, Option.map_eq_some_iff] at h; done)
      | (exfalso; (repeat' split at h) <;> first
          | (cases h; done)
          | (simp [Option.bind_eq_some_iff, Option.map_eq_some_iff] at h; done)
          | (obtain ⟨_, _, _, _, _, _, _, _, _, _, _, _, _, _, h9⟩ := trIs_inv h; cases h9; done))
end
end Pd
set_option Elab.async false
set_option linter.all false
set_option maxRecDepth 100000
set_option autoImplicit false
set_option maxHeartbeats 4000000
/-! The soundness of expressions, by induction. -/
namespace Pd
open PySem PyProof.Rows L2 TL RZ
open Evl (Ex ex_l ex_t)

section
variable {T : List Fn} {k n : Nat} {G : Gp} {c : Sc} {X : Cx}
theorem pe_bltv (h : Cok G T k c X) {b : Blt} (hob : okBlt c b = true) {x : Str} {p pos : Pos} {e : Expr} {es : List Expr} {t : TA} (hb : bltOf x = some b) (hg : Gl X x) (ha : PA X (e :: es) t)
    (hs : starEach (e :: es) X.env = (false, eval e X.env) :: starEach es X.env) (hpl : (backTo pos (starEach es X.env)).any (·.1) = false) : PE X (.Call (.Name x p) (e :: es) [] pos) (tCB (rBlt X.K (doBlt b)) t) := by
  obtain ⟨h1, h2, h3, h4⟩ := bltOf_ok hb
  have hm := h.mg x h1
  have hu := h.un
  have hc := blt_ok b (fun e => h.calm (by unfold okBlt at hob; rw [e] at hob; simpa using hob)) h.gd hu
  cases b <;> first
    | exact pe_callB hc hg hm h2 ha h3 h4 hs hpl
    | exact pe_callTy hc hg hm h2 ha h3 h4 hs hpl
theorem fld_ok (h : Cok G T k c X) {x f : Str} {p pos : Pos} {i : Nat} (hn : nmB x = true) (hv : visB c.sc x = true) (hf : f ∈ c.flds) (hi : ixOf c.N x = some i) : PE X (.Attribute (.Name x p) f pos) (tOf G (evE (callF T k) (.fld i f))) := by
  refine ⟨fun pins s σ H Q I q => ?_⟩
  have q : tOf G (fun env => fldO env i f) σ H Q := tGn_congr (fun env => by simp only [evE]) q
  obtain ⟨a, C, d, ci, h1, h2, h3⟩ := fld_read q
  have V := snd_var (p := p) h hn hv hi
  obtain ⟨X0, oe, pn, e, hz, hd⟩ := h.xs i a C d h1
  have xc := h.xc ci C h2
  subst e
  exact (pe_xf xc.xf (xc.no f hf) hz hd V).run pins s σ H Q I h3
theorem is_ok (h : Cok G T k c X) {x : Str} {es : List Expr} {p pos : Pos} {r : E} (hg : Gl X x) (hr : trIs c x es = some r) : PE X (.Call (.Name x p) es [] pos) (tOf G (evE (callF T k) r)) := by
  obtain ⟨e, p1, y, p2, i, l, rfl, rfl, hn, hv, hny, hgy, hi, hl, rfl⟩ := trIs_inv hr
  refine ⟨fun pins s σ H Q I q => ?_⟩
  have q : tOf G (fun env => isO env i l) σ H Q := tGn_congr (fun env => by simp only [evE]) q
  obtain ⟨a, C, d, ci, h1, h2, h3, h4, h5⟩ := isX_read q
  have V := snd_var (p := p1) h hn hv hi
  obtain ⟨v, cv, hcv, hm, hk⟩ := h.xts y l hl
  have hgl : Gl X y := by show X.env.kindOf y = _; unfold Env.kindOf; rw [h.sc]; exact glB_ok hgy
  have rv : L2.RelV v cv := by cases hcv <;> rfl
  have V2 : PE X (.Name y p2) (tC v) := by
    rcases hm with hm | ⟨hm, hb, hne⟩
    · exact pe_glob hgl hm rv (nmB_ok hny).1
    · exact pe_bltn hgl hm hb rv hne (nmB_ok hny).1
  have hmi : X.mg "isinstance" = none := h.mg _ (by decide +kernel)
  obtain ⟨X0, oe, pn, e, hz, hd⟩ := h.xs i a C d h1
  have xc := h.xc ci C h2
  have hkc := (hk ci C h2).2
  subst e
  refine (pe_callB (call_isX (d := d) xc.ec hz hd) hg hmi (by decide +kernel) (pa_cons V (pa_cons V2 pa_nil rfl) rfl) (by decide) (by decide) rfl rfl).run pins s σ H Q I ?_
  exact ⟨_, h4, v, cv, _, rfl, hcv, hkc, h3, h5⟩
theorem sndE_e (ih : Snd T k n) (h : Cok G T k c X) : ∀ (e : Expr) (r : E), trE c (n + 1) e = some r → PE X e (tOf G (evE (callF T k) r)) := by
  intro e r hr
  unfold trE at hr
  split at hr
  case h_1 => cases hr
  case h_2 =>
    rename_i x p hm
    cases hm
    split at hr
    · rename_i hn
      split at hr
      · rename_i hv
        rw [Option.map_eq_some_iff] at hr
        obtain ⟨i, hi, rfl⟩ := hr
        exact PE.imp (snd_var h hn hv hi) fun σ H Q q => var_of (tGn_congr (fun env => by simp only [evE]) q)
      · split at hr
        · rename_i hgl
          rw [Option.map_eq_some_iff] at hr
          obtain ⟨d, hd, rfl⟩ := hr
          obtain ⟨v, u, hm, rv, hdv⟩ := h.gts x d hd
          refine PE.imp (pe_glob (by show X.env.kindOf x = _; unfold Env.kindOf; rw [h.sc]; exact glB_ok hgl) hm rv (nmB_ok hn).1) fun σ H Q q => ?_
          obtain ⟨F0, B, F, env, R, q⟩ := q
          simp only [evE] at q
          exact q v F H (Gr.refl R.g.s) (hdv F)
        · cases hr
    · cases hr
  case h_3 =>
    rename_i kk j p hm
    cases hm
    rw [Option.map_eq_some_iff] at hr
    obtain ⟨d, hd, rfl⟩ := hr
    have fin : ∀ {v : V}, PE X (.Constant kk j p) (tC v) → (∀ F, Dv G.K F v d) → PE X (.Constant kk j p) (tOf G (evE (callF T k) (.c d))) := fun {v} hp hv => PE.imp hp fun σ H Q q => by
      obtain ⟨F0, B, F, env, R, q⟩ := q
      simp only [evE] at q
      exact q v F H (Gr.refl R.g.s) (hv F)
    unfold trC at hd
    split at hd
    · cases hd; exact fin pe_non fun F => .non
    · cases hd; exact fin pe_bl fun F => .bl _
    · cases hd; exact fin pe_int fun F => .int _
    · cases hd
      rename_i s
      refine fin (v := .str s) pe_str fun F => ?_
      have q := Dv.str (K := G.K) (F := F) s.cps.toList
      rw [Array.toArray_toList] at q
      exact q
    · cases hd
  case h_4 =>
    rename_i m a o b p hm
    cases hm
    simp only [Option.bind_eq_some_iff] at hr
    obtain ⟨o', ho, a', ha, b', hb, hr⟩ := hr
    cases hr
    rw [bopOf_ok ho]
    refine PE.imp (pe_op (bop_ok o') (ih.e G c X h a a' ha) (ih.e G c X h b b' hb)) fun σ H Q q => ?_
    rw [h.K]
    exact op_read (tGn_congr (fun env => by simp only [evE]) q)
  case h_5 =>
    rename_i m a p hm
    cases hm
    rw [Option.map_eq_some_iff] at hr
    obtain ⟨a', ha, rfl⟩ := hr
    refine PE.imp (pe_un neg_ok (ih.e G c X h a a' ha)) fun σ H Q q => ?_
    rw [h.K]
    exact un_read (tGn_congr (fun env => by simp only [evE]) q)
  case h_6 =>
    rename_i m a p hm
    cases hm
    rw [Option.map_eq_some_iff] at hr
    obtain ⟨a', ha, rfl⟩ := hr
    refine PE.imp (pe_notT (ih.e G c X h a a' ha)) fun σ H Q q => ?_
    rw [h.K]
    exact not_read (tGn_congr (fun env => by simp only [evE]) q)
  case h_7 =>
    rename_i m o a b vs p hm
    cases hm
    exact (ih.b G c X h o _ r p hr).1
  case h_8 =>
    rename_i m a o b p hm
    cases hm
    simp only [Option.bind_eq_some_iff] at hr
    obtain ⟨o', ho, a', ha, b', hb, hr⟩ := hr
    cases hr
    rw [copOf_ok ho]
    refine PE.imp (pe_cmpR (cop_ok (by have := h.un; omega) o') (ih.e G c X h a a' ha) (ih.e G c X h b b' hb) (set_no hb _)) fun σ H Q q => ?_
    rw [h.K]
    exact op_read (tGn_congr (fun env => by simp only [evE]) q)
  case h_9 =>
    rename_i m a o o2 b d p hm
    cases hm
    simp only [Option.bind_eq_some_iff] at hr
    obtain ⟨o', ho, p', hp, a', ha, b', hb, d', hd, hr⟩ := hr
    cases hr
    rw [copOf_ok ho, copOf_ok hp]
    refine PE.imp (pe_chain (cop_ok (by have := h.un; omega) o') (cop_ok (by have := h.un; omega) p') (ih.e G c X h a a' ha) (ih.e G c X h b b' hb) (ih.e G c X h d d' hd) (show behindInMarks (cmpOf p') d = false from set_no hd _)) fun σ H Q q => ?_
    rw [h.K]
    exact chn_read (tGn_congr (fun env => by simp only [evE]) q)
  case h_10 =>
    rename_i m t a b p hm
    cases hm
    simp only [Option.bind_eq_some_iff] at hr
    obtain ⟨t', ht, a', ha, b', hb, hr⟩ := hr
    cases hr
    refine PE.imp (pe_ifExp (ih.t G c X h t t' ht) (ih.e G c X h a a' ha) (ih.e G c X h b b' hb)) fun σ H Q q => ?_
    exact ife_read (tGn_congr (fun env => by simp only [evE]) q)
  case h_11 =>
    rename_i m x p es ps hm
    cases hm
    split at hr
    · rename_i hc
      rw [Bool.and_eq_true] at hc
      have hgl : Gl X x := by show X.env.kindOf x = _; unfold Env.kindOf; rw [h.sc]; exact glB_ok hc.2
      have hnm := (nmB_ok hc.1).1
      split at hr
      · rename_i f np dd hf
        simp only [Option.bind_eq_some_iff] at hr
        obtain ⟨rs, hl, hr⟩ := hr
        split at hr
        · rename_i hcnd
          rw [Bool.and_eq_true] at hcnd
          have hsup : c.sup = false := by simpa using hcnd.2
          have hr := Option.some.inj hr
          subst hr
          obtain ⟨a, fd, qs, ds, dvs, hF, hmg, hk, hb, hv, hd, hq⟩ := h.fns x f np dd hf
          have hA := (ih.l G c X h es rs hl).2
          generalize rs.length + dd.length - np = j at *
          have e1 : evE (callF T k) (.call f (rs ++ (dd.drop j).map E.c)) = fun env => (evA (callF T k) rs env).bind fun xs => callF T k f (xs ++ dd.drop j) := by
            funext env
            simp only [evE, evA_app, Out.assoc]
            rfl
          rw [e1]
          cases es with
          | nil =>
            have e2 : rs = [] := List.eq_nil_of_length_eq_zero (trL_len hl)
            subst e2
            refine PE.imp (call_G0 h.K hF h.gd (h.room hsup) hgl hmg hk (hb j) (hv.drop j) (fun F => (hd F).drop j) h.tk hnm) fun σ H Q q => tGn_congr (fun env => ?_) q
            simp only [evA, Out.bind, List.nil_append]
          | cons e0 es =>
            obtain ⟨s1, s2⟩ := star_all hl X.env ps
            have hs : starEach (e0 :: es) X.env = (false, eval e0 X.env) :: starEach es X.env := by
              cases n with
              | zero => simp only [trL] at hl; cases hl
              | succ n =>
                simp only [trL, Option.bind_eq_some_iff] at hl
                obtain ⟨r0, g1, _⟩ := hl
                exact star_no g1 es X.env
            have hpl : (backTo ps (starEach es X.env)).any (·.1) = false := by
              rw [hs] at s2
              exact s2
            exact call_G h.K hF h.gd (h.room hsup) hgl hmg hk (hb j) (hv.drop j) (fun F => (hd F).drop j) h.tk hA hnm hs hpl
        · cases hr
      · split at hr
        · rename_i b hb
          split at hr
          · cases hr
          · rename_i hne
            split at hr
            case isFalse => cases hr
            rename_i hob
            rw [Option.map_eq_some_iff] at hr
            obtain ⟨rs, hl, rfl⟩ := hr
            have hA := (ih.l G c X h es rs hl).1
            cases es with
            | nil => exact (hne rfl).elim
            | cons e0 es =>
              obtain ⟨s1, s2⟩ := star_all hl X.env ps
              have hs : starEach (e0 :: es) X.env = (false, eval e0 X.env) :: starEach es X.env := by
                cases n with
                | zero => simp only [trL] at hl; cases hl
                | succ n =>
                  simp only [trL, Option.bind_eq_some_iff] at hl
                  obtain ⟨r0, g1, _⟩ := hl
                  exact star_no g1 es X.env
              have hpl : (backTo ps (starEach es X.env)).any (·.1) = false := by
                rw [hs] at s2
                exact s2
              refine PE.imp (pe_bltv h hob hb hgl hA hs hpl) fun σ H Q q => ?_
              rw [h.K]
              exact blt_read (tGn_congr (fun env => by simp only [evE]) q)
        · exact is_ok h hgl hr
    · cases hr
  case h_12 =>
    rename_i m o mn ap es ps hm
    cases hm
    split at hr
    · rename_i hc
      rw [Bool.and_eq_true] at hc
      simp only [Option.bind_eq_some_iff] at hr
      obtain ⟨m', hm', o', ho, hr⟩ := hr
      rw [mthOf_ok hm']
      have hO := ih.e G c X h o o' ho
      split at hr
      · have hr := Option.some.inj hr
        subst hr
        refine PE.imp (pe_m0 (mth_slot m') (mth_ty m') (mth_ok m') hO (baseOk_ok hc.1 _ _ _) hc.2) fun σ H Q q => ?_
        rw [h.K]
        exact mth0_read (tGn_congr (fun env => by simp only [evE, evL]) q)
      · rename_i e0
        rw [Option.map_eq_some_iff] at hr
        obtain ⟨e', he, rfl⟩ := hr
        have hs : starEach [e0] X.env = [(false, eval e0 X.env)] := star_no he [] X.env
        refine PE.imp (pe_m1 (mth_slot m') (mth_ty m') (mth_ok m') hO (ih.e G c X h e0 e' he) hs (baseOk_ok hc.1 _ _ _) hc.2) fun σ H Q q => ?_
        rw [h.K]
        exact mth1_read (tGn_congr (fun env => by simp only [evE, evL]) q)
      · cases hr
    · cases hr
  case h_13 =>
    rename_i m a lo hi p1 p2 hm
    cases hm
    simp only [Option.bind_eq_some_iff] at hr
    obtain ⟨a', ha, l', hl, h', hh, hr⟩ := hr
    cases hr
    refine PE.imp (pe_slice getS_ok (ih.e G c X h a a' ha) (ih.o G c X h lo l' hl) (ih.o G c X h hi h' hh)) fun σ H Q q => ?_
    rw [h.K]
    exact slc_read (tGn_congr (fun env => by simp only [evE]) q)
  case h_14 =>
    rename_i m a kk p1 p2 p3 p4 hm
    cases hm
    rw [Option.map_eq_some_iff] at hr
    obtain ⟨a', ha, rfl⟩ := hr
    have hA := ih.e G c X h a a' ha
    refine PE.imp (PE.or (pe_revS hA) (pe_revL hA)) fun σ H Q q => ?_
    rw [h.K]
    exact rev_read (tGn_congr (fun env => by simp only [evE]) q)
  case h_15 =>
    rename_i m a b p hn1 hn2 hm
    cases hm
    simp only [Option.bind_eq_some_iff] at hr
    obtain ⟨a', ha, b', hb, hr⟩ := hr
    cases hr
    refine PE.imp (pe_ix getI_ok (ih.e G c X h a a' ha) (ih.e G c X h b b' hb) (plain_ix hb)) fun σ H Q q => ?_
    rw [h.K]
    exact ix_read (tGn_congr (fun env => by simp only [evE]) q)
  case h_16 =>
    rename_i m es p hm
    cases hm
    rw [Option.map_eq_some_iff] at hr
    obtain ⟨rs, hl, rfl⟩ := hr
    refine PE.imp (pe_lst (ih.l G c X h es rs hl).2) fun σ H Q q => ?_
    exact lst_read (tGn_congr (fun env => by simp only [evE]) q)
  case h_17 =>
    rename_i m es kk p hm
    cases hm
    rw [Option.map_eq_some_iff] at hr
    obtain ⟨rs, hl, rfl⟩ := hr
    refine PE.imp (pe_tup (ih.l G c X h es rs hl).2) fun σ H Q q => ?_
    exact tup_read (tGn_congr (fun env => by simp only [evE]) q)
  case h_18 =>
    rename_i m e0 tg it ifs s p hm
    cases hm
    simp only [Option.bind_eq_some_iff] at hr
    obtain ⟨i', hi, t', ht, fs, hf, e', he, hr⟩ := hr
    split at hr
    · rename_i hcond
      have hr := Option.some.inj hr
      subst hr
      rw [Bool.and_eq_true, Bool.and_eq_true, Bool.and_eq_true] at hcond
      have hsup : c.sup = false := by simpa using hcond.2
      have hcond := hcond.1
      have ok : BlkOk X.N X.env.scope s (ownOf c.N s.names) := by
        rw [h.N, h.sc]
        exact blkOk_by hcond.1.1
      have hns := subB_ok hcond.1.2
      have hlen := of_decide_eq_true hcond.2
      obtain ⟨hI, hfold⟩ := ih.i G c X h it tg i' hi
      have hg : ∀ (s1 : Shared) (H : Hp) (C : Addr) (cl : List (Str × Addr)) (fp : List Addr), PG (X.blk s1 H s (compEnvC s cl C X.env) fp) tg (tTg G.no t') := fun s1 H C cl fp => sndT (h.blk hsup s s1 H cl C fp) n tg t' ht
      have hE : ∀ (s1 : Shared) (H : Hp) (C : Addr) (cl : List (Str × Addr)) (fp : List Addr), PE (X.blk s1 H s (compEnvC s cl C X.env) fp) e0 (tOf G.no (evE (callF T k) e')) := fun s1 H C cl fp => ih.e G.no (c.blk s) _ (h.blk hsup s s1 H cl C fp) e0 e' he
      have go : ∀ (tt : TT), (∀ (s1 : Shared) (H : Hp) (C : Addr) (cl : List (Str × Addr)) (fp : List Addr), PTs (X.blk s1 H s (compEnvC s cl C X.env) fp) ifs tt) → (∀ σ H Q, tTs G.no (evC (callF T k) fs) σ H Q → tt σ H Q) →
          PE X (.ListComp e0 [⟨tg, it, ifs, 0⟩] s p) (tOf G (evE (callF T k) (.cmpr e' t' i' fs ((ownOf c.N s.names).map (·.2))))) := fun tt hT htt =>
        PE.imp (pe_lc (h.calm hsup) (by rw [h.N]; exact h.nd) hI ok hg hT hE (hfold X.env)) fun σ H Q q => cmp_read htt hns (tGn_congr (fun env => by simp only [evE, cmpM]; rfl) q)
      cases ifs with
      | nil =>
        have e2 : fs = [] := List.eq_nil_of_length_eq_zero (trL_len hf)
        subst e2
        refine go tYes (fun s1 H C cl fp => pts_nil) fun σ H Q q => ?_
        obtain ⟨F0, B, F, env, R, q⟩ := q
        simp only [evC] at q
        exact q true F H (Gr.refl R.g.s) rfl
      | cons c0 rest =>
        have e3 := trL_len hf
        have e5 : rest = [] := List.eq_nil_of_length_eq_zero (by rw [List.length_cons] at e3; omega)
        subst e5
        match fs, hf, e3, go with
        | [f0], hf, e3, go => exact go (tTs G.no (evT (callF T k) f0)) (fun s1 H C cl fp => pts_one (ih.f G.no (c.blk s) _ (h.blk hsup s s1 H cl C fp) c0 f0 hf)) fun σ H Q q => tGn_congr (fun env => by simp only [evC]) q
    · cases hr
  case h_19 =>
    rename_i m x p f pos hm
    cases hm
    split at hr
    · rename_i hc
      simp only [Bool.and_eq_true] at hc
      rw [Option.map_eq_some_iff] at hr
      obtain ⟨i, hi, rfl⟩ := hr
      exact fld_ok h hc.1.1 hc.1.2 (by simpa using hc.2) hi
    · cases hr
  case h_20 => cases hr
theorem it_kh {α : Type} {m : Out α} {f : α → Out Bool} : True := True.intro
theorem sndE_t (ih : Snd T k n) (h : Cok G T k c X) : ∀ (e : Expr) (r : E), trE c (n + 1) e = some r → PT X e (tTs G (evT (callF T k) r)) := by
  intro e r hr
  have he := sndE_e ih h e r hr
  -- a value's truth
  have val : (∀ whole, isTrue e X.env whole = (do let v ← whole; standAt e.pos; holding [v] (truthy v))) → (∀ env, evT (callF T k) r env = (evE (callF T k) r env).bind tru) → PT X e (tTs G (evT (callF T k) r)) := fun h1 h2 =>
    PT.imp (pt_truth he h1) fun σ H Q q => by
      rw [h.K]
      exact tru_read (tGn_congr h2 q)
  have never : (∀ env, evT (callF T k) r env = .stk) → PT X e (tTs G (evT (callF T k) r)) := fun h2 => ⟨fun pins s σ H Q I q => by
    obtain ⟨F0, B, F, env, R, q⟩ := q
    rw [h2] at q
    exact q.elim⟩
  unfold trE at hr
  split at hr
  case h_1 => cases hr
  case h_2 =>
    rename_i x p hm
    cases hm
    split at hr
    · split at hr
      · rw [Option.map_eq_some_iff] at hr
        obtain ⟨i, hi, rfl⟩ := hr
        exact val (fun _ => rfl) fun env => by simp only [evT, evE]
      · split at hr
        · rw [Option.map_eq_some_iff] at hr
          obtain ⟨d, hd, rfl⟩ := hr
          exact val (fun _ => rfl) fun env => by simp only [evT, evE, Out.bind]
        · cases hr
    · cases hr
  case h_3 =>
    rename_i kk j p hm
    cases hm
    rw [Option.map_eq_some_iff] at hr
    obtain ⟨d, hd, rfl⟩ := hr
    exact val (fun _ => rfl) fun env => by simp only [evT, evE, Out.bind]
  case h_4 =>
    simp only [Option.bind_eq_some_iff] at hr
    obtain ⟨o', ho, a', ha, b', hb, hr⟩ := hr
    cases hr
    exact never fun env => by simp only [evT]
  case h_5 =>
    rw [Option.map_eq_some_iff] at hr
    obtain ⟨a', ha, rfl⟩ := hr
    exact never fun env => by simp only [evT]
  case h_6 =>
    rename_i m a p hm
    cases hm
    rw [Option.map_eq_some_iff] at hr
    obtain ⟨a', ha, rfl⟩ := hr
    refine PT.imp (pt_not (ih.t G c X h a a' ha)) fun σ H Q q => ?_
    exact tnot_read (tGn_congr (fun env => by simp only [evT]) q)
  case h_7 =>
    rename_i m o a b vs p hm
    cases hm
    exact (ih.b G c X h o _ r p hr).2.pt
  case h_8 =>
    rename_i m a o b p hm
    cases hm
    simp only [Option.bind_eq_some_iff] at hr
    obtain ⟨o', ho, a', ha, b', hb, hr⟩ := hr
    cases hr
    rw [copOf_ok ho]
    refine PT.imp (pt_cmpR (cop_ok (by have := h.un; omega) o') (ih.e G c X h a a' ha) (ih.e G c X h b b' hb) (set_no hb _)) fun σ H Q q => ?_
    rw [h.K]
    refine op_read (asB_read (tGn_congr (fun env => ?_) q))
    simp only [evT, Out.assoc]
  case h_9 =>
    rename_i m a o o2 b d p hm
    cases hm
    simp only [Option.bind_eq_some_iff] at hr
    obtain ⟨o', ho, p', hp, a', ha, b', hb, d', hd, hr⟩ := hr
    cases hr
    rw [copOf_ok ho, copOf_ok hp]
    refine PT.imp (pt_chain (cop_ok (by have := h.un; omega) o') (cop_ok (by have := h.un; omega) p') (ih.e G c X h a a' ha) (ih.e G c X h b b' hb) (ih.e G c X h d d' hd) (show behindInMarks (cmpOf p') d = false from set_no hd _)) fun σ H Q q => ?_
    rw [h.K]
    refine chn_read (asB_read (tGn_congr (fun env => ?_) q))
    simp only [evT, Out.assoc]
    congr 1
    funext x
    congr 1
    funext y
    congr 1
    funext z
    congr 1
    funext kk
    cases kk
    · rfl
    · simp only [if_true, Out.assoc]
  case h_10 =>
    simp only [Option.bind_eq_some_iff] at hr
    obtain ⟨t', ht, a', ha, b', hb, hr⟩ := hr
    cases hr
    exact never fun env => by simp only [evT]
  case h_11 =>
    rename_i m x p es ps hm
    cases hm
    split at hr
    · split at hr
      · rename_i f np dd hf
        simp only [Option.bind_eq_some_iff] at hr
        obtain ⟨rs, hl, hr⟩ := hr
        split at hr
        · have hr := Option.some.inj hr
          subst hr
          exact val (fun _ => rfl) fun env => by simp only [evT, evE, Out.assoc]
        · cases hr
      · split at hr
        · split at hr
          · cases hr
          · split at hr
            case isFalse => cases hr
            rw [Option.map_eq_some_iff] at hr
            obtain ⟨rs, hl, rfl⟩ := hr
            exact val (fun _ => rfl) fun env => by simp only [evT, evE, Out.assoc]
        · obtain ⟨_, _, _, _, _, _, _, _, _, _, _, _, _, _, rfl⟩ := trIs_inv hr
          exact val (fun _ => rfl) fun env => by simp only [evT, evE, Out.assoc]
    · cases hr
  case h_12 =>
    rename_i m o mn ap es ps hm
    cases hm
    split at hr
    · simp only [Option.bind_eq_some_iff] at hr
      obtain ⟨m', hm', o', ho, hr⟩ := hr
      split at hr
      · have hr := Option.some.inj hr
        subst hr
        exact val (fun _ => rfl) fun env => by simp only [evT, evE, Out.assoc]
      · rw [Option.map_eq_some_iff] at hr
        obtain ⟨e', he', rfl⟩ := hr
        exact val (fun _ => rfl) fun env => by simp only [evT, evE, Out.assoc]
      · cases hr
    · cases hr
  case h_13 =>
    simp only [Option.bind_eq_some_iff] at hr
    obtain ⟨a', ha, l', hl, h', hh, hr⟩ := hr
    cases hr
    exact never fun env => by simp only [evT]
  case h_14 =>
    rw [Option.map_eq_some_iff] at hr
    obtain ⟨a', ha, rfl⟩ := hr
    exact never fun env => by simp only [evT]
  case h_15 =>
    rename_i m a b p hn1 hn2 hm
    cases hm
    simp only [Option.bind_eq_some_iff] at hr
    obtain ⟨a', ha, b', hb, hr⟩ := hr
    cases hr
    exact val (fun _ => rfl) fun env => by simp only [evT, evE, Out.assoc]
  case h_16 =>
    rw [Option.map_eq_some_iff] at hr
    obtain ⟨rs, hl, rfl⟩ := hr
    exact never fun env => by simp only [evT]
  case h_17 =>
    rw [Option.map_eq_some_iff] at hr
    obtain ⟨rs, hl, rfl⟩ := hr
    exact never fun env => by simp only [evT]
  case h_18 =>
    simp only [Option.bind_eq_some_iff] at hr
    obtain ⟨i', hi, t', ht, fs, hf, e', he', hr⟩ := hr
    split at hr
    · have hr := Option.some.inj hr
      subst hr
      exact never fun env => by simp only [evT]
    · cases hr
  case h_19 =>
    split at hr
    · rw [Option.map_eq_some_iff] at hr
      obtain ⟨i, hi, rfl⟩ := hr
      exact val (fun _ => rfl) fun env => by simp only [evT, evE]
    · cases hr
  case h_20 => cases hr
theorem sndE_b (ih : Snd T k n) (h : Cok G T k c X) (o : BoolOp) (vs : List Expr) (r : E) (pos : Pos) (hr : trB c (n + 1) o vs = some r) : PE X (.BoolOp o vs pos) (tOf G (evE (callF T k) r)) ∧ PW X (.BoolOp o vs pos) (tTs G (evT (callF T k) r)) := by
  match vs, hr with
  | [], hr => simp only [trB] at hr; cases hr
  | [a], hr =>
    simp only [trB] at hr
    refine ⟨pe_one (ih.e G c X h a r hr), ?_⟩
    have ht := ih.t G c X h a r hr
    cases o
    · exact pw_and1 ht
    · exact pw_or1 ht
  | a :: b :: rest, hr =>
    simp only [trB, Option.bind_eq_some_iff] at hr
    obtain ⟨a', ha, b', hb, hr⟩ := hr
    obtain ⟨g1, g2⟩ := ih.b G c X h o (b :: rest) b' pos hb
    cases o with
    | And =>
      cases hr
      refine ⟨PE.imp (pe_and (ih.e G c X h a a' ha) g1) fun σ H Q q => and_read (tGn_congr (fun env => by simp only [evE]) q), PW.imp (pw_and (ih.t G c X h a a' ha) g2) fun σ H Q q => tand_read (tGn_congr (fun env => by simp only [evT]) q)⟩
    | Or =>
      cases hr
      refine ⟨PE.imp (pe_or (ih.e G c X h a a' ha) g1) fun σ H Q q => or_read (tGn_congr (fun env => by simp only [evE]) q), PW.imp (pw_or (ih.t G c X h a a' ha) g2) fun σ H Q q => tor_read (tGn_congr (fun env => by simp only [evT]) q)⟩
theorem sndE_l (ih : Snd T k n) (h : Cok G T k c X) (es : List Expr) (rs : List E) (hr : trL c (n + 1) es = some rs) : PA X es (tAr G (evL (callF T k) rs)) ∧ PA X es (tAD G (evA (callF T k) rs)) := by
  match es, hr with
  | [], hr =>
    simp only [trL] at hr
    cases hr
    exact ⟨PA.imp pa_nil fun σ H Q q => ar_nil (tGn_congr (fun env => by simp only [evL]) q), PA.imp pa_nil fun σ H Q q => ad_nil (tGn_congr (fun env => by simp only [evA]) q)⟩
  | e :: es, hr =>
    simp only [trL, Option.bind_eq_some_iff] at hr
    obtain ⟨r, h1, rs', h2, h3⟩ := hr
    cases h3
    obtain ⟨g1, g2⟩ := ih.l G c X h es rs' h2
    have hs := star_no h1 es X.env
    have he := ih.e G c X h e r h1
    exact ⟨PA.imp (pa_cons he g1 hs) fun σ H Q q => ar_cons (tGn_congr (fun env => by simp only [evL]) q), PA.imp (pa_cons he g2 hs) fun σ H Q q => ad_cons (tGn_congr (fun env => by simp only [evA]) q)⟩
theorem sndE_o (ih : Snd T k n) (h : Cok G T k c X) (e : Option Expr) (r : E) (hr : trO c (n + 1) e = some r) : PO X e (tPt G fun env => partE r (evE (callF T k) r env)) := by
  match e, hr with
  | none, hr =>
    simp only [trO] at hr
    cases hr
    refine ⟨fun pins s σ H Q I q => po_none.run pins s σ H Q I ?_⟩
    obtain ⟨F0, B, F, env, R, q⟩ := q
    exact q none F H (Gr.refl R.g.s) rfl
  | some e, hr =>
    simp only [trO, Option.bind_eq_some_iff] at hr
    obtain ⟨r', h1, h2⟩ := hr
    have he := ih.e G c X h e r' h1
    have e0 : r' = r ∧ ∀ env, partE r (evE (callF T k) r env) = (evE (callF T k) r env).bind part := by
      split at h2
      · cases h2
      · rename_i hne
        have h3 := Option.some.inj h2
        refine ⟨h3, fun env => ?_⟩
        unfold partE
        split
        · exact (hne h3).elim
        · rfl
    obtain ⟨e1, e2⟩ := e0
    subst e1
    exact ⟨fun pins s σ H Q I q => (po_some he).run pins s σ H Q I (part_read (tGn_congr e2 q))⟩
theorem src_nv {e : Expr} {r : E} (h : Cok G T k c X) (hr : trE c n e = some r) (he : PE X e (tOf G (evE (callF T k) r))) : PE X e (tSr G (vr r) fun env => srcOf r (evE (callF T k) r env)) := by
  by_cases hv : ∃ i, r = .var i
  · obtain ⟨i, rfl⟩ := hv
    obtain ⟨x, p, rfl, h1, h2, h3⟩ := trE_var hr
    refine PE.imp (snd_var h h1 h2 h3) fun σ H Q q => src_var (G := G) ?_
    obtain ⟨F0, B, F, env, R, q⟩ := q
    simp only [evE] at q
    exact ⟨F0, B, F, env, R, q⟩
  · have hb : ∀ xs, brw r (.bor xs) = false := fun xs => by
      cases r <;> first | rfl | exact absurd ⟨_, rfl⟩ hv
    have q := src_nb (ns := vr r) he hb
    exact q
theorem sndE_i (ih : Snd T k n) (h : Cok G T k c X) (e tg : Expr) (r : It) (hr : trI c (n + 1) e tg = some r) : PI X tg e (tIt G r.vars (evI (callF T k) r)) ∧ ∀ (env : PySem.Env) (x : Value), foldedSetIterable e env x = pure x := by
  have sq : ∀ r, (trE c n e).map It.seq = some r → PI X tg e (tIt G r.vars (evI (callF T k) r)) := fun r hr => by
    rw [Option.map_eq_some_iff] at hr
    obtain ⟨r', h1, rfl⟩ := hr
    refine PI.imp (pi_any h.K (src_nv h h1 (ih.e G c X h e r' h1))) fun σ H R q => ?_
    obtain ⟨F0, B, F, env, R0, q⟩ := q
    simp only [evI] at q
    exact ⟨F0, B, F, env, R0, q⟩
  have fold : ∀ r, (trE c n e).map It.seq = some r → ∀ (env : PySem.Env) (x : Value), foldedSetIterable e env x = pure x := fun r hr env x => by
    rw [Option.map_eq_some_iff] at hr
    obtain ⟨r', h1, rfl⟩ := hr
    cases n with
    | zero => simp only [trE] at h1; cases h1
    | succ n =>
      cases e with
      | Set v p q => simp only [trE] at h1; cases h1
      | _ => rfl
  simp only [trI] at hr
  split at hr
  · rename_i x p es ps
    refine ⟨?_, fun _ _ => rfl⟩
    split at hr
    · rename_i hc
      rw [Bool.and_eq_true, Bool.and_eq_true] at hc
      have hgl : Gl X x := by show X.env.kindOf x = _; unfold Env.kindOf; rw [h.sc]; exact glB_ok hc.1.2
      split at hr
      · rename_i ex
        subst ex
        have hm : X.mg "range" = none := h.mg _ (by decide +kernel)
        split at hr
        · rename_i a
          rw [Option.map_eq_some_iff] at hr
          obtain ⟨rs, hl, rfl⟩ := hr
          have hs := (star_all hl X.env ps).1
          refine PI.imp (pi_rng1 hgl hm (ih.l G c X h [a] rs hl).1 hs) fun σ H R q => ?_
          obtain ⟨F0, B, F, env, R0, q⟩ := q
          refine ⟨F0, B, F, env, R0, ?_⟩
          simp only [evI] at q
          have hlen := trL_len hl
          match rs, hlen, q with
          | [r0], _, q =>
            simp only [evL] at q ⊢
            revert q
            cases evE (callF T k) r0 env <;> exact fun q => q
        · rename_i a b
          rw [Option.map_eq_some_iff] at hr
          obtain ⟨rs, hl, rfl⟩ := hr
          have hs := (star_all hl X.env ps).1
          have hs2 : starEach [b] X.env = [(false, eval b X.env)] := by
            have e1 : starEach [a, b] X.env = (false, eval a X.env) :: starEach [b] X.env := by
              cases n with
              | zero => simp only [trL] at hl; cases hl
              | succ n =>
                simp only [trL, Option.bind_eq_some_iff] at hl
                obtain ⟨r0, g1, _⟩ := hl
                exact star_no g1 [b] X.env
            rw [e1] at hs
            exact (List.cons.inj hs).2
          refine PI.imp (pi_rng2 hgl hm (ih.l G c X h [a, b] rs hl).1 hs hs2) fun σ H R q => ?_
          obtain ⟨F0, B, F, env, R0, q⟩ := q
          refine ⟨F0, B, F, env, R0, ?_⟩
          simp only [evI] at q
          have hlen := trL_len hl
          match rs, hlen, q with
          | [r0, r1], _, q =>
            simp only [evL] at q ⊢
            revert q
            cases evE (callF T k) r0 env <;> first | exact fun q => q | (cases evE (callF T k) r1 env <;> exact fun q => q)
        · rename_i a b d
          rw [Option.map_eq_some_iff] at hr
          obtain ⟨rs, hl, rfl⟩ := hr
          obtain ⟨_, hs⟩ := star_all hl X.env ps
          have e1 : starEach [a, b, d] X.env = (false, eval a X.env) :: starEach [b, d] X.env := by
            cases n with
            | zero => simp only [trL] at hl; cases hl
            | succ n =>
              simp only [trL, Option.bind_eq_some_iff] at hl
              obtain ⟨r0, g1, _⟩ := hl
              exact star_no g1 [b, d] X.env
          have hpl : (backTo ps (starEach [b, d] X.env)).any (·.1) = false := by
            rw [e1] at hs
            exact hs
          refine PI.imp (pi_rng3 hgl hm (ih.l G c X h [a, b, d] rs hl).1 e1 hpl) fun σ H R q => ?_
          obtain ⟨F0, B, F, env, R0, q⟩ := q
          refine ⟨F0, B, F, env, R0, ?_⟩
          simp only [evI] at q
          have hlen := trL_len hl
          match rs, hlen, q with
          | [r0, r1, r2], _, q =>
            simp only [evL] at q ⊢
            revert q
            cases evE (callF T k) r0 env <;> first | exact fun q => q | (cases evE (callF T k) r1 env <;> first | exact fun q => q | (cases evE (callF T k) r2 env <;> exact fun q => q))
        · cases hr
      · split at hr
        · rename_i ex
          subst ex
          have hm : X.mg "zip" = none := h.mg _ (by decide +kernel)
          split at hr
          · rename_i a b
            split at hr
            case isFalse => cases hr
            rename_i htu
            obtain ⟨elts, kk, tp, rfl⟩ := isTup_ok htu
            simp only [Option.bind_eq_some_iff, Option.map_eq_some_iff] at hr
            obtain ⟨a', ha, b', hb, rfl⟩ := hr
            refine PI.imp (pi_zipD h.K hgl hm (src_nv h ha (ih.e G c X h a a' ha)) (src_nv h hb (ih.e G c X h b b' hb)) (star_no ha [b] X.env) (star_no hb [] X.env)) fun σ H R q => ?_
            obtain ⟨F0, B, F, env, R0, q⟩ := q
            simp only [evI] at q
            exact ⟨F0, B, F, env, R0, q⟩
          · cases hr
        · split at hr
          · rename_i ex
            subst ex
            have hm : X.mg "enumerate" = none := h.mg _ (by decide +kernel)
            split at hr
            · rename_i a
              split at hr
              case isFalse => cases hr
              rename_i htu
              obtain ⟨elts, kk, tp, rfl⟩ := isTup_ok htu
              rw [Option.map_eq_some_iff] at hr
              obtain ⟨a', ha, rfl⟩ := hr
              refine PI.imp (pi_enumD h.K hgl hm (src_nv h ha (ih.e G c X h a a' ha)) (star_no ha [] X.env)) fun σ H R q => ?_
              obtain ⟨F0, B, F, env, R0, q⟩ := q
              simp only [evI] at q
              exact ⟨F0, B, F, env, R0, q⟩
            · cases hr
          · split at hr
            · rename_i ex
              subst ex
              have hm : X.mg "reversed" = none := h.mg _ (by decide +kernel)
              split at hr
              · rename_i a
                rw [Option.map_eq_some_iff] at hr
                obtain ⟨a', ha, rfl⟩ := hr
                refine PI.imp (pi_revD h.K hgl hm (src_nv h ha (ih.e G c X h a a' ha)) (star_no ha [] X.env)) fun σ H R q => ?_
                obtain ⟨F0, B, F, env, R0, q⟩ := q
                simp only [evI] at q
                exact ⟨F0, B, F, env, R0, q⟩
              · cases hr
            · exact sq r hr
    · exact sq r hr
  · exact ⟨sq r hr, fold r hr⟩
theorem sndE (T : List Fn) (k : Nat) : ∀ n : Nat, Snd T k n
  | 0 => {
    e := fun G c X h e r hr => by simp only [trE] at hr; cases hr
    t := fun G c X h e r hr => by simp only [trE] at hr; cases hr
    o := fun G c X h e r hr => by simp only [trO] at hr; cases hr
    b := fun G c X h o vs r pos hr => by simp only [trB] at hr; cases hr
    l := fun G c X h es rs hr => by simp only [trL] at hr; cases hr
    f := fun G c X h e r hr => by simp only [trL] at hr; cases hr
    i := fun G c X h e tg r hr => by simp only [trI] at hr; cases hr }
  | n + 1 => {
    e := fun G c X h => sndE_e (sndE T k n) h
    t := fun G c X h => sndE_t (sndE T k n) h
    o := fun G c X h => sndE_o (sndE T k n) h
    b := fun G c X h => sndE_b (sndE T k n) h
    l := fun G c X h => sndE_l (sndE T k n) h
    f := fun G c X h e r hr => by
      simp only [trL, Option.bind_eq_some_iff] at hr
      obtain ⟨r', h1, rs, h2, h3⟩ := hr
      cases h3
      exact (sndE T k n).t G c X h e _ h1
    i := fun G c X h => sndE_i (sndE T k n) h }
end
end Pd
set_option Elab.async false
set_option linter.all false
set_option maxRecDepth 100000
set_option autoImplicit false
set_option maxHeartbeats 4000000
/-! Statements: what their meaning on data asks of the heap. -/
namespace Pd
open PySem PyProof.Rows L2 TL RZ
open Evl (Ex ex_l ex_t)

/-- the lists that are walked; what was known when the walk began -/
abbrev LkT := (Nat → Option (Addr × List V × List D)) × Hp
/-- .. and the lists that are walked stand as they stood -/
structure RepS (K : Gp) (F0 B : Hp) (P : LkT) (F : Hp) (σ : L2.St) (H : Hp) (env : Env) : Prop where
  r : Rep K F0 B F σ H env
  l : ∀ i p vs xs, P.1 i = some (p, vs, xs) → env[i]? = some (Sl.lk xs) ∧ σ[i]? = some (some (.ref p)) ∧ H p = some (.lst vs)
  c : ∀ i xs, env[i]? = some (Sl.lk xs) → P.1 i ≠ none
  k : Ex P.2 F
theorem lk_set {env : Env} {i j : Nat} {a : Sl} {xs : List D} (h : (env.set i a)[j]? = some (.lk xs)) (ha : ∀ ys, a ≠ .lk ys) : env[j]? = some (.lk xs) := by
  by_cases e : i = j
  · subst e
    by_cases hl : i < env.length
    · rw [List.getElem?_set_self hl] at h
      exact absurd (Option.some.inj h) (ha xs)
    · rw [List.getElem?_eq_none (by simp; omega)] at h
      cases h
  · rw [List.getElem?_set_ne e] at h
    exact h
theorem sl_lk {r : Rv} {a : Sl} (e : r.sl = some a) : ∀ ys, a ≠ .lk ys := fun ys z => by subst z; cases r <;> cases e
def sat (G : Gp) (F0 B : Hp) (P : LkT) (De : Ends) : Option Fl → Prop
  | some (.nx e) => ∀ σ' F' H', RepS G F0 B P F' σ' H' e → De.nx σ' H'
  | some (.rt r) => ∀ v F' H', Gr F0 B F' H' → RV G.K B F' H' v r → De.rt v H'
  | some (.bk e) => ∀ σ' F' H', RepS G F0 B P F' σ' H' e → De.bk σ' H'
  | some (.ct e) => ∀ σ' F' H', RepS G F0 B P F' σ' H' e → De.ct σ' H'
  | some (.rs x e) => ∀ cls d σ' F' H', RepS G F0 B P F' σ' H' e → XR G x cls d F' H' → G.W cls d σ' H'
  | none => False
def tS (G : Gp) (m : Env → Option Fl) : TS := fun De σ H => ∃ F0 B P F env, RepS G F0 B P F σ H env ∧ sat G F0 B P De (m env)
section
variable {G : Gp} {F0 B F H F' H' : Hp} {P : LkT} {σ : L2.St} {env : Env} {De : Ends}
theorem tS_congr {m m' : Env → Option Fl} (h : ∀ env, m env = m' env) (q : tS G m De σ H) : tS G m' De σ H := by
  rw [← funext h]
  exact q
theorem RepS.up (R : RepS G F0 B P F σ H env) (g : Gr F H F' H') : RepS G F0 B P F' σ H' env := ⟨R.r.up g, fun i p vs xs e => by
  obtain ⟨h1, h2, h3⟩ := R.l i p vs xs e
  exact ⟨h1, h2, g.h _ _ h3⟩, R.c, R.k.trans g.f⟩
theorem lk_ne {i j : Nat} {xs : List D} (h : stOk env i = true) (hj : env[j]? = some (.lk xs)) : i ≠ j := fun e => by
  subst e
  unfold stOk at h
  rw [hj] at h
  cases h
theorem own_st {i : Nat} {xs : List D} (h : env[i]? = some (.own xs)) : stOk env i = true := by
  unfold stOk
  rw [h]
theorem RepS.put (R : RepS G F0 B P F σ H env) (g : Gr F H F' H') {i : Nat} {u : V} {r : Rv} {a : Sl} (h : RV G.K H F' H' u r) (e : r.sl = some a) (hs : stOk env i = true) : RepS G F0 B P F' (σ.set i (some u)) H' (env.set i a) :=
  ⟨R.r.put g h e, fun j p vs xs hp => by
    obtain ⟨h1, h2, h3⟩ := R.l j p vs xs hp
    have hne := lk_ne hs h1
    exact ⟨by rw [List.getElem?_set_ne hne]; exact h1, by rw [List.getElem?_set_ne hne]; exact h2, g.h _ _ h3⟩, fun j xs h => R.c j xs (lk_set h (sl_lk e)), R.k.trans g.f⟩
/-- an expression's value within a statement -/
theorem use_e {α β : Type} {Rel : RelT α β} {m : Env → Out α} {f : α → Option Fl} (R : RepS G F0 B P F σ H env) (q : sat G F0 B P De ((m env).st env f)) {Q : β → Hp → Prop}
    (k : ∀ v F1 H1 a, Gr F H F1 H1 → Rel H F1 H1 v a → sat G F0 B P De (f a) → Q v H1) : tGn G Rel m σ H Q := by
  refine ⟨F0, B, F, env, R.r, ?_⟩
  cases em : m env with
  | stk => rw [em] at q; exact q.elim
  | exc x => rw [em] at q; exact fun cls d F' H' g xr => q cls d σ F' H' (R.up g) xr
  | ok a => rw [em] at q; exact fun v F1 H1 g rv => k v F1 H1 a g rv q
/-- .. that becomes known -/
theorem use_d {m : Env → Out Rv} {f : D → Option Fl} (R : RepS G F0 B P F σ H env) (q : sat G F0 B P De (((m env).bind Rv.fz).st env f)) {Q : VK}
    (k : ∀ v F1 H1 d, Gr F H F1 H1 → Dv G.K F1 v d → sat G F0 B P De (f d) → Q v H1) : tOf G m σ H Q := by
  refine ⟨F0, B, F, env, R.r, ?_⟩
  cases em : m env with
  | stk => rw [em] at q; exact q.elim
  | exc x => rw [em] at q; exact fun cls d F' H' g xr => q cls d σ F' H' (R.up g) xr
  | ok r =>
    rw [em] at q
    intro v F1 H1 g rv
    cases ef : r.fz with
    | stk => rw [Out.bind, ef] at q; exact q.elim
    | exc x => cases r <;> cases ef
    | ok d =>
      rw [Out.bind, ef] at q
      obtain ⟨F2, g2, hd⟩ := rv.known g ef
      exact k v F2 H1 d g2 hd q
/-- the list of a name is changed -/
theorem RepS.own (R : RepS G F0 B P F σ H env) {i : Nat} {xs : List D} (hi : env[i]? = some (.own xs)) : ∃ p vs, σ[i]? = some (some (.ref p)) ∧ H p = some (.lst vs) ∧ DvL G.K F vs xs ∧
    ∀ F1 H1, Gr F H F1 H1 → ∀ ws ys, DvL G.K F1 ws ys → RepS G F0 B P F1 σ (upd H1 p (.lst ws)) (env.set i (.own ys)) := by
  obtain ⟨p, vs, h1, h2, h3, h4, h5⟩ := R.r.o i xs (.inl hi)
  refine ⟨p, vs, h1, h2, h5, fun F1 H1 g ws ys hw => ?_⟩
  have R1 := R.up g
  have hF1 : F1 p = none := by
    cases q : F1 p with
    | none => rfl
    | some o => have := g.n p h3 (by rw [q]; simp); rw [h2] at this; cases this
  have hil : i < env.length := (List.getElem?_eq_some_iff.mp hi).1
  refine ⟨⟨R1.r.g.mut hF1 h4, by rw [List.length_set]; exact R.r.len, fun j d hj => ?_, fun j zs hj => ?_, fun j l zs ts q hjl hj hl e1 e2 => ?_, fun j y hj => by
      obtain ⟨a, C, d, x1, x2, x3, x4⟩ := R1.r.x j y (exc_set hj fun _ z => by cases z).2
      exact ⟨a, C, d, x1, x2, x3, x4.mut (g.h _ _ h2)⟩⟩, fun j q us zs hp => ?_, fun j zs h => R.c j zs (lk_set h fun _ z => by cases z), R1.k⟩
  · by_cases e : i = j
    · subst e
      rw [List.getElem?_set_self hil] at hj
      cases hj
    · rw [List.getElem?_set_ne e] at hj
      exact R1.r.v j d hj
  · rcases has_set hj with ⟨e, z⟩ | ⟨e, z⟩
    · subst e
      have ez : ys = zs := by rcases z with z | z <;> (cases z; try rfl)
      subst ez
      exact ⟨p, ws, h1, upd_same, hF1, h4, hw⟩
    · obtain ⟨q, us, g1, g2, g3, g4, g5⟩ := R1.r.o j zs z
      have hne : q ≠ p := fun e0 => R.r.d i j xs zs p (Ne.symm e) (.inl hi) z h1 (by rw [← e0]; exact g1)
      exact ⟨q, us, g1, by rw [upd_ne hne]; exact g2, g3, g4, g5⟩
  · have back : ∀ (j : Nat) (zs : List D), Has (env.set i (.own ys)) j zs → ∃ zs', Has env j zs' := fun j zs hj => by
      rcases has_set hj with ⟨e, z⟩ | ⟨e, z⟩
      · subst e; exact ⟨xs, .inl hi⟩
      · exact ⟨zs, z⟩
    obtain ⟨z1, b1⟩ := back j zs hj
    obtain ⟨z2, b2⟩ := back l ts hl
    exact R.r.d j l z1 z2 q hjl b1 b2 e1 e2
  · obtain ⟨g1, g2, g3⟩ := R1.l j q us zs hp
    have hne := lk_ne (own_st hi) g1
    have hqp : q ≠ p := fun e0 => R.r.d i j xs zs p hne (.inl hi) (.inr g1) h1 (by rw [← e0]; exact g2)
    exact ⟨by rw [List.getElem?_set_ne hne]; exact g1, g2, by rw [upd_ne hqp]; exact g3⟩
theorem frz1_lk {i j : Nat} {xs : List D} (h : env[j]? = some (.lk xs)) : (frz1 i env)[j]? = some (.lk xs) := by
  unfold frz1
  split
  · rename_i ys e
    have hne : i ≠ j := fun z => by subst z; rw [h] at e; cases e
    rw [List.getElem?_set_ne hne]
    exact h
  · exact h
theorem frzL_lk : ∀ (is : List Nat) {env : Env} {j : Nat} {xs : List D}, env[j]? = some (.lk xs) → (frzL is env)[j]? = some (.lk xs)
  | [], _, _, _, h => h
  | i :: is, env, j, xs, h => frzL_lk is (frz1_lk h)
theorem frzL_lk' : ∀ (is : List Nat) {env : Env} {j : Nat} {xs : List D}, (frzL is env)[j]? = some (.lk xs) → env[j]? = some (.lk xs)
  | [], _, _, _, h => h
  | i :: is, env, j, xs, h => by
    have h1 := frzL_lk' is h
    unfold frz1 at h1
    split at h1
    · exact lk_set h1 fun _ z => by cases z
    · exact h1
theorem RepS.frz (R : RepS G F0 B P F σ H env) (is : List Nat) : ∃ F', RepS G F0 B P F' σ H (frzL is env) := by
  obtain ⟨F', e, R'⟩ := Rep.frzL is R.r
  refine ⟨F', R', fun i p vs xs e => by
  obtain ⟨h1, h2, h3⟩ := R.l i p vs xs e
  exact ⟨frzL_lk is h1, h2, h3⟩, fun i xs h => R.c i xs (frzL_lk' is h), R.k.trans e⟩
end

/-! ### single statements -/
section
variable {X : Cx} {G : Gp} {De : Ends} {σ : L2.St} {H : Hp} {cf : Nat → List D → Out Rv}
theorem frz_read {is : List Nat} {s : S} (q : tS G (evS cf (.frz is s)) De σ H) : tS G (evS cf s) De σ H := by
  obtain ⟨F0, B, P, F, env, R, q⟩ := q
  obtain ⟨F', R'⟩ := R.frz is
  simp only [evS] at q
  exact ⟨F0, B, P, F', _, R', q⟩
theorem skip_read (q : tS G (evS cf .skip) De σ H) : tNext De σ H := by
  obtain ⟨F0, B, P, F, env, R, q⟩ := q
  simp only [evS] at q
  exact q σ F H R
theorem brk_read (q : tS G (evS cf .brk) De σ H) : tBreak De σ H := by
  obtain ⟨F0, B, P, F, env, R, q⟩ := q
  simp only [evS] at q
  exact q σ F H R
theorem cnt_read (q : tS G (evS cf .cnt) De σ H) : tCont De σ H := by
  obtain ⟨F0, B, P, F, env, R, q⟩ := q
  simp only [evS] at q
  exact q σ F H R
theorem asg_read {i : Nat} {e : E} (q : tS G (evS cf (.asg (.nm i) e)) De σ H) : tAsg (tOf G (evE cf e)) (gName i) De σ H := by
  obtain ⟨F0, B, P, F, env, R, q⟩ := q
  simp only [evS] at q
  refine use_e R q fun v F1 H1 r g rv hq => ?_
  unfold setO at hq
  split at hq
  · rename_i hs
    split at hq
    · rename_i a ea
      exact hq _ F1 H1 (R.put g rv ea hs)
    · exact hq.elim
  · exact hq.elim

end
/-! targets -/
mutual
theorem tgOk_ns {env : Env} : ∀ (t : Tg), tgOk env t = true → ∀ j ∈ t.ns, stOk env j = true
  | .nm i, h, j, hj => by
    have e := List.mem_singleton.mp hj
    subst e
    exact h
  | .tp ts, h, j, hj => tgOkL_ns ts h j hj
theorem tgOkL_ns {env : Env} : ∀ (ts : List Tg), tgOkL env ts = true → ∀ j ∈ Tg.nsL ts, stOk env j = true
  | [], _, j, hj => by cases hj
  | t :: ts, h, j, hj => by
    simp only [tgOkL, Bool.and_eq_true] at h
    rcases List.mem_append.mp hj with z | z
    · exact tgOk_ns t h.1 j z
    · exact tgOkL_ns ts h.2 j z
end
mutual
theorem tgt_lk : ∀ (t : Tg) (d : D) (env env1 : Env), tgt t d env = some env1 → ∀ (j : Nat) (xs : List D), env1[j]? = some (.lk xs) → env[j]? = some (.lk xs)
  | .nm i, d, env, env1, h, j, xs, e => by
    have e' := Option.some.inj h
    rw [← e'] at e
    exact lk_set e fun _ z => by cases z
  | .tp ts, d, env, env1, h, j, xs, e => by
    cases d with
    | tup ds => exact tgtL_lk ts ds env env1 h j xs e
    | _ => cases h
theorem tgtL_lk : ∀ (ts : List Tg) (ds : List D) (env env1 : Env), tgtL ts ds env = some env1 → ∀ (j : Nat) (xs : List D), env1[j]? = some (.lk xs) → env[j]? = some (.lk xs)
  | [], [], env, env1, h, j, xs, e => by
    have e' := Option.some.inj h
    rw [e']
    exact e
  | [], _ :: _, _, _, h, _, _, _ => by cases h
  | _ :: _, [], _, _, h, _, _, _ => by cases h
  | t :: ts, d :: ds, env, env1, h, j, xs, e => by
    cases e1 : tgt t d env with
    | none => simp only [tgtL, e1, Option.bind_none] at h; cases h
    | some env2 =>
      simp only [tgtL, e1, Option.bind_some] at h
      exact tgt_lk t d env env2 e1 j xs (tgtL_lk ts ds env2 env1 h j xs e)
end
section
variable {G : Gp} {F0 B F H F' H' : Hp} {P : LkT} {σ : L2.St} {env : Env} {De : Ends} {cf : Nat → List D → Out Rv}
theorem RepS.tgt (R : RepS G F0 B P F σ H env) {t : Tg} {d : D} {env1 : Env} (hk : tgOk env t = true) (e : Pd.tgt t d env = some env1) {σ' : L2.St} (R' : Rep G F0 B F σ' H env1) (k : Keeps t.ns σ σ' env env1) : RepS G F0 B P F σ' H env1 :=
  ⟨R', fun j p vs xs hp => by
    obtain ⟨h1, h2, h3⟩ := R.l j p vs xs hp
    have hj : j ∉ t.ns := fun z => lk_ne (tgOk_ns t hk j z) h1 rfl
    exact ⟨(k j hj).2.trans h1, (k j hj).1.trans h2, h3⟩, fun j xs h => R.c j xs (tgt_lk t d env env1 e j xs h), R.k⟩
theorem tgS_ok {t : Tg} {d : D} {env1 : Env} (h : tgS t d env = some env1) : tgOk env t = true ∧ Pd.tgt t d env = some env1 := by
  unfold tgS at h
  split at h
  · exact ⟨by assumption, h⟩
  · cases h
theorem tg_use (R : RepS G F0 B P F σ H env) {t : Tg} {d : D} {env1 : Env} (h : tgS t d env = some env1) {v : V} (hd : Dv G.K F v d) {Q : L2.St → Hp → Prop} (q : ∀ σ', RepS G F0 B P F σ' H env1 → Q σ' H) : tTg G t v σ H Q := by
  obtain ⟨h1, h2⟩ := tgS_ok h
  exact ⟨F0, B, F, env, d, env1, R.r, hd, h2, fun σ' R' k => q σ' (R.tgt h1 h2 R' k)⟩
theorem asgT_read {ts : List Tg} {e : E} (q : tS G (evS cf (.asg (.tp ts) e)) De σ H) : tAsg (tOf G (evE cf e)) (tTg G (.tp ts)) De σ H := by
  obtain ⟨F0, B, P, F, env, R, q⟩ := q
  simp only [evS] at q
  refine use_e R q fun v F1 H1 r g rv hq => ?_
  split at hq
  · rename_i d
    cases et : tgS (.tp ts) d env with
    | none => rw [et] at hq; exact hq.elim
    | some env1 =>
      rw [et] at hq
      exact tg_use (R.up g) et rv fun σ' R' => hq σ' F1 H1 R'
  · exact hq.elim
theorem retV_read {i : Nat} (q : tS G (evS cf (.ret (.var i))) De σ H) : tRet (tVar i) De σ H := by
  obtain ⟨F0, B, P, F, env, R, q⟩ := q
  simp only [evS] at q
  split at q
  · rename_i xs e
    obtain ⟨p, vs, h1, h2, h3, h4, h5⟩ := R.r.o i xs (.inl e)
    exact ⟨_, h1, q _ F H R.r.g ⟨p, vs, rfl, h2, h3, h4, h5⟩⟩
  · rename_i d e
    obtain ⟨u, h1, h2⟩ := R.r.v i d e
    exact ⟨u, h1, q u F H R.r.g h2⟩
  · exact q.elim
def retM (cf : Nat → List D → Out Rv) (e : E) (env : Env) : Option Fl := (evE cf e env).st env fun r => match r with
    | .bor _ => none
    | r => some (.rt r)
theorem ret_read {e : E} (q : tS G (retM cf e) De σ H) : tRet (tOf G (evE cf e)) De σ H := by
  obtain ⟨F0, B, P, F, env, R, q⟩ := q
  refine use_e R q fun v F1 H1 r g rv hq => ?_
  split at hq
  · exact hq.elim
  · exact hq v F1 H1 (R.r.g.trans g) (rv.old R.r.g.h)
theorem evS_ret {e : E} (h : ∀ i, e ≠ .var i) (env : Env) : evS cf (.ret e) env = retM cf e env := by
  cases e with
  | var i => exact absurd rfl (h i)
  | _ => simp only [evS, retM]; try rfl
theorem retN_read (q : tS G (evS cf .retN) De σ H) : tRetN De σ H := by
  obtain ⟨F0, B, P, F, env, R, q⟩ := q
  simp only [evS] at q
  exact q .non F H R.r.g .non
theorem ex_read {e : E} (q : tS G (evS cf (.ex e)) De σ H) : tDrop (tOf G (evE cf e)) De σ H := by
  obtain ⟨F0, B, P, F, env, R, q⟩ := q
  simp only [evS] at q
  exact use_e R q fun v F1 H1 r g rv hq => hq σ F1 H1 (R.up g)
theorem ifs_read {c : E} {a b : List S} (q : tS G (evS cf (.ifs c a b)) De σ H) : tIfS (tTs G (evT cf c)) (tS G (evB cf a)) (tS G (evB cf b)) De σ H := by
  obtain ⟨F0, B, P, F, env, R, q⟩ := q
  simp only [evS] at q
  refine use_e R q fun v F1 H1 r g rv hq => ?_
  have rv : v = r := rv
  subst rv
  split
  · rename_i hb
    rw [if_pos hb] at hq
    exact ⟨F0, B, P, F1, env, R.up g, hq⟩
  · rename_i hb
    rw [if_neg hb] at hq
    exact ⟨F0, B, P, F1, env, R.up g, hq⟩
theorem nil_read (q : tS G (evB cf []) De σ H) : tNext De σ H := by
  obtain ⟨F0, B, P, F, env, R, q⟩ := q
  simp only [evB] at q
  exact q σ F H R
theorem cons_read {s : S} {r : List S} (q : tS G (evB cf (s :: r)) De σ H) : tSeq (tS G (evS cf s)) (tS G (evB cf r)) De σ H := by
  obtain ⟨F0, B, P, F, env, R, q⟩ := q
  simp only [evB] at q
  refine ⟨F0, B, P, F, env, R, ?_⟩
  cases em : evS cf s env with
  | none => rw [em] at q; exact q.elim
  | some f =>
    rw [em] at q
    cases f with
    | nx e => exact fun σ' F' H' R' => ⟨F0, B, P, F', e, R', q⟩
    | rt r => exact q
    | bk e => exact q
    | ct e => exact q
    | rs x e => exact q
/-- a method of a list that a name owns -/
theorem tyL {K : Fg} {p : Addr} {vs : List V} (h : H p = some (.lst vs)) : tyV K "list" (.ref p) H := .inl ⟨rfl, vs, SqL.of h⟩
theorem app_read {i : Nat} {e : E} (q : tS G (evS cf (.app i e)) De σ H) : tDrop (tBM G.K "list" rAppend (tVar i) (tCons (tOf G (evE cf e)) tNil)) De σ H := by
  obtain ⟨F0, B, P, F, env, R, q⟩ := q
  simp only [evS] at q
  split at q
  · rename_i xs ei
    obtain ⟨p, vs, h1, h2, h3, mk⟩ := R.own ei
    refine ⟨_, h1, tyL h2, use_d R q fun v F1 H1 d g hd hq => ?_⟩
    split at hq
    · rename_i hl
      exact ⟨p, vs, v, rfl, rfl, g.h _ _ h2, by rw [h3.len]; exact hl, hq _ F1 _ (mk F1 H1 g _ _ ((h3.up g.f).app (.cons hd .nil)))⟩
    · exact hq.elim
  · exact q.elim
theorem ext_read {i : Nat} {e : E} (q : tS G (evS cf (.ext i e)) De σ H) : tDrop (tBM G.K "list" rExtend (tVar i) (tCons (tOf G (evE cf e)) tNil)) De σ H := by
  obtain ⟨F0, B, P, F, env, R, q⟩ := q
  simp only [evS] at q
  split at q
  · rename_i xs ei
    obtain ⟨p, vs, h1, h2, h3, mk⟩ := R.own ei
    refine ⟨_, h1, tyL h2, use_e R q fun v F1 H1 r g rv hq => ?_⟩
    split at hq
    · rename_i ys ey
      obtain ⟨b, ws, rfl, g1, g2⟩ := rv.lst g.s ey
      split at hq
      · rename_i hl
        exact ⟨p, b, vs, ws, rfl, rfl, g.h _ _ h2, g1, by rw [h3.len, g2.len]; exact hl, hq _ F1 _ (mk F1 H1 g _ _ ((h3.up g.f).app g2))⟩
      · exact hq.elim
    · exact hq.elim
  · exact q.elim
theorem getLast_of {xs : List D} (h : xs.isEmpty = false) : ∃ d, xs[xs.length - 1]? = some d := by
  cases xs with
  | nil => cases h
  | cons a r => exact ⟨_, List.getElem?_eq_getElem (by simp)⟩
theorem pop_read {i : Nat} (q : tS G (evS cf (.pop i)) De σ H) : tDrop (tBM0 G.K "list" rPop (tVar i)) De σ H := by
  obtain ⟨F0, B, P, F, env, R, q⟩ := q
  simp only [evS] at q
  split at q
  · rename_i xs ei
    obtain ⟨p, vs, h1, h2, h3, mk⟩ := R.own ei
    split at q
    · exact q.elim
    · rename_i hne
      obtain ⟨d, hd⟩ := getLast_of (Bool.eq_false_iff.mpr hne)
      obtain ⟨y, hy, hdv⟩ := h3.get hd
      exact ⟨_, h1, tyL h2, p, vs, y, rfl, rfl, h2, by rw [h3.len]; exact hy, q _ F _ (mk F H (Gr.refl R.r.g.s) _ _ h3.dropLast)⟩
  · exact q.elim
theorem popA_read {t i : Nat} (q : tS G (evS cf (.popA t i)) De σ H) : tAsg (tBM0 G.K "list" rPop (tVar i)) (gName t) De σ H := by
  obtain ⟨F0, B, P, F, env, R, q⟩ := q
  simp only [evS] at q
  split at q
  · exact q.elim
  · rename_i hc
    have hti : t ≠ i := fun e => hc (.inl e)
    have hst : stOk env t = true := by
      cases e : stOk env t with
      | true => rfl
      | false => exact absurd (.inr e) hc
    split at q
    · rename_i xs ei
      obtain ⟨p, vs, h1, h2, h3, mk⟩ := R.own ei
      split at q
      · rename_i d hd
        obtain ⟨y, hy, hdv⟩ := h3.get hd
        refine ⟨_, h1, tyL h2, p, vs, y, rfl, rfl, h2, by rw [h3.len]; exact hy, ?_⟩
        have R1 := mk F H (Gr.refl R.r.g.s) _ _ h3.dropLast
        refine q _ F _ (R1.put (r := .v d) (Gr.refl R1.r.g.s) hdv rfl ?_)
        unfold stOk at hst ⊢
        rw [List.getElem?_set_ne (Ne.symm hti)]
        exact hst
      · exact q.elim
    · exact q.elim
theorem sub_read {i : Nat} {ix e : E} (q : tS G (evS cf (.sub i ix e)) De σ H) : tAsg (tOf G (evE cf e)) (gSub (tVar i) (tOf G (evE cf ix)) rSetL) De σ H := by
  obtain ⟨F0, B, P, F, env, R, q⟩ := q
  simp only [evS] at q
  split at q
  · rename_i xs ei
    obtain ⟨p, vs, h1, h2, h3, mk⟩ := R.own ei
    refine use_e (De := De) R (q := ?_) (m := evE cf e) (f := fun r => (r.fz).st env fun d => (evE cf ix env).st env fun k => match k with
      | .v (.int n) => (match ixN xs.length n with
        | some j => some (.nx (env.set i (.own (xs.set j d))))
        | none => none)
      | _ => none) (fun v F1 H1 r g rv (hq : sat G F0 B P De _) => ?_)
    · cases em : evE cf e env with
      | ok r => rw [em] at q; exact q
      | exc x => rw [em] at q; exact q
      | stk => rw [em] at q; exact q
    · cases ef : r.fz with
      | stk => rw [ef] at hq; exact hq.elim
      | exc x => cases r <;> cases ef
      | ok d =>
        rw [ef] at hq
        obtain ⟨F2, g2, hd⟩ := rv.known g ef
        refine ⟨_, h1, use_e (R.up g2) hq fun k F3 H3 k' g3 rk hq3 => ?_⟩
        split at hq3
        · rename_i n
          cases rk
          split at hq3
          · rename_i j hj
            exact ⟨p, vs, n, j, rfl, rfl, (g2.trans g3).h _ _ h2, by rw [h3.len]; exact hj, hq3 _ F3 _ (mk F3 H3 (g2.trans g3) _ _ ((h3.up (g2.trans g3).f).set (hd.up g3.f) j))⟩
          · exact hq3.elim
        · exact hq3.elim
  · exact q.elim
theorem par_read {i j : Nat} {a b : E} (q : tS G (evS cf (.par i j a b)) De σ H) : tPar i j (tCons (tOf G (evE cf a)) (tCons (tOf G (evE cf b)) tNil)) De σ H := by
  obtain ⟨F0, B, P, F, env, R, q⟩ := q
  simp only [evS] at q
  refine use_e R q fun v F1 H1 x g rv hq => ?_
  refine use_e (R.up g) hq fun u F2 H2 y g2 ru hq2 => ?_
  refine ⟨v, u, rfl, ?_⟩
  split at hq2
  · rename_i p q' ep eq
    split at hq2
    · rename_i hc
      have R1 := R.put g rv ep hc.2.1
      refine hq2 _ F2 H2 (R1.put g2 ru eq ?_)
      have hst := hc.2.2
      unfold stOk at hst ⊢
      rw [List.getElem?_set_ne hc.1]
      exact hst
    · exact hq2.elim
  · exact hq2.elim
theorem wh_read {c : E} {b : List S} (q : tS G (evS cf (.wh c b)) De σ H) : tWhile (tTs G (evT cf c)) (tS G (evB cf b)) De σ H := by
  obtain ⟨F0, B, P, F, env, R, q⟩ := q
  simp only [evS] at q
  refine ⟨fun m σ H => ∃ F env, RepS G F0 B P F σ H env ∧ sat G F0 B P De (whL (evT cf c) (evB cf b) m env), ⟨wfuel, F, env, R, q⟩, ?_⟩
  rintro m σ H ⟨F, env, R, q⟩
  cases m with
  | zero => exact q.elim
  | succ n =>
    rw [whL] at q
    refine use_e R q fun v F1 H1 r g rv hq => ?_
    have rv : v = r := rv
    subst rv
    split
    · rename_i hb
      rw [if_pos hb] at hq
      refine ⟨fun σ H => ∃ F env, RepS G F0 B P F σ H env ∧ sat G F0 B P De (whL (evT cf c) (evB cf b) n env), fun σ' H' z => ⟨n, Nat.lt_succ_self n, z⟩, F0, B, P, F1, env, R.up g, ?_⟩
      cases em : evB cf b env with
      | none => rw [em] at hq; exact hq.elim
      | some f =>
        rw [em] at hq
        cases f with
        | nx e => exact fun σ' F' H' R' => ⟨F', e, R', hq⟩
        | ct e => exact fun σ' F' H' R' => ⟨F', e, R', hq⟩
        | bk e => exact hq
        | rt r => exact hq
        | rs x e => exact hq
    · rename_i hb
      rw [if_neg hb] at hq
      exact hq σ F1 H1 (R.up g)
end

/-! ### for -/
section
variable {G : Gp} {F0 B F H F' H' F1 : Hp} {P : LkT} {σ : L2.St} {env : Env} {De : Ends} {cf : Nat → List D → Out Rv}
/-- a list is unlocked -/
theorem RepS.unlock {i : Nat} {p : Addr} {vs : List V} {xs : List D} (hP : P.1 i = none) (R : RepS G F0 B (fun j => if j = i then some (p, vs, xs) else P.1 j, P.2) F σ H env) : RepS G F0 B P F σ H (env.set i (.own xs)) := by
  obtain ⟨h1, h2, h3⟩ := R.l i p vs xs (by simp)
  have hil : i < env.length := (List.getElem?_eq_some_iff.mp h1).1
  have hb : ∀ j zs, Has (env.set i (.own xs)) j zs → Has env j zs := fun j zs hj => by
    rcases has_set hj with ⟨e, z⟩ | ⟨e, z⟩
    · subst e
      rcases z with z | z
      · cases z
        exact .inr h1
      · cases z
    · exact z
  refine ⟨⟨R.r.g, by rw [List.length_set]; exact R.r.len, fun j d hj => ?_, fun j zs hj => R.r.o j zs (hb j zs hj), fun j l zs ts q hjl hj hl => R.r.d j l zs ts q hjl (hb j zs hj) (hb l ts hl), fun j y hj => R.r.x j y (exc_set hj fun _ z => by cases z).2⟩, fun j q us zs hp => ?_, fun j zs h => ?_, R.k⟩
  · by_cases e : i = j
    · subst e
      rw [List.getElem?_set_self hil] at hj
      cases hj
    · rw [List.getElem?_set_ne e] at hj
      exact R.r.v j d hj
  · have hne : j ≠ i := fun e => by subst e; rw [hP] at hp; cases hp
    obtain ⟨g1, g2, g3⟩ := R.l j q us zs (by simp [hne]; exact hp)
    exact ⟨by rw [List.getElem?_set_ne (Ne.symm hne)]; exact g1, g2, g3⟩
  · have h0 := lk_set h fun _ z => by cases z
    have hne : j ≠ i := fun e => by
      subst e
      rw [List.getElem?_set_self hil] at h
      cases h
    have := R.c j zs h0
    simp [hne] at this
    exact this
/-- .. and locked -/
theorem RepS.lock (R : RepS G F0 B P F σ H env) {i : Nat} {xs : List D} (hi : env[i]? = some (.own xs)) : ∃ p vs, P.1 i = none ∧ RepS G F0 B (fun j => if j = i then some (p, vs, xs) else P.1 j, P.2) F σ H (env.set i (.lk xs)) := by
  obtain ⟨p, vs, h1, h2, h3, h4, h5⟩ := R.r.o i xs (.inl hi)
  have hP : P.1 i = none := by
    cases e : P.1 i with
    | none => rfl
    | some w =>
      obtain ⟨q, us, zs⟩ := w
      obtain ⟨g1, _⟩ := R.l i q us zs e
      rw [hi] at g1
      cases g1
  have hil : i < env.length := (List.getElem?_eq_some_iff.mp hi).1
  have hb : ∀ j zs, Has (env.set i (.lk xs)) j zs → Has env j zs := fun j zs hj => by
    rcases has_set hj with ⟨e, z⟩ | ⟨e, z⟩
    · subst e
      rcases z with z | z
      · cases z
      · cases z
        exact .inl hi
    · exact z
  refine ⟨p, vs, hP, ⟨R.r.g, by rw [List.length_set]; exact R.r.len, fun j d hj => ?_, fun j zs hj => R.r.o j zs (hb j zs hj), fun j l zs ts q hjl hj hl => R.r.d j l zs ts q hjl (hb j zs hj) (hb l ts hl), fun j y hj => R.r.x j y (exc_set hj fun _ z => by cases z).2⟩, fun j q us zs hp => ?_, fun j zs h => ?_, R.k⟩
  · by_cases e : i = j
    · subst e
      rw [List.getElem?_set_self hil] at hj
      cases hj
    · rw [List.getElem?_set_ne e] at hj
      exact R.r.v j d hj
  · by_cases e : j = i
    · subst e
      simp at hp
      obtain ⟨rfl, rfl, rfl⟩ := hp
      exact ⟨List.getElem?_set_self hil, h1, h2⟩
    · simp [e] at hp
      obtain ⟨g1, g2, g3⟩ := R.l j q us zs hp
      exact ⟨by rw [List.getElem?_set_ne (Ne.symm e)]; exact g1, g2, g3⟩
  · by_cases e : j = i
    · simp [e]
    · simp [e]
      rw [List.getElem?_set_ne (Ne.symm e)] at h
      exact R.c j zs h
theorem lock_all {run : Env → Option Fl} : ∀ (is : List Nat) {P : LkT} {env : Env}, RepS G F0 B P F σ H env → sat G F0 B P De (lockF run is env) →
    ∃ (P' : LkT) (env' : Env), RepS G F0 B P' F σ H env' ∧ sat G F0 B P' De (run env') ∧ (∀ i, i ∈ is → ∀ xs, Has env' i xs → P'.1 i ≠ none) ∧ (∀ i, P.1 i ≠ none → P'.1 i ≠ none) ∧ ∀ (j : Nat) (xs : List D), env'[j]? = some (Sl.own xs) → env[j]? = some (Sl.own xs)
  | [], P, env, R, q => ⟨P, env, R, q, (fun _ h => by cases h), (fun _ h => h), fun _ _ h => h⟩
  | i :: is, P, env, R, q => by
    unfold lockF at q
    split at q
    · rename_i xs hi
      obtain ⟨p, vs, hP, R1⟩ := R.lock hi
      have q1 : sat G F0 B (fun j => if j = i then some (p, vs, xs) else P.1 j, P.2) De (lockF run is (env.set i (.lk xs))) := by
        cases er : lockF run is (env.set i (.lk xs)) with
        | none => rw [er] at q; exact q.elim
        | some f =>
          rw [er] at q
          cases f with
          | nx e => exact fun σ' F' H' R' => q σ' F' H' (R'.unlock hP)
          | rt r => exact q
          | bk e => exact q.elim
          | ct e => exact q.elim
          | rs x e => exact fun cls d σ' F' H' R' xr => q cls d σ' F' H' (R'.unlock hP) xr
      obtain ⟨P', env', R', q', h1, h2, h3⟩ := lock_all is R1 q1
      refine ⟨P', env', R', q', fun j hj xs' hh => ?_, fun j hj => h2 j ?_, fun j ys e => ?_⟩
      · rcases List.mem_cons.mp hj with e | e
        · subst e
          exact h2 j (by simp)
        · exact h1 j e xs' hh
      · by_cases e : j = i
        · simp [e]
        · simp [e]; exact hj
      · have h4 := h3 j ys e
        by_cases z : i = j
        · subst z
          rw [List.getElem?_set_self (List.getElem?_eq_some_iff.mp hi).1] at h4
          cases h4
        · rw [List.getElem?_set_ne z] at h4
          exact h4
    · rename_i hn
      obtain ⟨P', env', R', q', h1, h2, h3⟩ := lock_all is R q
      refine ⟨P', env', R', q', fun j hj xs' hh => ?_, h2, h3⟩
      rcases List.mem_cons.mp hj with e | e
      · subst e
        rcases hh with hh | hh
        · exact absurd (h3 j xs' hh) (hn xs')
        · exact R'.c j xs' hh
      · exact h1 j e xs' hh
theorem RepS.low (R : RepS G F0 B (P.1, F1) F σ H env) (e : Ex P.2 F1) : RepS G F0 B P F σ H env := ⟨R.r, R.l, R.c, e.trans R.k⟩
theorem sat_up {m : Option Fl} (e : Ex P.2 F1) (q : sat G F0 B P De m) : sat G F0 B (P.1, F1) De m := by
  cases m with
  | none => exact q
  | some f =>
    cases f with
    | nx _ => exact fun σ' F' H' R' => q σ' F' H' (R'.low e)
    | rt _ => exact q
    | bk _ => exact fun σ' F' H' R' => q σ' F' H' (R'.low e)
    | ct _ => exact fun σ' F' H' R' => q σ' F' H' (R'.low e)
    | rs _ _ => exact fun cls d σ' F' H' R' xr => q cls d σ' F' H' (R'.low e) xr
theorem fr_read {t : Tg} {it : It} {b : List S} (q : tS G (evS cf (.fr t it b)) De σ H) : tFor (tIt G it.vars (evI cf it)) (tTg G t) (tS G (evB cf b)) De σ H := by
  obtain ⟨F0, B, P, F, env, R, q⟩ := q
  simp only [evS] at q
  obtain ⟨P', env', R', q', hown, _⟩ := lock_all it.vars R q
  refine ⟨F0, B, F, env', R'.r, ?_⟩
  have q' : sat G F0 B P' De ((evI cf it env').st env' fun ds => forL (fun d e => (tgS t d e).bind fun e1 => evB cf b e1) ds env') := q'
  cases ei : evI cf it env' with
  | stk => rw [ei] at q'; exact q'.elim
  | exc x => rw [ei] at q'; exact fun cls d F' H' g xr => q' cls d σ F' H' (R'.up g) xr
  | ok ds =>
    rw [ei] at q'
    intro J F1 H1 g1 wk
    obtain ⟨Gd, Y, A, w, hst, hA, hy⟩ := wk.ex
    have R0 : RepS G F0 B (P'.1, F1) F1 σ H1 env' := ⟨(R'.up g1).r, (R'.up g1).l, R'.c, Ex.refl F1⟩
    have eP2 : Ex P'.2 F1 := R'.k.trans g1.f
    have q' := sat_up eP2 q'
    have stand : ∀ {F2 H2 : Hp} {σ2 : L2.St} {env2 : Env}, RepS G F0 B (P'.1, F1) F2 σ2 H2 env2 → Gd H2 := fun {F2 H2 σ2 env2} R2 => hst H2 (R2.k.trans R2.r.g.s) fun a ha => by
      obtain ⟨_, i, hi, e2, xs, hh⟩ := hA a ha
      cases eP : P'.1 i with
      | none => exact absurd eP (hown i hi xs hh)
      | some z =>
        obtain ⟨p, vs, ys⟩ := z
        obtain ⟨_, k1, k2⟩ := (R'.up g1).l i p vs ys eP
        obtain ⟨_, _, k3⟩ := R2.l i p vs ys eP
        rw [e2] at k1
        cases k1
        rw [k2, k3]
    refine for_it w (fun i σ2 H2 => ∃ F2 env2, RepS G F0 B (P'.1, F1) F2 σ2 H2 env2 ∧ sat G F0 B (P'.1, F1) De (forL (fun d e => (tgS t d e).bind fun e1 => evB cf b e1) (ds.drop i) env2)) ⟨F1, env', R0, q'⟩ ?_ ?_ ?_
    · rintro i σ2 H2 _ ⟨F2, env2, R2, _⟩
      exact stand R2
    · rintro i x σ2 H2 H3 hi ⟨F2, env2, R2, q2⟩ hY
      obtain ⟨F3, d, ed, g3, hdv⟩ := hy i H2 x H3 hi (stand R2) hY F2 R2.k R2.r.g.s
      obtain ⟨hlt, eg⟩ := List.getElem?_eq_some_iff.mp ed
      rw [List.drop_eq_getElem_cons hlt, eg] at q2
      rw [forL] at q2
      cases et : tgS t d env2 with
      | none => rw [et] at q2; exact q2.elim
      | some env3 =>
        rw [et] at q2
        refine tg_use (R2.up g3) et hdv fun σ' R3 => ⟨F0, B, (P'.1, F1), F3, env3, R3, ?_⟩
        have q2 : sat G F0 B (P'.1, F1) De (match evB cf b env3 with
          | some (.nx e) => forL (fun d e => (tgS t d e).bind fun e1 => evB cf b e1) (ds.drop (i + 1)) e
          | some (.ct e) => forL (fun d e => (tgS t d e).bind fun e1 => evB cf b e1) (ds.drop (i + 1)) e
          | some (.bk e) => some (.nx e)
          | r => r) := q2
        cases em : evB cf b env3 with
        | none => rw [em] at q2; exact q2.elim
        | some f =>
          rw [em] at q2
          cases f with
          | nx e => exact fun σ' F' H' R' => ⟨F', e, R', q2⟩
          | ct e => exact fun σ' F' H' R' => ⟨F', e, R', q2⟩
          | bk e => exact q2
          | rt r => exact q2
          | rs x e => exact q2
    · rintro σ2 H2 ⟨F2, env2, R2, q2⟩
      rw [List.drop_length] at q2
      exact q2 σ2 F2 H2 R2
end
end Pd
set_option Elab.async false
set_option linter.all false
set_option maxRecDepth 100000
set_option autoImplicit false
set_option maxHeartbeats 4000000
/-! Statements with exceptions: raise, try. -/
namespace Pd
open PySem PyProof.Rows L2 TL RZ
open Evl (Ex ex_l ex_t)

theorem DvL.zipR {K : Fg} {F : Hp} : ∀ {vs : List V} {ds : List D} {nm : List Str}, DvL K F vs ds → DvL K F ((nm.zip vs).map (·.2)) ((nm.zip ds).map (·.2))
  | _, _, [], _ => .nil
  | _, _, _ :: _, .nil => .nil
  | _, _, _ :: _, .cons a b => .cons a (DvL.zipR b)
theorem zip_fst {α β : Type} : ∀ {nm : List Str} {vs : List α} {ds : List β}, vs.length = ds.length → (nm.zip vs).map (·.1) = (nm.zip ds).map (·.1)
  | [], _, _, _ => rfl
  | _ :: _, [], [], _ => rfl
  | _ :: _, _ :: _, [], h => by cases h
  | _ :: _, [], _ :: _, h => by cases h
  | n :: nm, _ :: vs, _ :: ds, h => by
    rw [List.zip_cons_cons, List.zip_cons_cons, List.map_cons, List.map_cons, zip_fst (nm := nm) (Nat.succ.inj h)]
section
variable {X : Cx} {G : Gp}
theorem rais_ps {x : Str} {nm : List Str} {C : Addr} {ci : Nat} {e : Expr} {es : List Expr} {p pos cp : Pos} {ma : Env → Out (List D)} (hK : X.K = G.K) (hcalm : X.calm = true) (M : MkC X x nm C) (hci : G.ct ci = some C) (hr : Room 2 X.A) (tk : Takes X G.W)
    (hg : Gl X x) (hdb : (x == ("__debug__" : Str)) = false) (ha : PA X (e :: es) (tAD G ma)) (he : starEach (e :: es) X.env = (false, eval e X.env) :: starEach es X.env) (hpl : (backTo cp (starEach es X.env)).any (·.1) = false) :
    PS X (.Raise (some (.Call (.Name x p) (e :: es) [] cp)) none pos) (tS G fun env => (ma env).st env fun ds => if ds.length = nm.length then some (.rs ⟨ci, (nm.zip ds).reverse⟩ env) else none) := by
  obtain ⟨fI, fd, iC, tI, F1, bd⟩ := M.ini
  have mk := pmk_oex (ds := []) (dvs := []) (p := p) M.o iC tI F1 hr bd .nil passL hg M.mg ha hdb he hpl
  refine PS.imp (ps_raise hcalm tk mk) fun De σ H q => ?_
  obtain ⟨F0, B, P, F, env, R, q⟩ := q
  refine use_e R q fun vs F1 H1 ds g rv hq => ?_
  have rv : DvL G.K F1 vs ds := rv
  split at hq
  · rename_i hl
    have hvl : vs.length = nm.length := by rw [rv.len, hl]
    refine ⟨by have := M.ln; omega, fun a0 ha0 => ⟨a0, C, vs, by rw [List.append_nil], hvl, M.o, M.no, upd_same, fun d hd hda => ⟨rfl, d, (nm.zip vs).reverse, upd_same, ?_, ?_, ?_⟩⟩⟩
    · rw [upd_ne hda, upd_same]
    · rw [upd_ne hda] at hd; exact hd
    · have hd1 : H1 d = none := by rw [upd_ne hda] at hd; exact hd
      have e : upd (del (upd (upd (upd H1 a0 (exo a0 C none)) d (exd d (nm.zip vs).reverse)) a0 (exo a0 C (some d))) a0) d (.xd (nm.zip vs).reverse) = upd H1 d (.xd (nm.zip vs).reverse) := by
        funext b
        by_cases e1 : b = d
        · rw [e1, upd_same, upd_same]
        · rw [upd_ne e1, upd_ne e1]
          by_cases e2 : b = a0
          · rw [e2, del_same, ha0]
          · rw [del_ne e2, upd_ne e2, upd_ne e1, upd_ne e2]
      rw [e]
      refine hq (.ref C) (some d) σ F1 _ (R.up (g.new hd1)) ⟨C, rfl, hci, .inr ⟨d, (nm.zip vs).reverse, rfl, upd_same, ?_, ?_⟩⟩
      · rw [List.map_reverse, List.map_reverse, zip_fst rv.len]
      · rw [List.map_reverse, List.map_reverse]
        exact (DvL.zipR rv).rev
  · exact hq.elim

/-! ### try -/
section
variable {G' : Gp} {F0 B F H : Hp} {P : LkT} {σ : L2.St} {env : Env}
theorem RepS.toW (R : RepS G F0 B P F σ H env) (W : Value → Option Addr → L2.St → Hp → Prop) : RepS { G with W := W } F0 B P F σ H env := ⟨⟨R.r.g, R.r.len, R.r.v, R.r.o, R.r.d, R.r.x⟩, R.l, R.c, R.k⟩
theorem RepS.ofW {W : Value → Option Addr → L2.St → Hp → Prop} (R : RepS { G with W := W } F0 B P F σ H env) : RepS G F0 B P F σ H env := ⟨⟨R.r.g, R.r.len, R.r.v, R.r.o, R.r.d, R.r.x⟩, R.l, R.c, R.k⟩
/-- the name of the clause is stored -/
theorem RepS.exc (R : RepS G F0 B P F σ H env) (hx : G.xa = none) {i : Nat} {a C : Addr} {d : Option Addr} {y : Xc} (hs : stOk env i = true) (hc : G.ct y.c = some C) (xf : XF G.K y d F H) (hi : i < env.length) :
    RepS ⟨G.K, fun _ _ _ _ => False, G.ct, some (i, a, C, d)⟩ F0 B P F (σ.set i (some (.ref a))) H (env.set i (.exc y)) := by
  have R1 : Rep G F0 B F (σ.set i (some (.ref a))) H (env.set i .un) := R.r.un
  have ne : ∀ j y', (env.set i (.exc y))[j]? = some (.exc y') → j = i ∧ y' = y := fun j y' e => by
    by_cases q : i = j
    · subst q
      rw [List.getElem?_set_self hi] at e
      cases e
      exact ⟨rfl, rfl⟩
    · rw [List.getElem?_set_ne q] at e
      obtain ⟨_, _, _, z, _⟩ := R.r.x j y' e
      rw [hx] at z
      cases z
  have old : ∀ (j : Nat) (s : Sl), (env.set i (.exc y))[j]? = some s → (∀ z, s ≠ .exc z) → (env.set i .un)[j]? = some s := fun j s e hne => by
    by_cases q : i = j
    · subst q
      rw [List.getElem?_set_self hi] at e
      cases e
      exact absurd rfl (hne y)
    · rw [List.getElem?_set_ne q] at e ⊢
      exact e
  have hasO : ∀ (j : Nat) (xs : List D), Has (env.set i (.exc y)) j xs → Has (env.set i .un) j xs := fun j xs h => by
    rcases h with h | h
    · exact .inl (old j _ h fun z e => by cases e)
    · exact .inr (old j _ h fun z e => by cases e)
  have hil : i < σ.length := by rw [← R.r.len]; exact hi
  refine ⟨⟨R1.g, by rw [List.length_set, List.length_set, R.r.len], fun j d' e => R1.v j d' (old j _ e fun z e => by cases e), fun j xs e => R1.o j xs (hasO j xs e), fun j l xs ys p hjl h1 h2 => R1.d j l xs ys p hjl (hasO j xs h1) (hasO l ys h2), fun j y' e => ?_⟩, fun j p vs xs e => ?_, fun j xs e => ?_, R.k⟩
  · obtain ⟨e1, e2⟩ := ne j y' e
    subst e1 e2
    exact ⟨a, C, d, rfl, List.getElem?_set_self hil, hc, xf⟩
  · obtain ⟨h1, h2, h3⟩ := R.l j p vs xs e
    have hne := lk_ne hs h1
    exact ⟨by rw [List.getElem?_set_ne hne]; exact h1, by rw [List.getElem?_set_ne hne]; exact h2, h3⟩
  · have := old j _ e fun z e => by cases e
    exact R.c j xs (lk_set this fun _ z => by cases z)
/-- behind the suite -/
theorem RepS.gone (R : RepS G' F0 B P F σ H env) (hx : G.xa = none) (hK : G'.K = G.K) {i : Nat} {a C : Addr} {d : Option Addr} (hx' : G'.xa = some (i, a, C, d)) (hp : P.1 i = none) : RepS G F0 B P F (σ.set i none) H (env.set i .un) := by
  have R1 : Rep G' F0 B F (σ.set i none) H (env.set i .un) := R.r.un
  refine ⟨⟨R1.g, R1.len, fun j d' e => by rw [← hK]; exact R1.v j d' e, fun j xs e => by rw [← hK]; exact R1.o j xs e, R1.d, fun j y' e => ?_⟩, fun j p vs xs e => ?_, fun j xs e => R.c j xs (lk_set e fun _ z => by cases z), R.k⟩
  · obtain ⟨h1, h2⟩ := exc_set e fun _ z => by cases z
    obtain ⟨_, _, _, z, _⟩ := R.r.x j y' h2
    rw [hx'] at z
    have z' := Option.some.inj z
    exact absurd (congrArg Prod.fst z') h1
  · obtain ⟨h1, h2, h3⟩ := R.l j p vs xs e
    have hne : i ≠ j := fun z => by subst z; rw [hp] at e; cases e
    exact ⟨by rw [List.getElem?_set_ne hne]; exact h1, by rw [List.getElem?_set_ne hne]; exact h2, h3⟩
end
section
variable {x n : Str} {cv : Value} {i : Nat} {body suite : List Stmt} {b0 : Stmt} {np pos pos' : Pos} {l : List Nat} {mb ms : Env → Option Fl}
def tSuite (G : Gp) (oi : Option Nat) (ms : Env → Option Fl) (a : Addr) (cls : Value) (d : Option Addr) : TS := fun D σ H => ∃ C, cls = .ref C ∧ tS ⟨G.K, fun _ _ _ _ => False, G.ct, oi.map fun i => (i, a, C, d)⟩ ms D σ H
theorem suite_ps {oi : Option Nat} (hsu : ∀ (a : Addr) (oe : Obj) (C : Addr) (d : Option Addr) (pn : List (Addr × Obj)), Zc (.ref C) d oe → (∃ vs, oe.data = .fields vs) → PSs (X.suite a ((a, oe) :: pn)) (b0 :: suite) (tS ⟨G.K, fun _ _ _ _ => False, G.ct, oi.map fun i => (i, a, C, d)⟩ ms))
    (a : Addr) (oe : Obj) (cls : Value) (d : Option Addr) (pn : List (Addr × Obj)) (hz : Zc cls d oe) (hf : ∃ vs, oe.data = .fields vs) : PSs (X.suite a ((a, oe) :: pn)) (b0 :: suite) (tSuite G oi ms a cls d) := by
  refine ⟨fun pins s σ H D I h => ?_⟩
  obtain ⟨C, rfl, h⟩ := h
  exact (hsu a oe C d pn hz hf).run pins s σ H D I h
theorem try_ps (hs : X.stack = X.env :: X.outer) (hf : X.env.frame = some X.env.locals) (hN : X.N.Nodup) (hi : X.N[i]? = some n) (hln : X.env.kindOf n = some .local) (hc : Names X x cv) (tk : Takes X G.W) (hK : X.K = G.K)
    (hxt : ∀ ci C, G.ct ci = some C → PySem.W.exmOne X.K (.ref C) cv = some (l.contains ci)) (hxa : G.xa = none)
    (hb : ∀ (W : WX) (pn : List (Addr × Obj)) (xe : Value → Shared → Prop), Takes (X.tr pn xe) W → PassesOwn (model X.prog X.w) X.A X.env xe → PSs (X.tr pn xe) body (tS { G with W := W } mb))
    (hsu : ∀ (a : Addr) (oe : Obj) (C : Addr) (d : Option Addr) (pn : List (Addr × Obj)), Zc (.ref C) d oe → (∃ vs, oe.data = .fields vs) → PSs (X.suite a ((a, oe) :: pn)) (b0 :: suite) (tS ⟨G.K, fun _ _ _ _ => False, G.ct, (some i).map fun i => (i, a, C, d)⟩ ms)) :
    PS X (.Try body [.ExceptHandler (some (.Name x np)) (some n) (b0 :: suite) pos'] [] [] pos) (tS G fun env => catX l (some i) ms (mb env)) := by
  refine PS.imp (ps_try_as (i := i) (tb := fun W => tS { G with W := W } mb) (ts := tSuite G (some i) ms) (Wout := G.W) hs hf hN hi hln hc tk hb (suite_ps hsu)) fun De σ H q => ?_
  obtain ⟨F0, B, P, F, env, R, q⟩ := q
  refine ⟨F0, B, P, F, env, R.toW _, ?_⟩
  have q : sat G F0 B P De (catX l (some i) ms (mb env)) := q
  cases em : mb env with
  | none => rw [em] at q; exact q.elim
  | some f =>
    rw [em] at q
    cases f with
    | nx e => exact fun σ' F' H' R' => q σ' F' H' R'.ofW
    | rt r => exact q
    | bk e => exact fun σ' F' H' R' => q σ' F' H' R'.ofW
    | ct e => exact fun σ' F' H' R' => q σ' F' H' R'.ofW
    | rs y e =>
      intro cls d σ' F' H' R' xr
      obtain ⟨C, rfl, hC, xf⟩ := xr
      refine ⟨l.contains y.c, hxt y.c C hC, fun hy a ha => ⟨C, rfl, ?_⟩, fun hn => ?_⟩
      · have q : sat G F0 B P De (if l.contains y.c then (if i < e.length ∧ stOk e i = true then endX (some i) (ms (e.set i (.exc y))) else none) else some (.rs y e)) := q
        rw [if_pos hy] at q
        split at q
        · rename_i hst
          have hx0 := hst.1
          have hst := hst.2
          have hp : P.1 i = none := by
            cases hp : P.1 i with
            | none => rfl
            | some t =>
              obtain ⟨p, vs, xs⟩ := t
              exact absurd rfl (lk_ne hst (R'.l i p vs xs hp).1)
          refine ⟨F0, B, P, F', _, R'.ofW.exc hxa hst hC xf hx0, ?_⟩
          revert q
          cases ms (e.set i (.exc y)) with
          | none => exact fun q => q.elim
          | some g =>
            cases g with
            | nx e' => exact fun q σ2 F2 H2 R2 => q _ F2 H2 (R2.gone hxa rfl rfl hp)
            | rt r => exact fun q => q
            | bk e' => exact fun q σ2 F2 H2 R2 => q _ F2 H2 (R2.gone hxa rfl rfl hp)
            | ct e' => exact fun q σ2 F2 H2 R2 => q _ F2 H2 (R2.gone hxa rfl rfl hp)
            | rs y' e' => exact fun q => q.elim
        · exact q.elim
      · have q : sat G F0 B P De (if l.contains y.c then (if i < e.length ∧ stOk e i = true then endX (some i) (ms (e.set i (.exc y))) else none) else some (.rs y e)) := q
        rw [if_neg (by rw [hn]; exact Bool.false_ne_true)] at q
        exact q _ _ σ' F' H' R'.ofW ⟨C, rfl, hC, xf⟩
theorem try_only_ps (hs : X.stack = X.env :: X.outer) (hf : X.env.frame = some X.env.locals) (hc : Names X x cv) (tk : Takes X G.W) (hK : X.K = G.K)
    (hxt : ∀ ci C, G.ct ci = some C → PySem.W.exmOne X.K (.ref C) cv = some (l.contains ci)) (hxa : G.xa = none)
    (hb : ∀ (W : WX) (pn : List (Addr × Obj)) (xe : Value → Shared → Prop), Takes (X.tr pn xe) W → PassesOwn (model X.prog X.w) X.A X.env xe → PSs (X.tr pn xe) body (tS { G with W := W } mb))
    (hsu : ∀ (a : Addr) (oe : Obj) (C : Addr) (d : Option Addr) (pn : List (Addr × Obj)), Zc (.ref C) d oe → (∃ vs, oe.data = .fields vs) → PSs (X.suite a ((a, oe) :: pn)) (b0 :: suite) (tS ⟨G.K, fun _ _ _ _ => False, G.ct, (none : Option Nat).map fun i => (i, a, C, d)⟩ ms)) :
    PS X (.Try body [.ExceptHandler (some (.Name x np)) none (b0 :: suite) pos'] [] [] pos) (tS G fun env => catX l none ms (mb env)) := by
  refine PS.imp (ps_try_only (tb := fun W => tS { G with W := W } mb) (ts := tSuite G none ms) (Wout := G.W) hs hf hc tk hb (suite_ps hsu)) fun De σ H q => ?_
  obtain ⟨F0, B, P, F, env, R, q⟩ := q
  refine ⟨F0, B, P, F, env, R.toW _, ?_⟩
  have q : sat G F0 B P De (catX l none ms (mb env)) := q
  cases em : mb env with
  | none => rw [em] at q; exact q.elim
  | some f =>
    rw [em] at q
    cases f with
    | nx e => exact fun σ' F' H' R' => q σ' F' H' R'.ofW
    | rt r => exact q
    | bk e => exact fun σ' F' H' R' => q σ' F' H' R'.ofW
    | ct e => exact fun σ' F' H' R' => q σ' F' H' R'.ofW
    | rs y e =>
      intro cls d σ' F' H' R' xr
      obtain ⟨C, rfl, hC, xf⟩ := xr
      refine ⟨l.contains y.c, hxt y.c C hC, fun hy a ha => ⟨C, rfl, ?_⟩, fun hn => ?_⟩
      · have q : sat G F0 B P De (if l.contains y.c then endX none (ms e) else some (.rs y e)) := q
        rw [if_pos hy] at q
        have Rn : ∀ {σ2 F2 H2 e2}, RepS ⟨G.K, fun _ _ _ _ => False, G.ct, none⟩ F0 B P F2 σ2 H2 e2 → RepS G F0 B P F2 σ2 H2 e2 := fun {σ2 F2 H2 e2} R2 =>
          ⟨⟨R2.r.g, R2.r.len, R2.r.v, R2.r.o, R2.r.d, fun j y' e => by obtain ⟨_, _, _, z, _⟩ := R2.r.x j y' e; cases z⟩, R2.l, R2.c, R2.k⟩
        have Rm : RepS ⟨G.K, fun _ _ _ _ => False, G.ct, none⟩ F0 B P F' σ' H' e :=
          ⟨⟨R'.r.g, R'.r.len, R'.r.v, R'.r.o, R'.r.d, fun j y' e => by obtain ⟨_, _, _, z, _⟩ := R'.r.x j y' e; rw [hxa] at z; cases z⟩, R'.l, R'.c, R'.k⟩
        refine ⟨F0, B, P, F', e, Rm, ?_⟩
        revert q
        cases ms e with
        | none => exact fun q => q.elim
        | some g =>
          cases g with
          | nx e' => exact fun q σ2 F2 H2 R2 => q _ F2 H2 (Rn R2)
          | rt r => exact fun q => q
          | bk e' => exact fun q σ2 F2 H2 R2 => q _ F2 H2 (Rn R2)
          | ct e' => exact fun q σ2 F2 H2 R2 => q _ F2 H2 (Rn R2)
          | rs y' e' => exact fun q => q.elim
      · have q : sat G F0 B P De (if l.contains y.c then endX none (ms e) else some (.rs y e)) := q
        rw [if_neg (by rw [hn]; exact Bool.false_ne_true)] at q
        exact q _ _ σ' F' H' R'.ofW ⟨C, rfl, hC, xf⟩
end
end
end Pd
set_option Elab.async false
set_option linter.all false
set_option maxRecDepth 100000
set_option autoImplicit false
set_option maxHeartbeats 4000000
/-! From the program's statements to S (trS), and what that says. -/
namespace Pd
open PySem PyProof.Rows L2 TL RZ
open Evl (Ex ex_l ex_t)

/-! ### names whose lists escape -/
def escV : E → List Nat
  | .var i => [i]
  | .ife _ a b => escV a ++ escV b
  | _ => []
mutual
def esc : E → List Nat
  | .var _ => [] | .c _ => []
  | .bin _ a b => esc a ++ esc b
  | .neg a => esc a | .nt a => esc a
  | .and a b => esc a ++ esc b | .or a b => esc a ++ esc b
  | .cmp _ a b => esc a ++ esc b
  | .chn _ _ a b d => esc a ++ esc b ++ esc d
  | .ife c a b => esc c ++ esc a ++ esc b
  | .call _ es => escL es | .blt _ es => escA es | .mth _ o es => esc o ++ escA es
  | .idx a i => esc a ++ esc i
  | .slc a l h => esc a ++ esc l ++ esc h
  | .rev a => esc a
  | .lst es => escL es | .tup es => escL es
  | .cmpr e _ it ifs _ => escV e ++ esc e ++ escI it ++ escA ifs
  | .fld _ _ => [] | .isX _ _ => []
def escA : List E → List Nat
  | [] => []
  | e :: es => esc e ++ escA es
/-- arguments, items: they escape themselves -/
def escL : List E → List Nat
  | [] => []
  | e :: es => escV e ++ esc e ++ escL es
def escI : It → List Nat
  | .seq e => esc e | .rng es => escA es | .zip a b => esc a ++ esc b | .enm a => esc a | .rvs a => esc a
end
def wrp (is : List Nat) (s : S) : S := match is with
  | [] => s
  | is => .frz is s
mutual
/-- what a statement itself freezes -/
def escS : S → List Nat
  | .frz is s => is ++ escS s
  | .ifs _ a b => escB a ++ escB b
  | .fr _ _ b => escB b
  | .wh _ b => escB b
  | .tryX _ _ b s => escB b ++ escB s
  | _ => []
def escB : List S → List Nat
  | [] => []
  | s :: r => escS s ++ escB r
end
def cutL (xs ys : List Nat) : List Nat := xs.filter ys.contains

/-! ### statements -/
def isLC : Expr → Bool
  | .ListComp _ _ _ _ => true
  | .SetComp _ _ _ _ => true
  | .DictComp _ _ _ _ _ => true
  | _ => false
def isTupE : Expr → Bool
  | .Tuple _ _ _ => true
  | _ => false
def trX (c : Sc) (n : Nat) : Expr → Option S
  | .Constant (.str _) _ _ => some .skip
  | .Call (.Attribute (.Name x p) m ap) [a] [] cp => if ap.endLine == cp.line then (trE c n (.Name x p)).bind fun o => (trE c n a).bind fun r => match o with
      | .var i => if m = "append" then some (wrp (escV r ++ esc r) (.app i r)) else if m = "extend" then some (wrp (esc r) (.ext i r)) else none
      | _ => none else none
  | .Call (.Attribute (.Name x p) m ap) [] [] cp => if ap.endLine == cp.line then (trE c n (.Name x p)).bind fun o => match o with
      | .var i => if m = "pop" then some (.pop i) else none
      | _ => none else none
  | .Call f es ks p => (trE c n (.Call f es ks p)).map fun e => wrp (esc e) (.ex e)
  | _ => none
/-- name = [..] within the line, the name a local -/
def swB (sc : Scope) (y : Str) (py : Pos) : Expr → Bool
  | .ListComp _ _ s pos => (sc.names.lookup y == some .local) && (py.line == pos.line) && !(s.names.any fun (n, k) => n == y && (k == .local || k == .cell))
  | _ => false
def popE : Expr → Option (Str × Pos)
  | .Call (.Attribute (.Name x p) m ap) [] [] cp => if (ap.endLine == cp.line) && (m == ("pop" : Str)) then some (x, p) else none
  | _ => none
def trN (c : Sc) (n : Nat) (y : Str) (py : Pos) (e : Expr) : Option S :=
  (trT c 1 (.Name y py)).bind fun t => match t with
  | .nm i => (match popE e with
    | some (x, p) => (trE c n (.Name x p)).bind fun o => (match o with
      | .var j => some (.popA i j)
      | _ => none)
    | none => (trE c n e).bind fun r => if isLC e then some (wrp (esc r) (.asg (.nm i) r)) else some (wrp (escV r ++ esc r) (.asg (.nm i) r)))
  | _ => none
/-- x, y = a, b with the names stored from the right -/
def parB (sc : Scope) (x y : Str) (px py : Pos) (a b : Expr) : Bool :=
  (sc.names.lookup x == some .local) && (sc.names.lookup y == some .local) && (py.line == px.line) && (x != y) && !([a, b].all (foldedForSure 8)) && !([a, b].all (constantsAlone 8))
def trA (c : Sc) (n : Nat) : Expr → Expr → Option S
  | .Name y py, e => trN c n y py e
  | .Tuple [.Name x px, .Name y py] k pt, .Tuple [a, b] k2 pt2 => if parB c.sc x y px py a b && !c.sup then (ixOf c.N x).bind fun i => (ixOf c.N y).bind fun j => (trE c n a).bind fun r => (trE c n b).bind fun q =>
      if i = j then none else some (wrp (escV r ++ esc r ++ escV q ++ esc q) (.par i j r q)) else none
  | .Tuple es k pt, e => if isTupE e || isLC e then none else (trT c n (.Tuple es k pt)).bind fun t => (trE c n e).bind fun r => match t with
      | .tp ts => some (wrp (esc r) (.asg (.tp ts) r))
      | _ => none
  | .Subscript (.Name x p) ix sp, e => (trE c n (.Name x p)).bind fun o => (trE c n ix).bind fun i => (trE c n e).bind fun r => match o with
      | .var j => some (wrp (escV r ++ esc r ++ esc i) (.sub j i r))
      | _ => none
  | _, _ => none
def trR (c : Sc) (n : Nat) : Option Expr → Option S
  | none => some .retN
  | some e => (trE c n e).map fun r => match r with
    | .var i => .ret (.var i)
    | r => wrp (escV r ++ esc r) (.ret r)
/-- the name of an except clause -/
def trH (c : Sc) : Option Str → Option (Option Nat)
  | none => some none
  | some x => if c.sc.names.lookup x == some .local then (ixOf c.N x).map some else none
mutual
def trS (c : Sc) : Nat → Stmt → Option S
  | 0, _ => none
  | n + 1, .Expr e _ => trX c n e
  | n + 1, .Assign [tg] e _ => trA c n tg e
  | n + 1, .Return e _ => trR c n e
  | n + 1, .If t a b _ => (trE c n t).bind fun t => (trSs c n a).bind fun a => (trSs c n b).bind fun b => some (wrp (esc t) (.ifs t a b))
  | n + 1, .For tg it b [] _ => if c.sup then none else (trT c n tg).bind fun t => (trI c n it tg).bind fun i => (trSs c n b).bind fun b => some (wrp (escI i ++ cutL i.vars (escB b)) (.fr t i b))
  | n + 1, .While t b [] _ => (trE c n t).bind fun t => (trSs c n b).bind fun b => some (wrp (esc t) (.wh t b))
  | n + 1, .Break _ => some .brk
  | n + 1, .Continue _ => some .cnt
  | n + 1, .Pass _ => some .skip
  | n + 1, .Raise (some (.Call (.Name x _) (e :: es) [] _)) none _ => if !c.sup && nmB x && glB c.sc x then (c.et x).bind fun t => (trL c n (e :: es)).bind fun rs => some (wrp (escL rs) (.rais t.1 t.2 rs)) else none
  | n + 1, .Try body [.ExceptHandler (some (.Name x _)) on (b0 :: suite) _] [] [] _ => if !c.sup && nmB x && glB c.sc x then (c.xt x).bind fun l => (trH c on).bind fun oi => (trSs c n body).bind fun b => (trSs { c with sup := true } n (b0 :: suite)).bind fun s =>
      some (.tryX l oi b s) else none
  | _, _ => none
def trSs (c : Sc) : Nat → List Stmt → Option (List S)
  | 0, _ => none
  | n + 1, [] => some []
  | n + 1, s :: r => (trS c n s).bind fun s => (trSs c n r).bind fun r => some (s :: r)
end

/-! ### soundness -/
/-- where a statement stands -/
structure SCok (G : Gp) (T : List Fn) (k : Nat) (c : Sc) (X : Cx) : Prop where
  e : Cok G T k c X
  own : PassesOwn (model X.prog X.w) X.A X.env X.xe
  kind : X.env.scope.kind = .function
  st : X.stack = X.env :: X.outer
  fr : X.env.frame = some X.env.locals
section
variable {T : List Fn} {k n : Nat} {G : Gp} {c : Sc} {X : Cx}
theorem wrp_ok {st : Stmt} {cf : Nat → List D → Out Rv} {is : List Nat} {s : S} (h : PS X st (tS G (evS cf s))) : PS X st (tS G (evS cf (wrp is s))) := by
  unfold wrp
  split
  · exact h
  · exact PS.imp h fun D σ H q => frz_read q
/-- the parts of a comprehension -/
theorem lcP (h : Cok G T k c X) {e0 tg it : Expr} {ifs : List Expr} {s : Scope} {p : Pos} {r : E} (hr : trE c n (.ListComp e0 [⟨tg, it, ifs, 0⟩] s p) = some r) :
    ∃ (own : List (Str × Nat)) (wi : TI) (g : TG) (tt : TT) (te : TE), PI X tg it wi ∧ BlkOk X.N X.env.scope s own ∧ (∀ (s1 : Shared) (H : Hp) (C : Addr) (cl : List (Str × Addr)) (fp : List Addr), PG (X.blk s1 H s (compEnvC s cl C X.env) fp) tg g) ∧
      (∀ (s1 : Shared) (H : Hp) (C : Addr) (cl : List (Str × Addr)) (fp : List Addr), PTs (X.blk s1 H s (compEnvC s cl C X.env) fp) ifs tt) ∧ (∀ (s1 : Shared) (H : Hp) (C : Addr) (cl : List (Str × Addr)) (fp : List Addr), PE (X.blk s1 H s (compEnvC s cl C X.env) fp) e0 te) ∧
      (∀ x, foldedSetIterable it X.env x = pure x) ∧ c.sup = false ∧ ∀ σ H Q, tOf G (evE (callF T k) r) σ H Q → tLc wi g tt te (own.map (·.2)) σ H Q := by
  cases n with
  | zero => simp only [trE] at hr; cases hr
  | succ n =>
  have ih : Snd T k n := sndE T k n
  simp only [trE, Option.bind_eq_some_iff] at hr
  obtain ⟨i', hi, t', ht, fs, hf, e', he, hr⟩ := hr
  split at hr
  · rename_i hcond
    have hr := Option.some.inj hr
    subst hr
    rw [Bool.and_eq_true, Bool.and_eq_true, Bool.and_eq_true] at hcond
    have hsup : c.sup = false := by simpa using hcond.2
    have hcond := hcond.1
    have ok : BlkOk X.N X.env.scope s (ownOf c.N s.names) := by
      rw [h.N, h.sc]
      exact blkOk_by hcond.1.1
    have hns := subB_ok hcond.1.2
    have hlen := of_decide_eq_true hcond.2
    obtain ⟨hI, hfold⟩ := ih.i G c X h it tg i' hi
    have hg : ∀ (s1 : Shared) (H : Hp) (C : Addr) (cl : List (Str × Addr)) (fp : List Addr), PG (X.blk s1 H s (compEnvC s cl C X.env) fp) tg (tTg G.no t') := fun s1 H C cl fp => sndT (h.blk hsup s s1 H cl C fp) n tg t' ht
    have hE : ∀ (s1 : Shared) (H : Hp) (C : Addr) (cl : List (Str × Addr)) (fp : List Addr), PE (X.blk s1 H s (compEnvC s cl C X.env) fp) e0 (tOf G.no (evE (callF T k) e')) := fun s1 H C cl fp => ih.e G.no (c.blk s) _ (h.blk hsup s s1 H cl C fp) e0 e' he
    cases ifs with
    | nil =>
      have e2 : fs = [] := List.eq_nil_of_length_eq_zero (trL_len hf)
      subst e2
      refine ⟨_, _, _, tYes, _, hI, ok, hg, fun s1 H C cl fp => pts_nil, hE, hfold X.env, hsup, fun σ H Q q => cmp_read (fun σ H Q q => ?_) hns (tGn_congr (fun env => by simp only [evE, cmpM]; rfl) q)⟩
      obtain ⟨F0, B, F, env, R, q⟩ := q
      exact q true F H (Gr.refl R.g.s) rfl
    | cons c0 rest =>
      have e3 := trL_len hf
      have e5 : rest = [] := List.eq_nil_of_length_eq_zero (by rw [List.length_cons] at e3; omega)
      subst e5
      match fs, hf, e3 with
      | [f0], hf, e3 => exact ⟨_, _, _, tTs G.no (evT (callF T k) f0), _, hI, ok, hg, fun s1 H C cl fp => pts_one (ih.f G.no (c.blk s) _ (h.blk hsup s s1 H cl C fp) c0 f0 hf), hE, hfold X.env, hsup, fun σ H Q q => cmp_read (fun σ H Q q => q) hns (tGn_congr (fun env => by simp only [evE, cmpM, evC]; rfl) q)⟩
  · cases hr
theorem swW_no {e : Expr} (h : isLC e = false) (tg : Option Expr) (l : Nat) (env : PySem.Env) : swapsWith e tg l env = pure false := by
  cases e with
  | ListComp a b d p => cases h
  | SetComp a b d p => cases h
  | DictComp a b d f p => cases h
  | _ => rfl
theorem swS_no {e : Expr} (h : isTupE e = false) {ts : List Expr} {kk : Nat} {p : Pos} (env : PySem.Env) : swappedStores [.Tuple ts kk p] e env = pure none := by
  cases e with
  | Tuple a b p => cases h
  | _ => rfl
theorem snd_e (h : Cok G T k c X) {e : Expr} {r : E} (hr : trE c n e = some r) : PE X e (tOf G (evE (callF T k) r)) := (sndE T k n).e G c X h e r hr
theorem snd_v (h : Cok G T k c X) {e : Expr} {i : Nat} (hr : trE c n e = some (.var i)) : PE X e (tVar i) := by
  obtain ⟨x, p, rfl, hn, hv, hi⟩ := trE_var hr
  exact snd_var h hn hv hi
theorem snd_1 (h : Cok G T k c X) {e : Expr} {r : E} (hr : trE c n e = some r) : PA X [e] (tCons (tOf G (evE (callF T k) r)) tNil) :=
  pa_cons (snd_e h hr) pa_nil (by rw [star_no hr])
theorem few_one {e : Expr} {r : E} (hr : trE c n e = some r) (env : PySem.Env) (cpos : Pos) : ((backTo cpos (starEach [e] env)).all (fun x => !x.1) && (backToKw cpos (keywordEach [] env)).all (fun x => x.1.isSome)
      && decide ([e].length + ([] : List Keyword).length + (if ([] : List Keyword).isEmpty then 0 else 1) < 30)) = true := by
  rw [star_no hr]
  rfl
theorem par_sw (h : Cok G T k c X) (hk : X.env.scope.kind = .function) {x y : Str} {px py pt pt2 : Pos} {kt k2 : Nat} {a b : Expr} {r q : E} (ha : trE c n a = some r) (hb : trE c n b = some q) (hp : parB c.sc x y px py a b = true) :
    swappedStores [.Tuple [.Name x px, .Name y py] kt pt] (.Tuple [a, b] k2 pt2) X.env = pure (some [x, y]) := by
  unfold parB at hp
  simp only [Bool.and_eq_true] at hp
  obtain ⟨⟨⟨⟨⟨h1, h2⟩, h3⟩, h4⟩, h5⟩, h6⟩ := hp
  have kx : X.env.kindOf x = some .local := by
    show X.env.scope.names.lookup x = _
    rw [h.sc]
    exact of_decide_eq_true (by simpa using h1)
  have ky : X.env.kindOf y = some .local := by
    show X.env.scope.names.lookup y = _
    rw [h.sc]
    exact of_decide_eq_true (by simpa using h2)
  have hbk : X.env.blockKind = .function := by
    unfold PySem.Env.blockKind
    rw [hk]
    rfl
  have nst : ∀ {e : Expr} {r : E}, trE c n e = some r → ∀ v p, e ≠ .Starred v p := by
    intro e r he v p z
    subst z
    cases n <;> (simp only [trE] at he; cases he)
  have ean : ∀ f : Expr → Bool, f a = false → f b = false → [a, b].any f = false := fun f f1 f2 => by
    simp [f1, f2]
  have hxy : x ≠ y := by simpa using h4
  have e3 : py.line = px.line := by simpa using h3
  have e5 : [a, b].all (foldedForSure 8) = false := by rw [Bool.not_eq_true'] at h5; exact h5
  have e6 : [a, b].all (constantsAlone 8) = false := by rw [Bool.not_eq_true'] at h6; exact h6
  have ed : [x, y].eraseDups.length = 2 := by
    simp [List.eraseDups_cons, hxy, Ne.symm hxy]
  unfold swappedStores
  simp only [hbk, e5, e6]
  have en : ∀ f : Expr → Option Str, f (.Name x px) = some x → f (.Name y py) = some y → [Expr.Name x px, Expr.Name y py].filterMap f = [x, y] := fun f f1 f2 => by
    simp [List.filterMap_cons, f1, f2]
  rw [en _ (by simp [kx, Expr.pos]) (by simp [ky, Expr.pos, e3])]
  rw [ean _ (by split; exact absurd rfl (nst ha _ _); rfl) (by split; exact absurd rfl (nst hb _ _); rfl)]
  simp only [ed, List.length_cons, List.length_nil]
  rfl
theorem loc_of (h : Cok G T k c X) {x : Str} (hl : locB c x = true) : Loc X.env.scope x ∧ (X.fn x = true ∨ X.env.scope.names.lookup x = some .local) := by
  unfold locB at hl
  split at hl
  · rename_i hk
    exact ⟨.inl (by rw [h.sc]; exact hk), .inr (by rw [h.sc]; exact hk)⟩
  · rename_i hk
    exact ⟨.inr (by rw [h.sc]; exact hk), .inl (h.fn x hl)⟩
  · cases hl
theorem trT_nm {y : Str} {py : Pos} {m : Nat} {t : Tg} (h : trT c (m + 1) (.Name y py) = some t) : ∃ i, t = .nm i ∧ locB c y = true ∧ ixOf c.N y = some i := by
  simp only [trT] at h
  split at h
  · rename_i hl
    rw [Option.map_eq_some_iff] at h
    obtain ⟨i, h1, h2⟩ := h
    exact ⟨i, h2.symm, hl, h1⟩
  · cases h
theorem sndX (h : SCok G T k c X) {e : Expr} {s : S} {pos : Pos} (hr : trX c n e = some s) : PS X (.Expr e pos) (tS G (evS (callF T k) s)) := by
  unfold trX at hr
  split at hr
  · cases hr
    exact PS.imp ps_doc fun D σ H q => skip_read q
  · rename_i x p m ap a cp
    split at hr
    · rename_i hc
      simp only [Option.bind_eq_some_iff] at hr
      obtain ⟨o, ho, r, ha, hr⟩ := hr
      split at hr
      · rename_i i
        split at hr
        · rename_i em
          subst em
          cases hr
          refine wrp_ok (PS.imp (ps_expr (pe_bm PySem.F.plainAttrs_list PySem.F.slot_list_append PySem.F.type_list_append mt_append (snd_v h.e ho) (snd_1 h.e ha) rfl (few_one ha _ _) hc (star_no ha _ _) rfl) rfl) fun D σ H q => ?_)
          rw [h.e.K]
          exact app_read q
        · split at hr
          · rename_i em
            subst em
            cases hr
            refine wrp_ok (PS.imp (ps_expr (pe_bm PySem.F.plainAttrs_list PySem.F.slot_list_extend PySem.F.type_list_extend mt_extend (snd_v h.e ho) (snd_1 h.e ha) rfl (few_one ha _ _) hc (star_no ha _ _) rfl) rfl) fun D σ H q => ?_)
            rw [h.e.K]
            exact ext_read q
          · cases hr
      · cases hr
    · cases hr
  · rename_i x p m ap cp
    split at hr
    · rename_i hc
      simp only [Option.bind_eq_some_iff] at hr
      obtain ⟨o, ho, hr⟩ := hr
      split at hr
      · rename_i i
        split at hr
        · rename_i em
          subst em
          cases hr
          refine PS.imp (ps_expr (pe_bm0 PySem.F.plainAttrs_list PySem.F.slot_list_pop PySem.F.type_list_pop mt_pop (snd_v h.e ho) rfl hc) rfl) fun D σ H q => ?_
          rw [h.e.K]
          exact pop_read q
        · cases hr
      · cases hr
    · cases hr
  · rw [Option.map_eq_some_iff] at hr
    obtain ⟨r, he, hr⟩ := hr
    cases hr
    exact wrp_ok (PS.imp (ps_expr (snd_e h.e he) rfl) fun D σ H q => ex_read q)
  · cases hr
theorem sw_on (h : SCok G T k c X) {y : Str} {py : Pos} {e : Expr} {l : Nat} (hw : swB c.sc y py e = true) : ∃ e0 gs s p, e = .ListComp e0 gs s p ∧ swapsWith e (some (.Name y py)) l X.env = pure true ∧ X.env.scope.names.lookup y = some .local := by
  cases e with
  | ListComp e0 gs s p =>
    simp only [swB, Bool.and_eq_true] at hw
    obtain ⟨⟨h1, h2⟩, h3⟩ := hw
    have hy : X.env.scope.names.lookup y = some .local := by
      rw [h.e.sc]
      exact of_decide_eq_true (by simpa using h1)
    exact ⟨e0, gs, s, p, rfl, sw_true h.kind hy h2 (by rw [Bool.not_eq_true'] at h3; exact h3), hy⟩
  | _ => cases hw
theorem sw_off (h : SCok G T k c X) {y : Str} {py : Pos} {e0 : Expr} {gs : List Comprehension} {s : Scope} {p : Pos} {l : Nat} (hw : swB c.sc y py (.ListComp e0 gs s p) = false) : swapsWith (.ListComp e0 gs s p) (some (.Name y py)) l X.env = pure false := by
  have hb : X.env.blockKind = .function := by
    unfold PySem.Env.blockKind
    rw [h.kind]
    rfl
  have ek : X.env.kindOf y = c.sc.names.lookup y := by
    show X.env.scope.names.lookup y = _
    rw [h.e.sc]
  unfold swapsWith
  simp only [hb, ek, Expr.pos]
  show pure ((ScopeKind.function == ScopeKind.function) && _ && _ && _) = pure false
  rw [show (ScopeKind.function == ScopeKind.function) = true from rfl, Bool.true_and]
  exact congrArg (pure : Bool → Sem Bool) hw
theorem lc_form {e : Expr} {r : E} (hl : isLC e = true) (he : trE c n e = some r) : ∃ e0 tg it ifs s p, e = .ListComp e0 [⟨tg, it, ifs, 0⟩] s p := by
  cases n with
  | zero => simp only [trE] at he; cases he
  | succ n =>
    cases e with
    | ListComp e0 gs s p =>
      unfold trE at he
      split at he
      case h_18 =>
        rename_i m e1 tg it ifs s1 p1 hm
        cases hm
        exact ⟨_, _, _, _, _, _, rfl⟩
      all_goals first | (rename_i hm; cases hm; done) | contradiction | (cases he; done)
    | SetComp a b d p => simp only [trE] at he; cases he
    | DictComp a b d f p => simp only [trE] at he; cases he
    | _ => cases hl
theorem popE_ok {e : Expr} {x : Str} {p : Pos} (h : popE e = some (x, p)) : ∃ ap cp, e = .Call (.Attribute (.Name x p) "pop" ap) [] [] cp ∧ (ap.endLine == cp.line) = true := by
  unfold popE at h
  split at h
  · split at h
    · rename_i hc
      rw [Bool.and_eq_true] at hc
      have em := of_decide_eq_true (by simpa using hc.2)
      subst em
      cases h
      exact ⟨_, _, rfl, hc.1⟩
    · cases h
  · cases h
theorem sndN (h : SCok G T k c X) {y : Str} {py : Pos} {e : Expr} {s : S} {pos : Pos} (hr : trN c n y py e = some s) : PS X (.Assign [.Name y py] e pos) (tS G (evS (callF T k) s)) := by
  unfold trN at hr
  simp only [Option.bind_eq_some_iff] at hr
  obtain ⟨t, ht, hr⟩ := hr
  obtain ⟨i, rfl, hl, hi⟩ := trT_nm ht
  obtain ⟨l1, l2⟩ := loc_of h.e hl
  have hN : X.N.Nodup := by rw [h.e.N]; exact h.e.nd
  have hi' : X.N[i]? = some y := by rw [h.e.N]; exact ixOf_get hi
  simp only at hr
  split at hr
  · rename_i x p hp
    obtain ⟨ap, cp, rfl, hc⟩ := popE_ok hp
    simp only [Option.bind_eq_some_iff] at hr
    obtain ⟨o, ho, hr⟩ := hr
    split at hr
    · rename_i j
      cases hr
      refine PS.imp (ps_set hN hi' l1 (pe_bm0 PySem.F.plainAttrs_list PySem.F.slot_list_pop PySem.F.type_list_pop mt_pop (snd_v h.e ho) rfl hc) rfl l2) fun D σ H q => ?_
      rw [h.e.K]
      exact popA_read q
    · cases hr
  · simp only [Option.bind_eq_some_iff] at hr
    obtain ⟨r, he, hr⟩ := hr
    split at hr
    · rename_i hl
      cases hr
      obtain ⟨e0, tg, it, ifs, s0, p0, rfl⟩ := lc_form hl he
      cases hw : swB c.sc y py (.ListComp e0 [⟨tg, it, ifs, 0⟩] s0 p0) with
      | true =>
        obtain ⟨_, _, _, _, e9, hsw, hy⟩ := sw_on h (l := pos.line) hw
        cases e9
        obtain ⟨own, wi, g, tt, te, p1, p2, p3, p4, p5, p6, hsup, p7⟩ := lcP h.e he
        exact wrp_ok (PS.imp (ps_setLc (h.e.calm hsup) hN hi' hy hsw p1 p2 p3 p4 p5 p6) fun D σ H q => p7 σ H _ (asg_read q))
      | false => exact wrp_ok (PS.imp (ps_set hN hi' l1 (snd_e h.e he) (sw_off h hw) l2) fun D σ H q => asg_read q)
    · rename_i hlc
      cases hr
      exact wrp_ok (PS.imp (ps_set hN hi' l1 (snd_e h.e he) (swW_no (Bool.eq_false_iff.mpr hlc) _ _ _) l2) fun D σ H q => asg_read q)
end
end Pd
set_option Elab.async false
set_option linter.all false
set_option maxRecDepth 100000
set_option autoImplicit false
set_option maxHeartbeats 4000000
/-! The soundness of statements. -/
namespace Pd
open PySem PyProof.Rows L2 TL RZ
open Evl (Ex ex_l ex_t)
section
variable {T : List Fn} {k n : Nat} {G : Gp} {c : Sc} {X : Cx}
theorem trE_var_lc {e : Expr} {r : E} (hr : trE c n e = some r) (ix : Expr) (sp : Pos) (h : trE c n ix = some r) : True := True.intro
theorem sub_as {ix : Expr} {r : E} (hr : trE c n ix = some r) (o : Expr) (pos : Pos) (env : PySem.Env) : ∀ v, assign (.Subscript o ix pos) env v = (do
      let ov ← holding [v] (eval o env)
      let iv ← holding [v, ov] (eval ix env)
      standAt pos
      holding [v, ov, iv] (setItem ov iv v)
      release [v, ov, iv] []) := by
  intro v
  cases n with
  | zero => simp only [trE] at hr; cases hr
  | succ n =>
    cases ix with
    | Slice a b d p => simp only [trE] at hr; cases hr
    | _ => rfl
theorem sndA (h : SCok G T k c X) {tg e : Expr} {s : S} {pos : Pos} (hr : trA c n tg e = some s) : PS X (.Assign [tg] e pos) (tS G (evS (callF T k) s)) := by
  have hN : X.N.Nodup := by rw [h.e.N]; exact h.e.nd
  unfold trA at hr
  split at hr
  · exact sndN h hr
  · rename_i x px y py kt pt a b k2 pt2
    split at hr
    · rename_i hp
      rw [Bool.and_eq_true] at hp
      have hsup : c.sup = false := by simpa using hp.2
      have hp := hp.1
      simp only [Option.bind_eq_some_iff] at hr
      obtain ⟨i, hi, j, hj, r, ha, q, hb, hr⟩ := hr
      split at hr
      · cases hr
      · rename_i hij
        cases hr
        have hp' := hp
        unfold parB at hp'
        simp only [Bool.and_eq_true] at hp'
        have hx : X.env.scope.names.lookup x = some .local := by rw [h.e.sc]; exact of_decide_eq_true (by simpa using hp'.1.1.1.1.1)
        have hy : X.env.scope.names.lookup y = some .local := by rw [h.e.sc]; exact of_decide_eq_true (by simpa using hp'.1.1.1.1.2)
        exact wrp_ok (PS.imp (ps_par (h.e.calm hsup) hN (by rw [h.e.N]; exact ixOf_get hi) (by rw [h.e.N]; exact ixOf_get hj) hij hx hy (pa_cons (snd_e h.e ha) (snd_1 h.e hb) (star_no ha _ _)) (par_sw h.e h.kind ha hb hp) rfl) fun D σ H q => par_read q)
    · cases hr
  · rename_i es kt pt hne0
    split at hr
    · cases hr
    · rename_i hc
      simp only [Option.bind_eq_some_iff] at hr
      obtain ⟨t, ht, r, he, hr⟩ := hr
      split at hr
      · rename_i ts
        cases hr
        have hc' := Bool.eq_false_iff.mpr hc
        rw [Bool.or_eq_false_iff] at hc'
        exact wrp_ok (PS.imp (ps_asg (snd_e h.e he) (sndT h.e n _ _ ht) (swW_no hc'.2 (some (.Tuple es kt pt)) pos.line X.env) (swS_no hc'.1 _) rfl) fun D σ H q => asgT_read q)
      · cases hr
  · rename_i x p ix sp
    simp only [Option.bind_eq_some_iff] at hr
    obtain ⟨o, ho, i, hi, r, he, hr⟩ := hr
    split at hr
    · rename_i j
      cases hr
      have hlc : ∀ l, swapsWithSole [.Subscript (.Name x p) ix sp] e l X.env = pure false := by
        intro l
        cases n with
        | zero => simp only [trE] at he; cases he
        | succ n => cases e <;> first | rfl | (simp only [trE] at he; cases he; done)
      exact wrp_ok (PS.imp (ps_asg (snd_e h.e he) (pg_sub (snd_v h.e ho) (snd_e h.e hi) set_list (sub_as hi _ _ _)) (hlc _) rfl rfl) fun D σ H q => sub_read q)
    · cases hr
  · cases hr
theorem sndR (h : SCok G T k c X) {e : Option Expr} {s : S} {pos : Pos} (hr : trR c n e = some s) : PS X (.Return e pos) (tS G (evS (callF T k) s)) := by
  unfold trR at hr
  split at hr
  · cases hr
    exact PS.imp ps_retN fun D σ H q => retN_read q
  · rename_i e
    rw [Option.map_eq_some_iff] at hr
    obtain ⟨r, he, hr⟩ := hr
    split at hr
    · rename_i i
      cases hr
      exact PS.imp (ps_ret (snd_v h.e he)) fun D σ H q => retV_read q
    · rename_i hne
      cases hr
      exact wrp_ok (PS.imp (ps_ret (snd_e h.e he)) fun D σ H q => ret_read (tS_congr (fun env => evS_ret (fun i z => hne i z) env) q))
theorem snd_t (h : Cok G T k c X) {e : Expr} {r : E} (hr : trE c n e = some r) : PT X e (tTs G (evT (callF T k) r)) := (sndE T k n).t G c X h e r hr
theorem Cok.tr (h : Cok G T k c X) {W : WX} {pn : List (Addr × Obj)} {xe : Value → Shared → Prop} (tk : Takes (X.tr pn xe) W) (hsup : c.sup = false) : Cok { G with W := W } T k c (X.tr pn xe) where
  K := h.K
  N := h.N
  nd := h.nd
  sc := h.sc
  fn := h.fn
  calm := h.calm
  gd := h.gd
  un := h.un
  room := h.room
  tk := tk
  mg := h.mg
  fns := h.fns
  gts := h.gts
  nx := h.nx
  xs := fun i a C d e => by
    rw [show G.xa = none from h.nx hsup] at e
    cases e
  xc := h.xc
  ets := fun x ci nm e => by
    obtain ⟨C, h1, m⟩ := h.ets x ci nm e
    exact ⟨C, h1, m.o, m.no, m.mg, m.ini, m.ln⟩
  xts := h.xts
theorem SCok.tr (h : SCok G T k c X) {W : WX} {pn : List (Addr × Obj)} {xe : Value → Shared → Prop} (tk : Takes (X.tr pn xe) W) (hsup : c.sup = false) (ow : PassesOwn (model X.prog X.w) X.A X.env xe) : SCok { G with W := W } T k c (X.tr pn xe) :=
  ⟨h.e.tr tk hsup, ow, h.kind, h.st, h.fr⟩
theorem Cok.suite (h : Cok G T k c X) {oi : Option Nat} {a C : Addr} {d : Option Addr} {oe : Obj} {pn : List (Addr × Obj)} (hz : Zc (.ref C) d oe) (hf : ∃ vs, oe.data = .fields vs) :
    Cok ⟨G.K, fun _ _ _ _ => False, G.ct, oi.map fun i => (i, a, C, d)⟩ T k { c with sup := true } (X.suite a ((a, oe) :: pn)) where
  K := h.K
  N := h.N
  nd := h.nd
  sc := h.sc
  fn := h.fn
  calm := fun e => by cases e
  gd := h.gd
  un := h.un
  room := fun e => by cases e
  tk := takes0
  mg := h.mg
  fns := h.fns
  gts := h.gts
  nx := fun e => by cases e
  xs := fun i a' C' d' e => by
    cases oi with
    | none => cases e
    | some j =>
      have e' := Option.some.inj e
      cases e'
      exact ⟨X, oe, pn, rfl, hz, hf⟩
  xc := h.xc
  ets := fun x ci nm e => by
    obtain ⟨C, h1, m⟩ := h.ets x ci nm e
    exact ⟨C, h1, m.o, m.no, m.mg, m.ini, m.ln⟩
  xts := h.xts
theorem SCok.suite (h : SCok G T k c X) {oi : Option Nat} {a C : Addr} {d : Option Addr} {oe : Obj} {pn : List (Addr × Obj)} (hz : Zc (.ref C) d oe) (hf : ∃ vs, oe.data = .fields vs) :
    SCok ⟨G.K, fun _ _ _ _ => False, G.ct, oi.map fun i => (i, a, C, d)⟩ T k { c with sup := true } (X.suite a ((a, oe) :: pn)) :=
  ⟨h.e.suite hz hf, PassesOwn.never, h.kind, h.st, h.fr⟩
theorem gl_of (h : Cok G T k c X) {x : Str} (hg : glB c.sc x = true) : Gl X x := by show X.env.kindOf x = _; unfold Env.kindOf; rw [h.sc]; exact glB_ok hg
theorem raise_ok (h : SCok G T k c X) {x : Str} {e : Expr} {es : List Expr} {p cp pos : Pos} {rs : List E} {t : Nat × List Str} (hs : c.sup = false) (hn : nmB x = true) (hg : glB c.sc x = true) (ht : c.et x = some t) (hl : trL c n (e :: es) = some rs) :
    PS X (.Raise (some (.Call (.Name x p) (e :: es) [] cp)) none pos) (tS G (evS (callF T k) (wrp (escL rs) (.rais t.1 t.2 rs)))) := by
  obtain ⟨C, hC, M⟩ := h.e.ets x t.1 t.2 ht
  obtain ⟨_, s2⟩ := star_all hl X.env cp
  have hst : starEach (e :: es) X.env = (false, eval e X.env) :: starEach es X.env := by
    cases n with
    | zero => simp only [trL] at hl; cases hl
    | succ n =>
      simp only [trL, Option.bind_eq_some_iff] at hl
      obtain ⟨r0, g1, _⟩ := hl
      exact star_no g1 es X.env
  have hpl : (backTo cp (starEach es X.env)).any (·.1) = false := by
    rw [hst] at s2
    exact s2
  refine wrp_ok (PS.imp (rais_ps h.e.K (h.e.calm hs) M hC ((h.e.room hs).mono (by omega)) h.e.tk (gl_of h.e hg) (nmB_ok hn).1 ((sndE T k n).l G c X h.e _ rs hl).2 hst hpl) fun D σ H q => ?_)
  exact tS_congr (fun env => by simp only [evS]) q
theorem names_of (h : Cok G T k c X) {x : Str} {l : List Nat} (hn : nmB x = true) (hg : glB c.sc x = true) (hl : c.xt x = some l) : ∃ cv, Names X x cv ∧ ∀ ci C, G.ct ci = some C → PySem.W.exmOne X.K (.ref C) cv = some (l.contains ci) := by
  obtain ⟨v, cv, _, hm, hk⟩ := h.xts x l hl
  refine ⟨cv, ⟨gl_of h hg, (nmB_ok hn).1, hm⟩, fun ci C hC => (hk ci C hC).1⟩
mutual
theorem sndS {T : List Fn} {k : Nat} {G : Gp} {c : Sc} {X : Cx} (h : SCok G T k c X) : ∀ (n : Nat) (st : Stmt) (s : S), trS c n st = some s → PS X st (tS G (evS (callF T k) s))
  | 0, _, _, hr => by simp only [trS] at hr; cases hr
  | n + 1, st, s, hr => by
    cases st with
    | Expr e p => exact sndX h (by simpa only [trS] using hr)
    | Assign tgs e p =>
      cases tgs with
      | nil => simp only [trS] at hr; cases hr
      | cons tg rest =>
        cases rest with
        | nil => exact sndA h (by simpa only [trS] using hr)
        | cons a b => simp only [trS] at hr; cases hr
    | Return e p => exact sndR h (by simpa only [trS] using hr)
    | If t a b p =>
      simp only [trS, Option.bind_eq_some_iff] at hr
      obtain ⟨t', ht, a', ha, b', hb, hr⟩ := hr
      cases hr
      exact wrp_ok (PS.imp (ps_if (snd_t h.e ht) (sndSs h n a a' ha) (sndSs h n b b' hb)) fun D σ H q => ifs_read q)
    | For tg it b oe p =>
      cases oe with
      | cons x y => simp only [trS] at hr; cases hr
      | nil =>
        simp only [trS] at hr
        split at hr
        · cases hr
        rename_i hsup
        have hsup := Bool.eq_false_iff.mpr hsup
        simp only [Option.bind_eq_some_iff] at hr
        obtain ⟨t', ht, i', hi, b', hb, hr⟩ := hr
        cases hr
        obtain ⟨hI, hf⟩ := (sndE T k n).i G c X h.e it tg i' hi
        exact wrp_ok (PS.imp (ps_for h.own (h.e.calm hsup) hI (sndT h.e n tg t' ht) (sndSs h n b b' hb) (hf X.env)) fun D σ H q => fr_read q)
    | While t b oe p =>
      cases oe with
      | cons x y => simp only [trS] at hr; cases hr
      | nil =>
        simp only [trS, Option.bind_eq_some_iff] at hr
        obtain ⟨t', ht, b', hb, hr⟩ := hr
        cases hr
        exact wrp_ok (PS.imp (ps_while h.own (snd_t h.e ht) (sndSs h n b b' hb)) fun D σ H q => wh_read q)
    | Break p => simp only [trS] at hr; cases hr; exact PS.imp ps_break fun D σ H q => brk_read q
    | Continue p => simp only [trS] at hr; cases hr; exact PS.imp ps_continue fun D σ H q => cnt_read q
    | Pass p => simp only [trS] at hr; cases hr; exact PS.imp ps_pass fun D σ H q => skip_read q
    | Raise o f p =>
      unfold trS at hr
      split at hr
      all_goals first
        | (rename_i hm; cases hm; done)
        | (cases hr; done)
        | skip
      rename_i m x p1 e es cp pos e1 e2
      cases e1
      cases e2
      split at hr
      · rename_i hc
        simp only [Bool.and_eq_true] at hc
        simp only [Option.bind_eq_some_iff] at hr
        obtain ⟨t, ht, rs, hl, hr⟩ := hr
        cases hr
        exact raise_ok h (by simpa using hc.1.1) hc.1.2 hc.2 ht hl
      · cases hr
    | Try body hs oe fb p =>
      unfold trS at hr
      split at hr
      all_goals first
        | (rename_i hm; cases hm; done)
        | (cases hr; done)
        | skip
      rename_i m bd x np on b0 suite hp pos e1 e2
      cases e1
      cases e2
      split at hr
      · rename_i hc
        simp only [Bool.and_eq_true] at hc
        have hsup : c.sup = false := by simpa using hc.1.1
        simp only [Option.bind_eq_some_iff] at hr
        obtain ⟨l, hl, oi, ho, b, hb, sq, hsq, hr⟩ := hr
        cases hr
        obtain ⟨cv, nms, hxt⟩ := names_of h.e hc.1.2 hc.2 hl
        have hB : ∀ (W : WX) (pn : List (Addr × Obj)) (xe : Value → Shared → Prop), Takes (X.tr pn xe) W → PassesOwn (model X.prog X.w) X.A X.env xe → PSs (X.tr pn xe) body (tS { G with W := W } (evB (callF T k) b)) :=
          fun W pn xe tk ow => sndSs (h.tr tk hsup ow) n body b hb
        cases on with
        | none =>
          simp only [trH] at ho
          cases ho
          refine PS.imp (try_only_ps (ms := evB (callF T k) sq) h.st h.fr nms h.e.tk h.e.K hxt (h.e.nx hsup) hB fun a oe C d pn hz hf => sndSs (h.suite hz hf) n (b0 :: suite) sq hsq) fun D σ H q => ?_
          exact tS_congr (fun env => by simp only [evS]) q
        | some nm =>
          simp only [trH] at ho
          split at ho
          · rename_i hk
            rw [Option.map_eq_some_iff] at ho
            obtain ⟨i, hi, rfl⟩ := ho
            refine PS.imp (try_ps (ms := evB (callF T k) sq) h.st h.fr (by rw [h.e.N]; exact h.e.nd) (by rw [h.e.N]; exact ixOf_get hi) (by show X.env.scope.names.lookup nm = _; rw [h.e.sc]; exact of_decide_eq_true (by simpa using hk)) nms h.e.tk h.e.K hxt (h.e.nx hsup) hB
              fun a oe C d pn hz hf => sndSs (h.suite hz hf) n (b0 :: suite) sq hsq) fun D σ H q => ?_
            exact tS_congr (fun env => by simp only [evS]) q
          · cases ho
      · cases hr
    | _ => simp only [trS] at hr; cases hr
theorem sndSs {T : List Fn} {k : Nat} {G : Gp} {c : Sc} {X : Cx} (h : SCok G T k c X) : ∀ (n : Nat) (st : List Stmt) (s : List S), trSs c n st = some s → PSs X st (tS G (evB (callF T k) s))
  | 0, _, _, hr => by simp only [trSs] at hr; cases hr
  | n + 1, [], s, hr => by
    simp only [trSs] at hr
    cases hr
    exact PSs.imp pss_nil fun D σ H q => nil_read q
  | n + 1, st :: r, s, hr => by
    simp only [trSs, Option.bind_eq_some_iff] at hr
    obtain ⟨s', hs, r', hr', e⟩ := hr
    cases e
    exact PSs.imp (pss_cons (sndS h n st s' hs) (sndSs h n r r' hr')) fun D σ H q => cons_read q
end
end
end Pd
set_option Elab.async false
set_option linter.all false
set_option maxRecDepth 100000
set_option autoImplicit false
set_option maxHeartbeats 4000000
/-! A table of defs; the law's own call. -/
namespace Pd
open PySem PyProof.Rows L2 TL RZ
open Evl (Ex ex_l ex_t)

/-- a def of the text: its statement, its name, its names by slot, its parameters -/
structure Df where
  st : Stmt
  x : Str
  N : List Str
  ps : List Str
structure FdOk (K : Fg) (mg : Str → Option Value) (d : Df) (a : Addr) (fd : FuncData) : Prop where
  fn : L2.Fun K d.x d.x d.st a fd
  mg : mg d.x = some (.ref a)
  bd : Binds K fd d.ps []
def findD : List Df → Str → Nat → Option (Nat × Nat × List D)
  | [], _, _ => none
  | d :: r, x, i => if d.x = x then some (i, d.ps.length, []) else findD r x (i + 1)
theorem findD_ok : ∀ {l : List Df} {x : Str} {j f np : Nat} {dd : List D}, findD l x j = some (f, np, dd) → ∃ d, j ≤ f ∧ l[f - j]? = some d ∧ d.x = x ∧ np = d.ps.length ∧ dd = []
  | [], _, _, _, _, _, h => by cases h
  | d :: r, x, j, f, np, dd, h => by
    unfold findD at h
    split at h
    · rename_i e
      cases h
      exact ⟨d, Nat.le_refl _, by rw [Nat.sub_self]; rfl, e, rfl, rfl⟩
    · obtain ⟨d', h1, h2, h3⟩ := findD_ok h
      refine ⟨d', by omega, ?_, h3⟩
      rw [show f - j = (f - (j + 1)) + 1 by omega]
      exact h2
/-- what the table knows of errors and constants: the names of their fields; the classes (name, fields); the classes that are asked of an error (which places); the constants of the module -/
structure XT where
  flds : List Str := []
  cls : List (Str × List Str) := []
  ask : List (Str × List Nat) := []
  con : List (Str × List Nat) := []
def findX : List (Str × List Str) → Str → Nat → Option (Nat × List Str)
  | [], _, _ => none
  | c :: r, x, i => if c.1 = x then some (i, c.2) else findX r x (i + 1)
theorem findX_ok : ∀ {l : List (Str × List Str)} {x : Str} {j i : Nat} {nm : List Str}, findX l x j = some (i, nm) → j ≤ i ∧ l[i - j]? = some (x, nm)
  | [], _, _, _, _, h => by cases h
  | c :: r, x, j, i, nm, h => by
    unfold findX at h
    split at h
    · rename_i e
      cases h
      refine ⟨Nat.le_refl _, ?_⟩
      rw [Nat.sub_self, ← e]
      rfl
    · obtain ⟨h1, h2⟩ := findX_ok h
      refine ⟨by omega, ?_⟩
      rw [show i - j = (i - (j + 1)) + 1 by omega]
      exact h2
def scOf (ds : List Df) (gt : XT) (d : Df) : Sc := ⟨d.N, defScope d.st, fun _ => true, fun x => findD ds x 0, fun x => (gt.con.lookup x).map D.str, false, gt.flds, fun x => findX gt.cls x 0, fun x => gt.ask.lookup x⟩
def trFuel : Nat := 60
def trF (ds : List Df) (gt : XT) (d : Df) : Option Fn := (trSs (scOf ds gt d) trFuel (defBody d.st)).map fun b => ⟨d.N.length, d.ps.length, b⟩
/-- the table -/
def tabOf (ds : List Df) (gt : XT) : List Df → Option (List Fn)
  | [] => some []
  | d :: r => (trF ds gt d).bind fun f => (tabOf ds gt r).map (f :: ·)
theorem tabOf_get {ds : List Df} {gt : XT} : ∀ {l : List Df} {T : List Fn} {i : Nat} {d : Df}, tabOf ds gt l = some T → l[i]? = some d → ∃ f, T[i]? = some f ∧ trF ds gt d = some f
  | [], _, _, _, _, h => by simp at h
  | d :: r, T, i, d', h, hi => by
    simp only [tabOf, Option.bind_eq_some_iff, Option.map_eq_some_iff] at h
    obtain ⟨f, h1, T', h2, h3⟩ := h
    subst h3
    cases i with
    | zero => simp at hi; subst hi; exact ⟨f, rfl, h1⟩
    | succ i => exact tabOf_get (i := i) h2 (by simpa using hi)
theorem start_rep {G : Gp} {F H : Hp} {N ps : List Str} {vs : List V} {ds : List D} {b : List S} (e : Ex F H) (h : DvL G.K F vs ds) (hl : ds.length ≤ N.length) (P : LkT) (hP : P = (fun _ => none, F)) : RepS G F H P F (L2.start N vs) H (entry ⟨N.length, ps.length, b⟩ ds) := by
  subst hP
  have eL := h.len
  have get : ∀ (i : Nat) (a : Sl), (entry ⟨N.length, ps.length, b⟩ ds)[i]? = some a → (∃ d, a = .v d ∧ ds[i]? = some d) ∨ a = .un := fun i a ha => by
    unfold entry at ha
    by_cases hi : i < (ds.map Sl.v).length
    · rw [List.getElem?_append_left hi, List.getElem?_map] at ha
      cases q : ds[i]? with
      | none => rw [q] at ha; cases ha
      | some d => rw [q] at ha; exact .inl ⟨d, (Option.some.inj ha).symm, rfl⟩
    · rw [List.getElem?_append_right (by omega)] at ha
      exact .inr (List.eq_of_mem_replicate (List.mem_of_getElem? ha))
  refine ⟨⟨Gr.refl e, ?_, fun i d hi => ?_, fun i xs hi => ?_, fun i j xs ys p _ hi _ _ _ => ?_, fun i y hi => by rcases get i _ hi with ⟨_, z, _⟩ | z <;> cases z⟩, (fun i p vs xs z => by cases z), fun i xs hi => ?_, Ex.refl F⟩
  · unfold entry L2.start
    simp [eL]
  · rcases get i _ hi with ⟨d', z, hd⟩ | z
    · cases z
      obtain ⟨v, h1, h2⟩ := h.get hd
      refine ⟨v, ?_, h2⟩
      unfold L2.start
      rw [List.getElem?_append_left (by rw [List.length_map]; exact (List.getElem?_eq_some_iff.mp h1).1), List.getElem?_map, h1]
      rfl
    · cases z
  · rcases hi with hi | hi <;> (rcases get i _ hi with ⟨d', z, _⟩ | z <;> cases z)
  · rcases hi with hi | hi <;> (rcases get i _ hi with ⟨d', z, _⟩ | z <;> cases z)
  · exact ((get i _ hi).elim (fun ⟨d', z, _⟩ => by cases z) fun z => by cases z)
section
variable {P : Program} {w : World} {K : Fg} {mg : Str → Option Value} {base : Heap}
theorem callF_some {T : List Fn} {k i : Nat} {xs : List D} {Pp : Rv → Prop} {E : Xc → Prop} (h : (callF T k i xs).wp Pp E) : ∃ j fn, k = j + 1 ∧ T[i]? = some fn ∧ xs.length = fn.np ∧ callF T k i xs = fin (evB (callF T j) fn.body (entry fn xs)) := by
  cases k with
  | zero => exact h.elim
  | succ j =>
    rw [callF] at h
    split at h
    · rename_i fn e
      split at h
      · rename_i hl
        refine ⟨j, fn, rfl, e, hl, ?_⟩
        rw [callF, e]
        exact if_pos hl
      · exact h.elim
    · exact h.elim
/-- what is told of the classes and constants -/
structure XOk (K : Fg) (mg : Str → Option Value) (ct : Nat → Option Addr) (xt : XT) : Prop where
  xc : ∀ ci C, ct ci = some C → XcC K xt.flds C
  ets : ∀ x ci nm, findX xt.cls x 0 = some (ci, nm) → ∃ C fI fd qual st, ct ci = some C ∧ OexC K C ∧ (∀ f ∈ nm, PySem.W.findIn K (.ref C) f = some none) ∧ mg x = some (.ref C) ∧ PySem.W.findIn K (.ref C) "__init__" = some (some (.ref fI)) ∧
    PySem.W.typeIn K (.ref fI) = some (.type "function") ∧ L2.Fun K "__init__" qual st fI fd ∧ FnScope ("self" :: nm) ("self" :: nm) (defScope st) ∧ nm ≠ [] ∧ nm.length ≤ 900 ∧ initB nm (defBody st) = true ∧ Binds K fd ("self" :: nm) []
  xts : ∀ x l, xt.ask.lookup x = some l → ∃ v cv, ClsV v cv ∧ (mg x = some cv ∨ (mg x = none ∧ bootBuiltins x = some cv ∧ x ≠ "__name__")) ∧ ∀ ci C, ct ci = some C → PySem.W.exmOne K (.ref C) cv = some (l.contains ci) ∧ PySem.W.kitOne K (.ref C) cv = some (l.contains ci)
  con : ∀ x l, xt.con.lookup x = some l → ∃ u, mg x = some u ∧ L2.RelV (.str (mkS l)) u
theorem tab_ok {ds : List Df} {T : List Fn} {gt : XT} {ct : Nat → Option Addr} (hT : tabOf ds gt ds = some T) (facts : ∀ d ∈ ds, ∃ a fd, FdOk K mg d a fd) (scopes : ∀ d ∈ ds, FnScope d.N d.ps (defScope d.st))
    (mgB : ∀ x ∈ bltNames, mg x = none) (xo : XOk K mg ct gt) : ∀ (k i : Nat) (d : Df), ds[i]? = some d → ∀ a fd, FdOk K mg d a fd → FnG P w K mg base (k + 2) a fd d.ps (spOf ⟨K, fun _ _ _ _ => False, ct, none⟩ (callF T k i))
  | 0, i, d, hi, a, fd, ok => by
    have no : ∀ vs H Q E, ¬ spOf ⟨K, fun _ _ _ _ => False, ct, none⟩ (callF T 0 i) vs H Q E := fun vs H Q E h => by
      obtain ⟨F, xs, _, _, h⟩ := h
      exact h.elim
    exact ⟨fun vs H Q E h => (no _ _ _ _ h).elim, fun A outer s H args us vs Q E _ _ _ _ _ h => (no _ _ _ _ h).elim⟩
  | k + 1, i, d, hi, a, fd, ok => by
    obtain ⟨fn, hf, htr⟩ := tabOf_get hT hi
    unfold trF at htr
    rw [Option.map_eq_some_iff] at htr
    obtain ⟨b, hb, rfl⟩ := htr
    have hmem : d ∈ ds := List.mem_of_getElem? hi
    have S := scopes d hmem
    have len : ∀ vs H Q E, spOf ⟨K, fun _ _ _ _ => False, ct, none⟩ (callF T (k + 1) i) vs H Q E → vs.length = d.ps.length := fun vs H Q E h => by
      obtain ⟨F, xs, _, hv, h⟩ := h
      obtain ⟨j, fn, _, hf', hl, _⟩ := callF_some h
      rw [hf] at hf'
      cases hf'
      rw [hv.len]
      exact hl
    obtain ⟨oc, od, kV, doc, pm, an, cdv, cT, osl, rfl, lk, hcd⟩ := ok.fn.ex
    refine fnG_of (k := k + 2) lk hcd S len fun A outer s H vs Q E hgd hr hsp => ?_
    obtain ⟨F, xs, e, hv, h⟩ := hsp
    obtain ⟨j, fn, ej, hf', hl, hc⟩ := callF_some h
    cases ej
    rw [hf] at hf'
    cases hf'
    let X : Cx := cxOf (L2.CX P w) P w K mg base d.N d.x (defScope d.st) a cdv A outer s H E
    let G : Gp := ⟨K, fun cls d _ H => E cls d H, ct, none⟩
    have ck : Cok G T k (scOf ds gt d) X := {
      K := rfl
      N := rfl
      nd := S.nd
      sc := rfl
      fn := fun x _ => rfl
      calm := fun _ => rfl
      gd := hgd
      un := by
        have := hr.un
        show (A.deeper _).units + 200 < cLine
        omega
      room := fun _ => hr
      tk := takes_of rfl rfl rfl rfl
      mg := mgB
      fns := fun x f np dd hx => by
        obtain ⟨d', _, h1, h2, h3, h4⟩ := findD_ok (show findD ds x 0 = some (f, np, dd) from hx)
        obtain ⟨a', fd', ok'⟩ := facts d' (List.mem_of_getElem? h1)
        subst h3 h4
        exact ⟨a', fd', d'.ps, [], [], tab_ok hT facts scopes mgB xo k f d' h1 a' fd' ok', h2 ▸ ok'.mg, ok'.fn.kp, (fun j => by rw [List.drop_nil]; exact ok'.bd), .nil, fun _ => .nil, rfl⟩
      gts := fun x d hx => by
        obtain ⟨l, h1, h2⟩ := Option.map_eq_some_iff.mp (show (gt.con.lookup x).map D.str = some d from hx)
        subst h2
        obtain ⟨u, g1, g2⟩ := xo.con x l h1
        exact ⟨_, u, g1, g2, fun F => .str l⟩
      nx := fun _ => rfl
      xs := fun i a C d e => by cases e
      xc := xo.xc
      ets := fun x ci nm hx => by
        obtain ⟨C, fI, fd, qual, st, h1, h2, h3, h4, h5, h6, h7, h8, h9, h10, h11, h12⟩ := xo.ets x ci nm hx
        exact ⟨C, h1, h2, h3, h4, ⟨fI, fd, h5, h6, init_ok h7 h8 h9 h10 h11, h12⟩, h10⟩
      xts := xo.xts }
    have sk : SCok G T k (scOf ds gt d) X := ⟨ck, passes_of rfl, S.kind, rfl, rfl⟩
    refine ⟨_, sndSs sk trFuel _ b hb, F, H, (fun _ => none, F), F, _, start_rep (G := G) (ps := d.ps) (b := b) e hv ?_ _ rfl, ?_⟩
    · have := S.pre
      have h2 : (d.N.take d.ps.length).length = d.ps.length := by rw [this]
      rw [List.length_take] at h2
      have hl' : xs.length = d.ps.length := hl
      omega
    · rw [hc] at h
      have h : (fin (evB (callF T k) b (entry ⟨d.N.length, d.ps.length, b⟩ xs))).wp _ _ := h
      cases em : evB (callF T k) b (entry ⟨d.N.length, d.ps.length, b⟩ xs) with
      | none => rw [em] at h; exact h.elim
      | some f =>
        rw [em] at h
        cases f with
        | nx e' => exact fun σ' F' H' R' => h .non F' H' R'.r.g .non
        | rt r =>
          cases r with
          | v d' => exact fun v F' H' g rv => h v F' H' g rv
          | own ys => exact fun v F' H' g rv => h v F' H' g rv
          | bor ys => exact h.elim
        | bk e' => exact h.elim
        | ct e' => exact h.elim
        | rs x e' => exact fun cls dd σ' F' H' R' xr => h cls dd F' H' R'.r.g xr
end
end Pd
set_option Elab.async false
set_option linter.all false
set_option maxRecDepth 100000
set_option autoImplicit false
set_option maxHeartbeats 4000000
/-! The law's own call, with no guard about it. -/
namespace Pd
open PySem PyProof.Rows L2 TL RZ
open Evl (Ex ex_l ex_t)
section
variable {P : Program} {w : World} {K : Fg} {mg mb : Str → Option Value}
  {k : Nat} {fa a : Addr} {fd : FuncData} {x : Str} {z : Shared}
  {us : List Value} {ns : List Int} {G : Gp} {m : List D → Out Rv}
/-- what the law's row asks of the call -/
def Told (z : Shared) (r : Result) (z' : Shared) : Prop :=
  r = .ok (.ret (.bool true)) ∧ OldK z.heap z'.heap ∧ z'.os = z.os ∧ AllBare z'.gens
/-- nothing at b, if only the script's place is taken -/
theorem off_a {H : Hp} {b : Addr} (only : ∀ c, H c ≠ none → c = a) (ne : b ≠ a) : H b = none := by
  cases q : H b with
  | none => rfl
  | some u => exact absurd (only b (by rw [q]; exact Option.some_ne_none u)) ne
theorem head_G (inK : K.In z.heap)
    (nm : z.heap.Ns mainGlobals mg) (nb : z.heap.Ns builtinsNs mb)
    (boot : ∀ y : Str, y ≠ "__name__" → mb y = bootBuiltins y)
    (nolim : z.heap.NoLimit) (bare : z.gens = #[])
    (at_a : z.heap.get? a = some ⟨.type "list", none, .seq us.toArray, #[]⟩)
    (rm : Room k callerA)
    (fn : ∀ b0 : Heap, K.In b0 → b0.Ns mainGlobals mg →
      FnG P w K mg b0 k fa fd [x] (spOf G m))
    (bd : ∀ (s : Shared) (u : Value), BindsTo s fd ⟨[u], []⟩ [(x, u)])
    (res : m [.scr ns] = .ok (.v (.bl true))) (H : Hp) (oH : Only H)
    (sq : SqL G.K H a (ns.map V.int)) (hok : HOk P w H z.heap)
    (only : ∀ c, H c ≠ none → c = a) (noK : H a ≠ none → K.lookup a = none) :
    codeAny (model P w) callerA (.call (.ref fa) ⟨[.ref a], []⟩) (Told z) z := by
  -- no dict is tracked
  have nd : ∀ {b : Addr} {o : Obj} {es : Array DictEntry} {ep : Nat},
      z.heap.get? b = some o → o.data = .dict es ep → H b = none := by
    intro b o es ep e1 e2
    by_cases eb : b = a
    · rw [eb, at_a] at e1
      cases e1
      cases e2
    · exact off_a only eb
  have nsp : ∀ {b : Addr} {f : Str → Option Value}, z.heap.Ns b f →
      (hidT z.heap H).Ns b f := by
    rintro b f ⟨o, es, ep, e1, e2, e3⟩
    exact ⟨o, es, ep, hidT_get e1 (nd e1 e2), e2, e3⟩
  have kin : K.In (hidT z.heap H) := by
    intro b o e
    refine hidT_get (inK b o e) ?_
    by_cases eb : b = a
    · cases q : H b with
      | none => rfl
      | some u =>
        rw [eb] at q e
        rw [noK (by rw [q]; exact Option.some_ne_none u)] at e
        cases e
    · exact off_a only eb
  obtain ⟨mc, l1, l2⟩ := nolim
  have md : Mod K mg (hidT z.heap H) := ⟨kin, nsp nm, ⟨mb, nsp nb, boot⟩, ⟨mc, nsp l1, l2⟩⟩
  have nil : ∀ {b : Addr}, b ∉ ([] : List Addr) := List.not_mem_nil
  have en : Env0 P w K mg (hidT z.heap H) callerA [] z H := by
    refine ⟨rfl, md, fun b o e => of_hidT e, ?_, trivial, ?_, hok, .of_eq bare⟩
    · exact Nat.le_of_eq (hidT_size _ _)
    · exact fun b hb => (nil hb).elim
  have sp : spOf G m [.ref a] H (fun v _ => v = .bl true) (fun _ _ _ => False) := by
    refine ⟨H, [.scr ns], Ex.refl H, .cons (.scr sq) .nil, ?_⟩
    rw [res]
    intro v F' H' _ rv
    cases rv
    rfl
  have run := (fn _ kin (nsp nm)).go callerA [] z H ⟨[.ref a], []⟩ [.ref a] [.ref a] _ _ rfl rm en
    (bd z (.ref a)) (.cons rfl .nil) sp
  refine codeAny_mono run fun r z' hr => ?_
  match r, hr with
  | .error e, hr =>
    obtain ⟨_, _, _, _, _, _, _, _, _, _, _, _, no⟩ := hr
    exact no.elim
  | .ok .next, hr => exact hr.elim
  | .ok .brk, hr => exact hr.elim
  | .ok .cont, hr => exact hr.elim
  | .ok (.ret u), hr =>
    obtain ⟨v, H2, os, gb, ub, ok2, rl, ev⟩ := hr
    have ev : v = .bl true := ev
    subst ev
    have eu : u = Value.bool true := rl
    subst eu
    refine ⟨rfl, OldK.of_keep fun b o e => ?_, os, gb⟩
    cases q : H b with
    | none => exact ub.keep b o e q (fun h => (nil h).elim) (by simp)
    | some t =>
      obtain q' | ⟨ob, xs, q'⟩ := oH b
      · rw [q] at q'
        cases q'
      · obtain ⟨e1, _⟩ := hok b _ q'
        obtain ⟨e2, _⟩ := ok2 b _ (ub.frzs b ob _ q')
        rw [e] at e1
        cases e1
        exact e2
theorem call_head (eK : G.K = K) (inK : K.In z.heap)
    (nm : z.heap.Ns mainGlobals mg) (nb : z.heap.Ns builtinsNs mb)
    (boot : ∀ y : Str, y ≠ "__name__" → mb y = bootBuiltins y)
    (nolim : z.heap.NoLimit) (bare : z.gens = #[])
    (at_a : z.heap.get? a = some ⟨.type "list", none, .seq us.toArray, #[]⟩)
    (areI : IntsAre us ns) (few : ns.length ≤ sizeLine) (rm : Room k callerA)
    (fn : ∀ b0 : Heap, K.In b0 → b0.Ns mainGlobals mg →
      FnG P w K mg b0 k fa fd [x] (spOf G m))
    (bd : ∀ (s : Shared) (u : Value), BindsTo s fd ⟨[u], []⟩ [(x, u)])
    (res : m [.scr ns] = .ok (.v (.bl true))) :
    codeAny (model P w) callerA (.call (.ref fa) ⟨[.ref a], []⟩) (Told z) z := by
  have vals := vals_ints areI
  have el := areI.length
  cases inA : K.lookup a with
  | some o =>
    have e := inK a o inA
    rw [at_a] at e
    have eo := (Option.some.inj e).symm
    subst eo
    refine head_G inK nm nb boot nolim bare at_a rm fn bd res (fun _ => none) (fun _ => .inl rfl) ?_ (fun b u h => by cases h) (fun c h => absurd rfl h) fun h => absurd rfl h
    rw [eK]
    exact .inr ⟨_, us.toArray, _, inA, rfl, rfl, rfl, by rw [List.size_toArray, el]; exact few, by simpa using vals⟩
  | none =>
    let o : Obj := ⟨.type "list", none, .seq us.toArray, #[]⟩
    let H : Hp := fun b => if b = a then some (.frz o (.lst (ns.map V.int))) else none
    have Ha : H a = some (.frz o (.lst (ns.map V.int))) := if_pos rfl
    have Hn : ∀ b, b ≠ a → H b = none := fun b h => if_neg h
    refine head_G inK nm nb boot nolim bare at_a rm fn bd res H ?_ ?_ ?_ ?_ fun _ => inA
    · intro b
      by_cases eb : b = a
      · rw [eb]
        exact .inr ⟨_, _, Ha⟩
      · exact .inl (Hn b eb)
    · exact .inl (.inr ⟨o, Ha⟩)
    · intro b t h
      by_cases eb : b = a
      · subst eb
        rw [Ha] at h
        cases h
        refine ⟨at_a, ?_, us, _, vals, at_a⟩
        rw [List.length_map]
        exact few
      · rw [Hn b eb] at h
        cases h
    · intro c h
      by_cases ec : c = a
      · exact ec
      · exact absurd (Hn c ec) h
end
/-- the goal that the head leaves, from the law's answer on data -/
theorem walk_G {l : PySem.W.OpenLaw} {q : Program} {loose : List Str} {d : DefRec}
    {XP : (Str → Option Value) → Heap → Prop} {YP : World → Heap → Prop}
    {K : Params → Fg} {x : Str} {k n : Nat} {m : List D → Out Rv} (most : l.most = some n) (few : n ≤ sizeLine)
    (nodef : d.params.defaults = []) (rm : Room k callerA)
    (inY : ∀ (w : World) (h : Heap), YP w h → (K w.params).In h)
    (fn : ∀ (w : World) (mg : Str → Option Value) (fa : Addr) (h : Heap),
      (K w.params).In h → h.Ns mainGlobals mg → mg d.name = some (.ref fa) →
      ∃ (fd : FuncData) (ct : Nat → Option Addr), (∀ (s : Shared) (u : Value), BindsTo s fd ⟨[u], []⟩ [(x, u)]) ∧
        ∀ b0 : Heap, (K w.params).In b0 → b0.Ns mainGlobals mg →
          FnG l.prog w (K w.params) mg b0 k fa fd [x] (spOf ⟨K w.params, fun _ _ _ _ => False, ct, none⟩ m))
    (res : ∀ ns : List Int, ns.length ≤ n → (∀ i ∈ ns, Builtin.Int.intBits i ≤ 1048576) → m [.scr ns] = .ok (.v (.bl true))) :
    PySem.W.WalkO q loose XP YP l.row.toRowW d [] (fun f vs => PySem.call f vs) := by
  refine Att.attach_callB most nodef ?_
  intro w _ z mg mb fa _ _ _ _ a us ns gr y _ _ _ atf at_a areI le bits bare
  have inK := inY w _ y
  obtain ⟨fd, ct, bd, fn⟩ := fn w mg fa _ inK gr.T.g atf
  exact call_head (G := ⟨K w.params, fun _ _ _ _ => False, ct, none⟩) rfl inK gr.T.g gr.T.b gr.T.builtins gr.T.nolimit bare at_a areI (Nat.le_trans le few) rm fn bd (res ns le bits)
end Pd
namespace Pd
open PySem PyProof.Rows L2 TL RZ
/-- what the top leaves of a def -/
def Left (K : Fg) (d : Df) : Prop :=
  ∃ (f : Addr) (oc : Value) (od an : Option Addr) (osl : Array (Option Value)) (kV doc pm cdv ct : Value),
    PySem.W.nsIn K mainGlobals d.x = some (some (.ref f)) ∧
    K.lookup f = some ⟨oc, od, .func (PySem.W.fnOf d.x d.x (defArgs d.st) (defBody d.st) (defScope d.st) .none kV doc pm an cdv ct), osl⟩ ∧
    PySem.W.codeIn K cdv d.x = true ∧ PySem.W.keepIn K (.ref f) = true
/-- no name of the module -/
def Free (K : Fg) : List Str → Prop
  | [] => True
  | x :: r => PySem.W.nsIn K mainGlobals x = some none ∧ Free K r
theorem Free.mg {K : Fg} {h : Heap} {mg : Str → Option Value} (X : K.In h) (N : h.Ns mainGlobals mg) : ∀ {l : List Str}, Free K l → ∀ x ∈ l, mg x = none
  | [], _, _, hx => by cases hx
  | y :: r, f, x, hx => by
    rcases List.mem_cons.mp hx with e | e
    · rw [e]
      exact PySem.W.mg_none_of X N f.1
    · exact Free.mg X N f.2 x e
def Lefts (K : Fg) : List Df → Prop
  | [] => True
  | d :: r => Left K d ∧ Lefts K r
theorem Lefts.get {K : Fg} : ∀ {l : List Df}, Lefts K l → ∀ d ∈ l, Left K d
  | [], _, _, hd => by cases hd
  | d0 :: r, f, d, hd => by
    rcases List.mem_cons.mp hd with e | e
    · rw [e]
      exact f.1
    · exact Lefts.get f.2 d e
/-- how the arguments are bound, whatever the object -/
def BindsOk (d : Df) : Prop := ∀ (kV doc pm : Value) (an : Option Addr) (cdv ct : Value) (us : List Value), us.length = d.ps.length →
  bindArgs (PySem.W.fnOf d.x d.x (defArgs d.st) (defBody d.st) (defScope d.st) .none kV doc pm an cdv ct) ⟨us, []⟩ = pure (d.ps.zip us)
theorem some_getD {α : Type} {o : Option α} {d : α} (h : o.isSome = true) : o = some (o.getD d) := by
  cases o with
  | none => cases h
  | some a => rfl
/-- what the top leaves of a class of errors -/
def ClsLeft (K : Fg) (flds : List Str) (c : Str × List Str) (C : Addr) : Prop :=
  PySem.W.nsIn K mainGlobals c.1 = some (some (.ref C)) ∧ OexC K C ∧ XcC K flds C ∧ (∀ f ∈ c.2, PySem.W.findIn K (.ref C) f = some none) ∧
  ∃ (fI : Addr) (fd : FuncData) (qual : Str) (st : Stmt), PySem.W.findIn K (.ref C) "__init__" = some (some (.ref fI)) ∧ PySem.W.typeIn K (.ref fI) = some (.type "function") ∧ L2.Fun K "__init__" qual st fI fd ∧
    FnScope ("self" :: c.2) ("self" :: c.2) (defScope st) ∧ c.2 ≠ [] ∧ c.2.length ≤ 900 ∧ initB c.2 (defBody st) = true ∧ Binds K fd ("self" :: c.2) []
def ClsLefts (K : Fg) (flds : List Str) : List (Str × List Str) → List Addr → Prop
  | [], [] => True
  | c :: r, C :: Cs => ClsLeft K flds c C ∧ ClsLefts K flds r Cs
  | _, _ => False
theorem ClsLefts.get {K : Fg} {flds : List Str} : ∀ {l : List (Str × List Str)} {cs : List Addr} {i : Nat} {c : Str × List Str}, ClsLefts K flds l cs → l[i]? = some c → ∃ C, cs[i]? = some C ∧ ClsLeft K flds c C
  | [], [], _, _, _, h => by simp at h
  | c :: r, C :: Cs, 0, c', f, h => by
    simp at h
    subst h
    exact ⟨C, rfl, f.1⟩
  | c :: r, C :: Cs, i + 1, c', f, h => by
    obtain ⟨C', h1, h2⟩ := ClsLefts.get (i := i) f.2 (by simpa using h)
    exact ⟨C', by simpa using h1, h2⟩
theorem ClsLefts.getC {K : Fg} {flds : List Str} : ∀ {l : List (Str × List Str)} {cs : List Addr} {i : Nat} {C : Addr}, ClsLefts K flds l cs → cs[i]? = some C → ∃ c, l[i]? = some c ∧ ClsLeft K flds c C
  | [], [], _, _, _, h => by simp at h
  | c :: r, C :: Cs, 0, c', f, h => by
    simp at h
    subst h
    exact ⟨c, rfl, f.1⟩
  | c :: r, C :: Cs, i + 1, c', f, h => by
    obtain ⟨C', h1, h2⟩ := ClsLefts.getC (i := i) f.2 (by simpa using h)
    exact ⟨C', by simpa using h1, h2⟩
def NoAll (K : Fg) (C : Addr) : List Str → Prop
  | [] => True
  | f :: r => PySem.W.findIn K (.ref C) f = some none ∧ NoAll K C r
theorem NoAll.all {K : Fg} {C : Addr} : ∀ {l : List Str}, NoAll K C l → ∀ f ∈ l, PySem.W.findIn K (.ref C) f = some none
  | [], _, _, h => by cases h
  | g :: r, n, f, h => by
    rcases List.mem_cons.mp h with e | e
    · rw [e]; exact n.1
    · exact NoAll.all n.2 f e
theorem cls_left {K : Fg} {flds : List Str} {x : Str} {nm : List Str} {C fI : Addr} {qual : Str} {st : Stmt}
    {n0 q : Str} {N : Addr} {bs bm : List Value} {sn : List Str} {sub : List Value} {ab : Bool} {col : Option Bool} {dd : Option Addr} {m0 m1 m2 m3 m5 : Option Value} {oc kV dc pm cd ct : Value} {od an : Option Addr} {sl : Array (Option Value)}
    (sub_ : ∀ f ∈ nm, f ∈ flds) (hne : nm ≠ []) (hl : nm.length ≤ 900) (S : FnScope ("self" :: nm) ("self" :: nm) (defScope st)) (hb : initB nm (defBody st) = true)
    (bd : ∀ (kV doc pm : Value) (an : Option Addr) (cdv ct : Value) (us : List Value), us.length = ("self" :: nm : List Str).length → bindArgs (PySem.W.fnOf "__init__" qual (defArgs st) (defBody st) (defScope st) .none kV doc pm an cdv ct) ⟨us, []⟩ = pure (("self" :: nm : List Str).zip us))
    (gC : PySem.W.nsIn K mainGlobals x = some (some (.ref C))) (xL : K.lookup C = some (excClassObj n0 q C N bs bm true sn sub ab col dd m0 m1 m2 m3 m5 "ValueError.__new__")) (rv : PySem.HandSPX.refsVE bm = true)
    (sa : PySem.W.findIn K (.ref C) "__setattr__" = some (some (.builtin "object.__setattr__"))) (ga : PySem.W.findIn K (.ref C) "__getattribute__" = some (some (.builtin "BaseException.__getattribute__"))) (gg : PySem.W.findIn K (.ref C) "__getattr__" = some none)
    (exC : PySem.W.subIn K (.ref C) (.type "BaseException") = some true) (tyC : PySem.W.typeIn K (.ref C) = some (.type "type")) (kC : PySem.W.keepIn K (.ref C) = true) (hd : PySem.W.hasDictIn K C = true)
    (ha : PySem.W.findIn K (.ref C) "__class__" = some (some (.builtin "object.__class__"))) (hn : PySem.W.specialIn K (.builtin "object.__class__") "__get__" = some (some (.builtin "getset_descriptor.__get__"))) (ht : PySem.W.takesIn K (.builtin "object.__class__") = some true)
    (hm : PySem.W.mroIn K C (.type "object") = some true) (iC : PySem.W.findIn K (.ref C) "__init__" = some (some (.ref fI))) (tI : PySem.W.typeIn K (.ref fI) = some (.type "function"))
    (l1 : K.lookup fI = some ⟨oc, od, .func (PySem.W.fnOf "__init__" qual (defArgs st) (defBody st) (defScope st) .none kV dc pm an cd ct), sl⟩) (c1 : PySem.W.codeIn K cd qual = true) (k1 : PySem.W.keepIn K (.ref fI) = true) (no : NoAll K C flds) : ClsLeft K flds (x, nm) C := by
  have F := fun_mk (st := st) l1 c1 k1
  refine ⟨gC, ⟨⟨n0, q, N, bs, bm, sn, sub, ab, col, dd, m0, m1, m2, m3, m5, xL, rv⟩, sa, exC, tyC, kC⟩, ⟨⟨ga, gg, exC, hd⟩, ⟨ga, gg, exC, hd, ha, hn, ht, hm⟩, no.all⟩, fun f hf => no.all f (sub_ f hf), fI, _, qual, st, iC, tI, F, S, hne, hl, hb, .all fun us e => bd kV dc pm an cd ct us e⟩
def AskAll (K : Fg) (cv : Value) (l : List Nat) : Nat → List Addr → Prop
  | _, [] => True
  | i, C :: r => (PySem.W.exmOne K (.ref C) cv = some (l.contains i) ∧ PySem.W.kitOne K (.ref C) cv = some (l.contains i)) ∧ AskAll K cv l (i + 1) r
theorem AskAll.get {K : Fg} {cv : Value} {l : List Nat} : ∀ {cs : List Addr} {j i : Nat} {C : Addr}, AskAll K cv l j cs → cs[i]? = some C → PySem.W.exmOne K (.ref C) cv = some (l.contains (j + i)) ∧ PySem.W.kitOne K (.ref C) cv = some (l.contains (j + i))
  | [], _, _, _, _, h => by simp at h
  | C :: r, j, 0, C', f, h => by
    simp at h
    subst h
    exact f.1
  | C :: r, j, i + 1, C', f, h => by
    have := AskAll.get (i := i) f.2 (by simpa using h)
    rw [show j + (i + 1) = j + 1 + i by omega]
    exact this
/-- a class that is asked of errors -/
def AskLeft (K : Fg) (cs : List Addr) (a : Str × List Nat) : Prop := ∃ (v : V) (cv : Value), ClsV v cv ∧ (PySem.W.nsIn K mainGlobals a.1 = some (some cv) ∨ (PySem.W.nsIn K mainGlobals a.1 = some none ∧ bootBuiltins a.1 = some cv ∧ a.1 ≠ "__name__")) ∧ AskAll K cv a.2 0 cs
def AskLefts (K : Fg) (cs : List Addr) : List (Str × List Nat) → Prop
  | [] => True
  | a :: r => AskLeft K cs a ∧ AskLefts K cs r
theorem lookup_mem {β : Type} {x : Str} {b : β} : ∀ {l : List (Str × β)}, l.lookup x = some b → (x, b) ∈ l := fun h => PySem.mem_of_lookup h
theorem AskLefts.get {K : Fg} {cs : List Addr} : ∀ {l : List (Str × List Nat)}, AskLefts K cs l → ∀ a ∈ l, AskLeft K cs a
  | [], _, _, h => by cases h
  | b :: r, f, a, h => by
    rcases List.mem_cons.mp h with e | e
    · rw [e]; exact f.1
    · exact AskLefts.get f.2 a e
theorem ask_own {K : Fg} {cs : List Addr} {x : Str} {l : List Nat} {B : Addr} (g : PySem.W.nsIn K mainGlobals x = some (some (.ref B))) (h : AskAll K (.ref B) l 0 cs) : AskLeft K cs (x, l) := ⟨.ref B, .ref B, .own B, .inl g, h⟩
theorem ask_ty {K : Fg} {cs : List Addr} {x : Str} {l : List Nat} {T : String} (g : PySem.W.nsIn K mainGlobals x = some none) (b : bootBuiltins x = some (.type T)) (n : x ≠ "__name__") (h : AskAll K (.type T) l 0 cs) : AskLeft K cs (x, l) := ⟨.ty T, .type T, .ty T, .inr ⟨g, b, n⟩, h⟩
/-- one class of errors, one class that is asked -/
theorem ask_one {K : Fg} {C : Addr} {cv : Value} {b : Bool} (h1 : PySem.W.subIn K cv (.type "BaseException") = some true) (h2 : PySem.W.kitCls K (.ref C) cv = some b) (h3 : (Value.ref C == cv) = true → b = true) : PySem.W.exmOne K (.ref C) cv = some b ∧ PySem.W.kitOne K (.ref C) cv = some b := by
  constructor
  · unfold PySem.W.exmOne
    rw [h1]
    exact h2
  · unfold PySem.W.kitOne
    split
    · rename_i e
      rw [h3 e]
    · exact h2
theorem ask_ref {K : Fg} {C B : Addr} {b : Bool} (h1 : PySem.W.subIn K (.ref B) (.type "BaseException") = some true) (hd : PySem.W.hasDictIn K B = true) (ty : PySem.W.typeIn K (.ref B) = some (.type "type")) (h2 : PySem.W.subIn K (.ref C) (.ref B) = some b)
    (h3 : (Value.ref C == Value.ref B) = true → b = true) : PySem.W.exmOne K (.ref C) (.ref B) = some b ∧ PySem.W.kitOne K (.ref C) (.ref B) = some b := by
  refine ask_one h1 ?_ h3
  obtain ⟨cd, hc, _⟩ := PySem.W.any_some hd
  show (if ((PySem.W.clsIn K B).isSome && PySem.W.typeIn K (.ref B) == some (.type "type")) = true then PySem.W.subIn K (.ref C) (.ref B) else none) = some b
  rw [hc, ty]
  exact h2
theorem ask_typ {K : Fg} {C : Addr} {T : String} {b : Bool} (h1 : PySem.W.subIn K (.type T) (.type "BaseException") = some true) (hm : PySem.W.kitMeta T = true) (h2 : PySem.W.subIn K (.ref C) (.type T) = some b)
    (h3 : (Value.ref C == Value.type T) = true → b = true) : PySem.W.exmOne K (.ref C) (.type T) = some b ∧ PySem.W.kitOne K (.ref C) (.type T) = some b := by
  refine ask_one h1 ?_ h3
  show (if PySem.W.kitMeta T = true then PySem.W.subIn K (.ref C) (.type T) else none) = some b
  rw [if_pos hm]
  exact h2
def ConLeft (K : Fg) (c : Str × List Nat) : Prop := ∃ u, PySem.W.nsIn K mainGlobals c.1 = some (some u) ∧ L2.RelV (.str (mkS c.2)) u
def ConLefts (K : Fg) : List (Str × List Nat) → Prop
  | [] => True
  | c :: r => ConLeft K c ∧ ConLefts K r
theorem ConLefts.get {K : Fg} : ∀ {l : List (Str × List Nat)}, ConLefts K l → ∀ c ∈ l, ConLeft K c
  | [], _, _, h => by cases h
  | b :: r, f, a, h => by
    rcases List.mem_cons.mp h with e | e
    · rw [e]; exact f.1
    · exact ConLefts.get f.2 a e
theorem con_left {K : Fg} {x : Str} {l : List Nat} {s : Str} {t : Tok} (h : PySem.W.nsIn K mainGlobals x = some (some (.str s t))) (e : s = mkS l) : ConLeft K (x, l) := ⟨_, h, t, by rw [e]⟩
theorem xOk_of {K : Fg} {h : Heap} {mg : Str → Option Value} {xt : XT} {cs : List Addr} (X : K.In h) (N : h.Ns mainGlobals mg) (hc : ClsLefts K xt.flds xt.cls cs) (ha : AskLefts K cs xt.ask) (hk : ConLefts K xt.con) : XOk K mg (fun i => cs[i]?) xt where
  xc := fun ci C e => by
    obtain ⟨c, _, f⟩ := hc.getC e
    exact f.2.2.1
  ets := fun x ci nm e => by
    obtain ⟨_, e1⟩ := findX_ok e
    obtain ⟨C, h1, h2, h3, h4, h5, fI, fd, qual, st, h6, h7, h8, h9, h10, h11, h12, h13⟩ := hc.get e1
    exact ⟨C, fI, fd, qual, st, h1, h3, h5, PySem.W.mg_of X N h2, h6, h7, h8, h9, h10, h11, h12, h13⟩
  xts := fun x l e => by
    obtain ⟨v, cv, h1, h2, h3⟩ := ha.get _ (lookup_mem e)
    refine ⟨v, cv, h1, ?_, fun ci C hC => by have := h3.get hC; rw [Nat.zero_add] at this; exact this⟩
    rcases h2 with h2 | ⟨h2, h4, h5⟩
    · exact .inl (PySem.W.mg_of X N h2)
    · exact .inr ⟨PySem.W.mg_none_of X N h2, h4, h5⟩
  con := fun x l e => by
    obtain ⟨u, h1, h2⟩ := hk.get _ (lookup_mem e)
    exact ⟨u, PySem.W.mg_of X N h1, h2⟩
/-- the law's def keeps its promise -/
theorem table_F {l : PySem.W.OpenLaw} {w : World} {K : Fg} {h : Heap} {mg : Str → Option Value} {fa : Addr} {ds : List Df} {T : List Fn} {d : Df} {i k : Nat} {xt : XT} {cs : List Addr} (hT : tabOf ds xt ds = some T)
    (sc : ∀ d ∈ ds, FnScope d.N d.ps (defScope d.st)) (bd : ∀ d ∈ ds, BindsOk d) (hi : ds[i]? = some d) (hd : d.ps = [("script" : Str)])
    (X : K.In h) (N : h.Ns mainGlobals mg) (hfa : mg d.x = some (.ref fa)) (hl : Lefts K ds) (hz : Free K bltNames) (hcl : ClsLefts K xt.flds xt.cls cs) (hak : AskLefts K cs xt.ask) (hco : ConLefts K xt.con) :
    ∃ (fd : FuncData) (ct : Nat → Option Addr), (∀ (s : Shared) (u : Value), BindsTo s fd ⟨[u], []⟩ [(("script" : Str), u)]) ∧
      ∀ b0 : Heap, K.In b0 → b0.Ns mainGlobals mg → FnG l.prog w K mg b0 (k + 2) fa fd [("script" : Str)] (spOf ⟨K, fun _ _ _ _ => False, ct, none⟩ (callF T k i)) := by
  have ok : ∀ d ∈ ds, ∃ a fd, FdOk K mg d a fd ∧ ∀ (s : Shared) (us : List Value), us.length = d.ps.length → BindsTo s fd ⟨us, []⟩ (d.ps.zip us) := fun d hd => by
    obtain ⟨f, oc, od, an, osl, kV, doc, pm, cdv, ct, h1, h2, h3, h4⟩ := hl.get d hd
    have F := fun_mk (st := d.st) h2 h3 h4
    exact ⟨f, _, ⟨F, PySem.W.mg_of X N h1, .all fun us e => bd d hd kV doc pm an cdv ct us e⟩, fun s us e => .of_eq (bd d hd kV doc pm an cdv ct us e)⟩
  have hm := List.mem_of_getElem? hi
  obtain ⟨a, fd, o1, o2⟩ := ok d hm
  have ea : a = fa := by
    have := o1.mg
    rw [hfa] at this
    cases this
    rfl
  subst ea
  refine ⟨fd, fun i => cs[i]?, fun s u => ?_, fun b0 _ _ => ?_⟩
  · have := o2 s [u] (by rw [hd]; rfl)
    rw [hd] at this
    exact this
  · have := tab_ok (P := l.prog) (w := w) (base := b0) (ct := fun i => cs[i]?) hT (fun d hd => (ok d hd).imp fun a ⟨fd, o, _⟩ => ⟨fd, o⟩) sc (hz.mg X N) (xOk_of X N hcl hak hco) k i d hi a fd o1
    rw [hd] at this
    exact this
end Pd
set_option Elab.async false
set_option linter.all false
set_option maxRecDepth 100000
set_option autoImplicit false
set_option maxHeartbeats 4000000
/-! How long a repr may be. -/
namespace Pd
open PySem

mutual
def wt : D → Nat
  | .non => 4 | .bl _ => 5 | .int i => i.natAbs.log2 + 2 | .str l => 4 * l.length + 2 | .lst xs => wtL xs + 2 | .tup xs => wtL xs + 3 | .scr _ => 0
def wtL : List D → Nat
  | [] => 0 | x :: xs => wt x + 2 + wtL xs
end
mutual
/-- short numbers, plain signs -/
def okD : D → Bool
  | .non => true | .bl _ => true | .int i => decide (i.natAbs.log2 < 1920) | .str l => l.all fun c => decide (c < 256) | .lst xs => okL xs | .tup xs => okL xs | .scr _ => false
def okL : List D → Bool
  | [] => true | x :: xs => okD x && okL xs
end
mutual
def dp : D → Nat
  | .lst xs => dpL xs + 1 | .tup xs => dpL xs + 1 | _ => 0
def dpL : List D → Nat
  | [] => 0 | x :: xs => max (dp x) (dpL xs)
end
theorem len_app (a b : Str) : (a ++ b).length = a.length + b.length := strLen_append a b
theorem textFrom_le : ∀ (ts : List Str) (k : Nat) (acc : Str), (textFrom k acc ts).length ≤ acc.length + (ts.map fun t => t.length + 2).sum
  | [], k, acc => by show acc.length ≤ _; omega
  | t :: r, k, acc => by
    have h := textFrom_le r (k + 1) (acc ++ (if k > 0 then ", " else "" : String) ++ t)
    have e : (acc ++ (if k > 0 then ", " else "" : String) ++ t).length ≤ acc.length + 2 + t.length := by
      rw [len_app, len_app]
      split
      · have : ((", " : String) : Str).length = 2 := rfl
        omega
      · have : (("" : String) : Str).length = 0 := rfl
        omega
    rw [List.map_cons, List.sum_cons]
    show (textFrom (k + 1) _ r).length ≤ _
    omega
theorem join_le : ∀ ts : List Str, (Str.join ", " ts).length ≤ (ts.map fun t => t.length + 2).sum
  | [] => Nat.zero_le _
  | [x] => by show x.length ≤ _; rw [List.map_cons, List.sum_cons]; omega
  | x :: y :: r => by
    have h := join_le (y :: r)
    show (x ++ ", " ++ Str.join ", " (y :: r)).length ≤ _
    have e : ((", " : String) : Str).length = 2 := rfl
    rw [len_app, len_app, List.map_cons, List.sum_cons]
    omega
theorem int_le {i : Int} : ((toString i : Str)).length ≤ i.natAbs.log2 + 2 := by
  have h := int_text_length_le (a := i) (k := i.natAbs.log2 + 1) (Nat.succ_pos _) (Nat.lt_succ_self _)
  have e : ((toString i : Str)).length = (toString i : String).length := by
    exact ofString_length _
  rw [e]
  omega
theorem hex_le {c w : Nat} (hw : 0 < w) (h : c < 16 ^ w) : (List.replicate (w - ((Nat.toDigits 16 c).map Char.toNat).length) 48 ++ (Nat.toDigits 16 c).map Char.toNat).length ≤ w := by
  have hd : (Nat.toDigits 16 c).length ≤ w := (Nat.length_toDigits_le_iff (by decide) hw).mpr h
  rw [List.length_append, List.length_replicate, List.length_map]
  omega
theorem char_le {q c : Nat} (h : c < 256) : (Builtin.Str.reprChar q c).length ≤ 4 := by
  unfold Builtin.Str.reprChar
  simp only []
  split
  · exact (by decide : 2 ≤ 4)
  · split
    · exact (by decide : 2 ≤ 4)
    · split
      · exact (by decide : 2 ≤ 4)
      · split
        · exact (by decide : 2 ≤ 4)
        · split
          · exact (by decide : 1 ≤ 4)
          · simp only [h, if_true, List.length_append]
            have := hex_le (c := c) (w := 2) (by decide) h
            simp only [List.length_append] at this
            simp only [List.length_cons, List.length_nil]
            omega
theorem text_le {l : List Nat} (h : (l.all fun c => decide (c < 256)) = true) : (reprText ⟨l.toArray⟩).length ≤ 4 * l.length + 2 := by
  rw [← reprLen_eq]
  have go : ∀ (l : List Nat) (n q : Nat), (l.all fun c => decide (c < 256)) = true → l.foldl (fun n c => n + (Builtin.Str.reprChar q c).length) n ≤ n + 4 * l.length := by
    intro l
    induction l with
    | nil => exact fun n q _ => Nat.le_refl _
    | cons c r ih =>
      intro n q h
      rw [List.all_cons, Bool.and_eq_true] at h
      have h1 := char_le (q := q) (of_decide_eq_true h.1)
      have h2 := ih (n + (Builtin.Str.reprChar q c).length) q h.2
      rw [List.foldl_cons, List.length_cons]
      omega
  have := go l 2 (reprQuote ⟨l.toArray⟩) h
  simp only [List.foldl_toArray]
  omega
mutual
theorem shown_le : ∀ d : D, okD d = true → (PyData.shown d.py).length ≤ wt d
  | .non, _ => by decide
  | .bl b, _ => by cases b <;> decide
  | .int i, _ => int_le
  | .str l, h => text_le h
  | .lst xs, h => by
    have h1 := shownL_le xs h
    have h2 := textFrom_le (PyData.shownAll (D.pyL xs)) 0 "["
    show (textFrom 0 "[" (PyData.shownAll (D.pyL xs)) ++ "]").length ≤ wtL xs + 2
    have e1 : (("]" : String) : Str).length = 1 := rfl
    have e2 : (("[" : String) : Str).length = 1 := rfl
    rw [len_app]
    omega
  | .tup xs, h => by
    have h1 := shownL_le xs h
    have h2 := join_le (PyData.shownAll (D.pyL xs))
    show (tupleText (PyData.shownAll (D.pyL xs))).length ≤ wtL xs + 3
    unfold tupleText
    have e1 : (("(" : String) : Str).length = 1 := rfl
    have e2 : (((if (PyData.shownAll (D.pyL xs)).length == 1 then ",)" else ")" : String)) : Str).length ≤ 2 := by split <;> decide
    rw [len_app, len_app]
    omega
  | .scr _, h => by cases h
theorem shownL_le : ∀ xs : List D, okL xs = true → ((PyData.shownAll (D.pyL xs)).map fun t => t.length + 2).sum ≤ wtL xs
  | [], _ => Nat.le_refl _
  | x :: xs, h => by
    simp only [okL, Bool.and_eq_true] at h
    have h1 := shown_le x h.1
    have h2 := shownL_le xs h.2
    show ((PyData.shown x.py).length + 2) + ((PyData.shownAll (D.pyL xs)).map fun t => t.length + 2).sum ≤ wt x + 2 + wtL xs
    omega
end
mutual
theorem showable_of : ∀ d : D, okD d = true → PyData.showable d.py = true
  | .non, _ => rfl
  | .bl _, _ => rfl
  | .int i, h => h
  | .str _, _ => rfl
  | .lst xs, h => showableL_of xs h
  | .tup xs, h => showableL_of xs h
  | .scr _, h => by cases h
theorem showableL_of : ∀ xs : List D, okL xs = true → PyData.showableAll (D.pyL xs) = true
  | [], _ => rfl
  | x :: xs, h => by
    simp only [okL, Bool.and_eq_true] at h
    show (PyData.showable x.py && PyData.showableAll (D.pyL xs)) = true
    rw [showable_of x h.1, showableL_of xs h.2]
    rfl
end
mutual
theorem depth_of : ∀ d : D, okD d = true → PyData.depth d.py = dp d
  | .non, _ => rfl
  | .bl _, _ => rfl
  | .int _, _ => rfl
  | .str _, _ => rfl
  | .lst xs, h => by show PyData.depthAll (D.pyL xs) + 1 = _; rw [depthL_of xs h]; rfl
  | .tup xs, h => by show PyData.depthAll (D.pyL xs) + 1 = _; rw [depthL_of xs h]; rfl
  | .scr _, h => by cases h
theorem depthL_of : ∀ xs : List D, okL xs = true → PyData.depthAll (D.pyL xs) = dpL xs
  | [], _ => rfl
  | x :: xs, h => by
    simp only [okL, Bool.and_eq_true] at h
    show max (PyData.depth x.py) (PyData.depthAll (D.pyL xs)) = _
    rw [depth_of x h.1, depthL_of xs h.2]
    rfl
end
/-- repr -/
theorem reprD_ok {r : Rv} (h : okD r.d = true) (hd : dp r.d ≤ 40) (hw : wt r.d ≤ lim) : doRepr r = .ok (.v (.str (reprT r.d))) := by
  unfold doRepr
  rw [if_pos]
  rw [showable_of _ h, depth_of _ h, decide_eq_true hd, decide_eq_true (Nat.le_trans (shown_le _ h) hw)]
  rfl
end Pd
set_option Elab.async false
set_option linter.all false
set_option maxRecDepth 100000
set_option autoImplicit false
set_option maxHeartbeats 4000000
/-! Laws about data: how callF is reckoned. -/
namespace Pd
open PySem L2

theorem callF_go {T : List Fn} {k i : Nat} {fn : Fn} {xs : List D} (h : T[i]? = some fn) (hl : xs.length = fn.np) : callF T (k + 1) i xs = fin (evB (callF T k) fn.body (entry fn xs)) := by
  rw [callF, h]
  exact if_pos hl
def iL (l : List Int) : List D := l.map D.int
@[simp] theorem iL_len (l : List Int) : (iL l).length = l.length := List.length_map _
theorem iL_get {l : List Int} {i : Nat} {x : Int} (h : l[i]? = some x) : (iL l)[i]? = some (.int x) := by rw [iL, List.getElem?_map, h]; rfl
theorem iL_app (l k : List Int) : iL l ++ iL k = iL (l ++ k) := List.map_append.symm
@[simp] theorem iL_add (l : List Int) (x : Int) : iL l ++ [.int x] = iL (l ++ [x]) := by
  unfold iL
  rw [List.map_append]
  rfl
@[simp] theorem iL_nil : iL [] = [] := rfl
def osl : Option D → Sl
  | none => .un
  | some d => .v d
section
variable {α β : Type} (a : α) (f : α → Out β) (env : Env) (g : α → Option Fl) (e : Env) (h : Env → Option Fl)
@[simp] theorem bind_okD : (Out.ok a).bind f = f a := rfl
@[simp] theorem st_ok : (Out.ok a).st env g = g a := rfl
@[simp] theorem noX_okD : (Out.ok a).noX = .ok a := rfl
@[simp] theorem seq_nx : seqF (some (.nx e)) h = h e := rfl
@[simp] theorem seq_rt (r : Rv) : seqF (some (.rt r)) h = some (.rt r) := rfl
@[simp] theorem seq_bk : seqF (some (.bk e)) h = some (.bk e) := rfl
@[simp] theorem seq_ct : seqF (some (.ct e)) h = some (.ct e) := rfl
@[simp] theorem fin_v (d : D) : fin (some (.rt (.v d))) = .ok (.v d) := rfl
@[simp] theorem fin_own (d : List D) : fin (some (.rt (.own d))) = .ok (.own d) := rfl
@[simp] theorem fin_nx : fin (some (.nx e)) = .ok (.v .non) := rfl
end
section
variable (env : Env) (s : Sl) (n : Nat) (d : D) (xs : List D) (o : Option D)
@[simp] theorem look_s : look (s :: env) (n + 1) = look env n := rfl
@[simp] theorem look_v : look (.v d :: env) 0 = .ok (.v d) := rfl
@[simp] theorem look_o : look (.own xs :: env) 0 = .ok (.bor xs) := rfl
@[simp] theorem look_l : look (.lk xs :: env) 0 = .ok (.bor xs) := rfl
@[simp] theorem osl_some : osl (some d) = .v d := rfl
@[simp] theorem look_os : look (osl (some d) :: env) 0 = .ok (.v d) := rfl
@[simp] theorem stOk_s : stOk (s :: env) (n + 1) = stOk env n := rfl
@[simp] theorem stOk_v : stOk (.v d :: env) 0 = true := rfl
@[simp] theorem stOk_o : stOk (.own xs :: env) 0 = true := rfl
@[simp] theorem stOk_u : stOk (.un :: env) 0 = true := rfl
@[simp] theorem stOk_os : stOk (osl o :: env) 0 = true := by cases o <;> rfl
@[simp] theorem stOk_nil : stOk [] n = true := by cases n <;> rfl
@[simp] theorem setO_v (i : Nat) : setO env i (.v d) = if stOk env i then some (.nx (env.set i (.v d))) else none := rfl
@[simp] theorem setO_o (i : Nat) : setO env i (.own xs) = if stOk env i then some (.nx (env.set i (.own xs))) else none := rfl
@[simp] theorem fz_v : (Rv.v d).fz = .ok d := rfl
@[simp] theorem fz_o : (Rv.own xs).fz = .ok (.lst xs) := rfl
@[simp] theorem lv_v : (Rv.v (.lst xs)).lv = some xs := rfl
@[simp] theorem lv_o : (Rv.own xs).lv = some xs := rfl
@[simp] theorem lv_b : (Rv.bor xs).lv = some xs := rfl
@[simp] theorem sq_t : (Rv.v (.tup xs)).sq = some xs := rfl
@[simp] theorem sq_v : (Rv.v (.lst xs)).sq = some xs := rfl
@[simp] theorem sq_o : (Rv.own xs).sq = some xs := rfl
@[simp] theorem sq_b : (Rv.bor xs).sq = some xs := rfl
@[simp] theorem sq_s (ns : List Int) : (Rv.v (.scr ns)).sq = some (iL ns) := rfl
@[simp] theorem its_t : (Rv.v (.tup xs)).its = some xs := rfl
@[simp] theorem its_v : (Rv.v (.lst xs)).its = some xs := rfl
@[simp] theorem its_o : (Rv.own xs).its = some xs := rfl
@[simp] theorem its_b : (Rv.bor xs).its = some xs := rfl
@[simp] theorem its_s (ns : List Int) : (Rv.v (.scr ns)).its = some (iL ns) := rfl
@[simp] theorem its_str (l : List Nat) : (Rv.v (.str l)).its = some (l.map fun c => .str [c]) := rfl
@[simp] theorem ofO_some {α : Type} (a : α) : Out.ofO (some a) = .ok a := rfl
@[simp] theorem frzL_nil : frzL [] env = env := rfl
@[simp] theorem frzL_cons (i : Nat) (is : List Nat) : frzL (i :: is) env = frzL is (frz1 i env) := rfl
@[simp] theorem frz1_s : frz1 (n + 1) (s :: env) = s :: frz1 n env := by
  unfold frz1
  rw [List.getElem?_cons_succ]
  cases env[n]? with
  | none => rfl
  | some a => cases a <;> rfl
@[simp] theorem frz1_v : frz1 0 (.v d :: env) = .v d :: env := rfl
@[simp] theorem frz1_u : frz1 0 (.un :: env) = .un :: env := rfl
@[simp] theorem frz1_o : frz1 0 (.own xs :: env) = .v (.lst xs) :: env := rfl
@[simp] theorem frz1_os : frz1 0 (osl o :: env) = osl o :: env := by cases o <;> rfl
@[simp] theorem frz1_nil : frz1 n [] = [] := rfl
end
section
variable (cf : Nat → List D → Out Rv) (env : Env)
@[simp] theorem evB_nil : evB cf [] env = some (.nx env) := by simp only [evB]
@[simp] theorem evB_cons (s : S) (r : List S) : evB cf (s :: r) env = seqF (evS cf s env) (evB cf r) := by simp only [evB]
@[simp] theorem evS_frz (is : List Nat) (s : S) : evS cf (.frz is s) env = evS cf s (frzL is env) := by simp only [evS]
@[simp] theorem evS_asg (i : Nat) (e : E) : evS cf (.asg (.nm i) e) env = (evE cf e env).st env fun r => setO env i r := by simp only [evS]
@[simp] theorem evS_app (i : Nat) (e : E) : evS cf (.app i e) env = match env[i]? with
    | some (.own xs) => ((evE cf e env).bind Rv.fz).st env fun d => if xs.length < lim then some (.nx (env.set i (.own (xs ++ [d])))) else none
    | _ => none := by simp only [evS]; try rfl
@[simp] theorem evS_retv (i : Nat) : evS cf (.ret (.var i)) env = match env[i]? with
    | some (.own xs) => some (.rt (.own xs))
    | some (.v d) => some (.rt (.v d))
    | _ => none := by simp only [evS]; try rfl
theorem evS_rete {e : E} (h : ∀ i, e ≠ .var i) : evS cf (.ret e) env = retM cf e env := evS_ret h env
@[simp] theorem evS_ifs (c : E) (a b : List S) : evS cf (.ifs c a b) env = (evT cf c env).st env fun k => if k then evB cf a env else evB cf b env := by simp only [evS]
@[simp] theorem evS_skip : evS cf .skip env = some (.nx env) := by simp only [evS]
@[simp] theorem evS_brk : evS cf .brk env = some (.bk env) := by simp only [evS]
@[simp] theorem evS_cnt : evS cf .cnt env = some (.ct env) := by simp only [evS]
@[simp] theorem evS_pop (i : Nat) : evS cf (.pop i) env = match env[i]? with
    | some (.own xs) => if xs.isEmpty then none else some (.nx (env.set i (.own xs.dropLast)))
    | _ => none := by simp only [evS]; try rfl
theorem retM_v {e : E} {d : D} (h : evE cf e env = .ok (.v d)) : retM cf e env = some (.rt (.v d)) := by unfold retM; rw [h]; rfl
theorem retM_o {e : E} {d : List D} (h : evE cf e env = .ok (.own d)) : retM cf e env = some (.rt (.own d)) := by unfold retM; rw [h]; rfl
/-- return e -/
theorem ret_v {e : E} {d : D} (hn : ∀ i, e ≠ .var i) (h : evE cf e env = .ok (.v d)) : evS cf (.ret e) env = some (.rt (.v d)) := by rw [evS_rete cf env hn]; exact retM_v cf env h
theorem ret_o {e : E} {d : List D} (hn : ∀ i, e ≠ .var i) (h : evE cf e env = .ok (.own d)) : evS cf (.ret e) env = some (.rt (.own d)) := by rw [evS_rete cf env hn]; exact retM_o cf env h
@[simp] theorem evE_var (i : Nat) : evE cf (.var i) env = look env i := by simp only [evE]
@[simp] theorem evE_c (d : D) : evE cf (.c d) env = .ok (.v d) := by simp only [evE]
@[simp] theorem evE_bin (o : BOp) (a b : E) : evE cf (.bin o a b) env = (evE cf a env).bind fun x => (evE cf b env).bind fun y => bop o x y := by simp only [evE]
@[simp] theorem evE_neg (a : E) : evE cf (.neg a) env = (evE cf a env).bind dNeg := by simp only [evE]
@[simp] theorem evE_nt (a : E) : evE cf (.nt a) env = (evE cf a env).bind fun x => (tru x).bind fun b => dBl (!b) := by simp only [evE]
@[simp] theorem evE_and (a b : E) : evE cf (.and a b) env = (evE cf a env).bind fun x => (asB x).bind fun c => if c then evE cf b env else dBl false := by simp only [evE]
@[simp] theorem evE_or (a b : E) : evE cf (.or a b) env = (evE cf a env).bind fun x => (asB x).bind fun c => if c then dBl true else evE cf b env := by simp only [evE]
@[simp] theorem evE_cmp (o : COp) (a b : E) : evE cf (.cmp o a b) env = (evE cf a env).bind fun x => (evE cf b env).bind fun y => cop o x y := by simp only [evE]
@[simp] theorem evE_ife (c a b : E) : evE cf (.ife c a b) env = (evT cf c env).bind fun k => if k then evE cf a env else evE cf b env := by simp only [evE]
@[simp] theorem evE_call (f : Nat) (es : List E) : evE cf (.call f es) env = (evA cf es env).bind fun ds => cf f ds := by simp only [evE]
@[simp] theorem evE_blt (f : Blt) (es : List E) : evE cf (.blt f es) env = (evL cf es env).bind fun rs => doBlt f rs := by simp only [evE]
@[simp] theorem evE_mth (m : Mth) (o : E) (es : List E) : evE cf (.mth m o es) env = (evE cf o env).bind fun x => (asS x).bind fun x => (evL cf es env).bind fun rs => doMth m x rs := by simp only [evE]
@[simp] theorem evE_idx (a i : E) : evE cf (.idx a i) env = (evE cf a env).bind fun x => (evE cf i env).bind fun y => getI x y := by simp only [evE]
@[simp] theorem evE_slc (a lo hi : E) : evE cf (.slc a lo hi) env = (evE cf a env).bind fun x => (partE lo (evE cf lo env)).bind fun l => (partE hi (evE cf hi env)).bind fun u => getS x l u := by simp only [evE]
@[simp] theorem evE_rev (a : E) : evE cf (.rev a) env = (evE cf a env).bind getR := by simp only [evE]
@[simp] theorem evE_lst (es : List E) : evE cf (.lst es) env = (evA cf es env).bind fun ds => if ds.length ≤ lim then .ok (.own ds) else .stk := by simp only [evE]
@[simp] theorem evE_tup (es : List E) : evE cf (.tup es) env = (evA cf es env).bind fun ds => if ds.length ≤ lim then .ok (.v (.tup ds)) else .stk := by simp only [evE]
@[simp] theorem evT_and (a b : E) : evT cf (.and a b) env = (evT cf a env).bind fun k => if k then evT cf b env else .ok false := by simp only [evT]
@[simp] theorem evT_or (a b : E) : evT cf (.or a b) env = (evT cf a env).bind fun k => if k then .ok true else evT cf b env := by simp only [evT]
@[simp] theorem evT_nt (a : E) : evT cf (.nt a) env = (evT cf a env).bind fun k => .ok (!k) := by simp only [evT]
@[simp] theorem evT_var (i : Nat) : evT cf (.var i) env = (look env i).bind tru := by simp only [evT]
@[simp] theorem evT_cmp (o : COp) (a b : E) : evT cf (.cmp o a b) env = (evE cf a env).bind fun x => (evE cf b env).bind fun y => (cop o x y).bind asB := by simp only [evT]
@[simp] theorem evT_call (f : Nat) (es : List E) : evT cf (.call f es) env = (evA cf es env).bind fun ds => (cf f ds).bind tru := by simp only [evT]
@[simp] theorem evT_blt (f : Blt) (es : List E) : evT cf (.blt f es) env = (evL cf es env).bind fun rs => (doBlt f rs).bind tru := by simp only [evT]
@[simp] theorem evL_nil : evL cf [] env = .ok [] := by simp only [evL]
@[simp] theorem evL_cons (e : E) (es : List E) : evL cf (e :: es) env = (evE cf e env).bind fun x => (evL cf es env).bind fun xs => .ok (x :: xs) := by simp only [evL]
@[simp] theorem evA_nil : evA cf [] env = .ok [] := by simp only [evA]
@[simp] theorem evA_cons (e : E) (es : List E) : evA cf (e :: es) env = ((evE cf e env).bind Rv.fz).bind fun x => (evA cf es env).bind fun xs => .ok (x :: xs) := by simp only [evA]
@[simp] theorem evI_seq (e : E) : evI cf (.seq e) env = (srcOf e (evE cf e env)).bind fun x => .ofO x.its := by simp only [evI]
@[simp] theorem evI_rng (es : List E) : evI cf (.rng es) env = (evL cf es env).bind doRng := by simp only [evI]
@[simp] theorem evI_zip (a b : E) : evI cf (.zip a b) env = (srcOf a (evE cf a env)).bind fun x => (srcOf b (evE cf b env)).bind fun y => zipR x y := by simp only [evI]
@[simp] theorem evI_enm (a : E) : evI cf (.enm a) env = (srcOf a (evE cf a env)).bind fun x => .ofO (x.lv.map (enmL 0)) := by simp only [evI]
@[simp] theorem evI_rvs (a : E) : evI cf (.rvs a) env = (srcOf a (evE cf a env)).bind fun x => .ofO (x.lv.map List.reverse) := by simp only [evI]
end
@[simp] theorem src_v (e : E) (d : D) : srcOf e (.ok (.v d)) = .ok (.v d) := rfl
@[simp] theorem src_o (e : E) (d : List D) : srcOf e (.ok (.own d)) = .ok (.own d) := rfl
@[simp] theorem src_b (i : Nat) (d : List D) : srcOf (.var i) (.ok (.bor d)) = .ok (.bor d) := rfl
theorem zipR_of {x y : Rv} {xs ys : List D} (h1 : x.sq = some xs) (h2 : y.sq = some ys) : zipR x y = .ok (zipL xs ys) := by
  unfold zipR
  rw [h1, h2]
@[simp] theorem asB_bl (b : Bool) : asB (.v (.bl b)) = .ok b := rfl
@[simp] theorem asS_str (l : List Nat) : asS (.v (.str l)) = .ok (.v (.str l)) := rfl
@[simp] theorem dBl_ok (b : Bool) : dBl b = .ok (.v (.bl b)) := rfl
@[simp] theorem dInt_ok (b : Int) : dInt b = .ok (.v (.int b)) := rfl
@[simp] theorem bop_add : bop .add = bAdd := rfl
@[simp] theorem bop_sub : bop .sub = bSub := rfl
@[simp] theorem bop_mul : bop .mul = bMul := rfl
@[simp] theorem bop_fdiv : bop .fdiv = bDiv := rfl
@[simp] theorem bop_mod : bop .mod = bMod := rfl
@[simp] theorem bop_pow : bop .pow = bPow := rfl
@[simp] theorem cop_eq : cop .eq = cEq false := rfl
@[simp] theorem cop_ne : cop .ne = cEq true := rfl
@[simp] theorem cop_lt : cop .lt = cLt := rfl
@[simp] theorem cop_le : cop .le = cLe := rfl
@[simp] theorem cop_gt (x y : Rv) : cop .gt x y = cLt y x := rfl
@[simp] theorem cop_ge (x y : Rv) : cop .ge x y = cLe y x := rfl
@[simp] theorem cEq_ii (b : Bool) (i j : Int) : cEq b (.v (.int i)) (.v (.int j)) = .ok (.v (.bl (if b then !decide (i = j) else decide (i = j)))) := rfl
@[simp] theorem cEq_ss (b : Bool) (i j : List Nat) : cEq b (.v (.str i)) (.v (.str j)) = .ok (.v (.bl (if b then !decide (i = j) else decide (i = j)))) := rfl
@[simp] theorem cLt_ii (i j : Int) : cLt (.v (.int i)) (.v (.int j)) = .ok (.v (.bl (decide (i < j)))) := rfl
@[simp] theorem cLe_ii (i j : Int) : cLe (.v (.int i)) (.v (.int j)) = .ok (.v (.bl (decide (i ≤ j)))) := rfl
@[simp] theorem blt_len : doBlt .len = bLen := rfl
@[simp] theorem blt_int : doBlt .int = bInt := rfl
@[simp] theorem blt_tuple : doBlt .tuple = bTuple := rfl
@[simp] theorem blt_list : doBlt .list = bList := rfl
@[simp] theorem blt_repr : doBlt .repr = bRepr := rfl
@[simp] theorem blt_sum : doBlt .sum = bSum := rfl
@[simp] theorem bInt_i (i : Int) : bInt [.v (.int i)] = .ok (.v (.int i)) := rfl
@[simp] theorem bInt_b (b : Bool) : bInt [.v (.bl b)] = .ok (.v (.int (if b then 1 else 0))) := rfl
theorem bLen_of {r : Rv} {xs : List D} (h : r.sq = some xs) : bLen [r] = .ok (.v (.int xs.length)) := by
  cases r with
  | own ys => cases h; rfl
  | bor ys => cases h; rfl
  | v d => cases d <;> first | (cases h; done) | (cases h; rfl)
@[simp] theorem bLen_t (xs : List D) : bLen [.v (.tup xs)] = .ok (.v (.int xs.length)) := rfl
@[simp] theorem bLen_l (xs : List D) : bLen [.v (.lst xs)] = .ok (.v (.int xs.length)) := rfl
@[simp] theorem bLen_o (xs : List D) : bLen [.own xs] = .ok (.v (.int xs.length)) := rfl
@[simp] theorem bLen_b (xs : List D) : bLen [.bor xs] = .ok (.v (.int xs.length)) := rfl
@[simp] theorem bLen_s (ns : List Int) : bLen [.v (.scr ns)] = .ok (.v (.int ns.length)) := by
  show dInt ((ns.map D.int).length : Int) = _
  rw [List.length_map]
  rfl
@[simp] theorem bTuple_t (xs : List D) : bTuple [.v (.tup xs)] = .ok (.v (.tup xs)) := rfl
@[simp] theorem bTuple_l (xs : List D) : bTuple [.v (.lst xs)] = .ok (.v (.tup xs)) := rfl
@[simp] theorem bTuple_o (xs : List D) : bTuple [.own xs] = .ok (.v (.tup xs)) := rfl
@[simp] theorem bTuple_b (xs : List D) : bTuple [.bor xs] = .ok (.v (.tup xs)) := rfl
@[simp] theorem bRepr_1 (r : Rv) : bRepr [r] = doRepr r := rfl
@[simp] theorem bAdd_ii (i j : Int) : bAdd (.v (.int i)) (.v (.int j)) = .ok (.v (.int (i + j))) := rfl
@[simp] theorem bSub_ii (i j : Int) : bSub (.v (.int i)) (.v (.int j)) = .ok (.v (.int (i - j))) := rfl
@[simp] theorem dNeg_i (i : Int) : dNeg (.v (.int i)) = .ok (.v (.int (-i))) := rfl
theorem small_lt {i : Int} (h : i.natAbs < 2 ^ 64) : small i = true := by
  unfold small
  rw [Bool.and_eq_true, decide_eq_true_eq, decide_eq_true_eq]
  omega
theorem bMul_r {i j : Int} (h : j.natAbs < 2 ^ 64) : bMul (.v (.int i)) (.v (.int j)) = .ok (.v (.int (i * j))) := by
  show (if small i || small j || _ then _ else _) = _
  rw [if_pos (by rw [small_lt h]; simp)]
  rfl
theorem bMul_l {i j : Int} (h : i.natAbs < 2 ^ 64) : bMul (.v (.int i)) (.v (.int j)) = .ok (.v (.int (i * j))) := by
  show (if small i || small j || _ then _ else _) = _
  rw [if_pos (by rw [small_lt h]; simp)]
  rfl
theorem bMod_of {i j : Int} (h : 0 < j) : bMod (.v (.int i)) (.v (.int j)) = .ok (.v (.int (i % j))) := by
  show (if 0 < j then _ else _) = _
  rw [if_pos h]
  rfl
theorem bDiv_of {i j : Int} (h : 0 < j) (h2 : j.natAbs < 2 ^ 64) : bDiv (.v (.int i)) (.v (.int j)) = .ok (.v (.int (i / j))) := by
  have h3 : j.natAbs.log2 < 9000 := Nat.lt_trans ((Nat.log2_lt (by omega)).mpr h2) (by decide)
  show (if decide (0 < j) && decide (j.natAbs.log2 < 9000) then _ else _) = _
  rw [if_pos (by rw [decide_eq_true h, decide_eq_true h3]; rfl)]
  rfl
theorem bPow_of {i j : Int} (h0 : 0 ≤ j) (h1 : j ≤ 1000) (h2 : i.natAbs < 2 ^ 64) : bPow (.v (.int i)) (.v (.int j)) = .ok (.v (.int (i ^ j.toNat))) := by
  show (if decide (0 ≤ j) && decide (j ≤ 1000) && decide (i.natAbs < 2 ^ 64) then _ else _) = _
  rw [if_pos (by rw [decide_eq_true h0, decide_eq_true h1, decide_eq_true h2]; rfl)]
  rfl
theorem atI_ok {α : Type} {xs : List α} {j : Nat} (h : j < xs.length) : atI xs (j : Int) = some xs[j] := atI_nat (by simp [h])
theorem getI_l {xs : List D} {j : Nat} {d : D} (h : xs[j]? = some d) : getI (.v (.lst xs)) (.v (.int (j : Int))) = .ok (.v d) := by
  show (match atI xs (j : Int) with | some d => Out.ok (Rv.v d) | none => .stk) = _
  rw [atI_nat h]
theorem getI_o {xs : List D} {j : Nat} {d : D} (h : xs[j]? = some d) : getI (.own xs) (.v (.int (j : Int))) = .ok (.v d) := by
  show (match atI xs (j : Int) with | some d => Out.ok (Rv.v d) | none => .stk) = _
  rw [atI_nat h]
theorem getI_b {xs : List D} {j : Nat} {d : D} (h : xs[j]? = some d) : getI (.bor xs) (.v (.int (j : Int))) = .ok (.v d) := by
  show (match atI xs (j : Int) with | some d => Out.ok (Rv.v d) | none => .stk) = _
  rw [atI_nat h]
theorem getI_t {xs : List D} {j : Nat} {d : D} (h : xs[j]? = some d) : getI (.v (.tup xs)) (.v (.int (j : Int))) = .ok (.v d) := by
  show (match atI xs (j : Int) with | some d => Out.ok (Rv.v d) | none => .stk) = _
  rw [atI_nat h]

/-! ### one statement after another -/
theorem evB_step {cf : Nat → List D → Out Rv} {s : S} {r : List S} {env env' : Env} (h : evS cf s env = some (.nx env')) : evB cf (s :: r) env = evB cf r env' := by
  rw [evB_cons, h, seq_nx]
theorem evB_stop {cf : Nat → List D → Out Rv} {s : S} {r : List S} {env : Env} {x : Rv} (h : evS cf s env = some (.rt x)) : evB cf (s :: r) env = some (.rt x) := by
  rw [evB_cons, h, seq_rt]
theorem fin_step {cf : Nat → List D → Out Rv} {s : S} {r : List S} {env : Env} {o : Out Rv} (env' : Env) (h : evS cf s env = some (.nx env')) (k : fin (evB cf r env') = o) : fin (evB cf (s :: r) env) = o := by
  rw [evB_step h]
  exact k

/-! ### comprehensions, loops -/
theorem cmpL_of {α : Type} {f : D → Out (Option D)} {e : α → D} {g : α → D} {p : α → Bool} : ∀ {l : List α}, (∀ a ∈ l, f (e a) = .ok (if p a then some (g a) else none)) → cmpL f (l.map e) = .ok ((l.filter p).map g)
  | [], _ => rfl
  | a :: l, h => by
    rw [List.map_cons, cmpL, h a List.mem_cons_self, bind_okD, cmpL_of fun d hd => h d (List.mem_cons_of_mem _ hd)]
    by_cases hp : p a = true
    · rw [if_pos hp, List.filter_cons_of_pos hp]
      rfl
    · rw [if_neg hp, List.filter_cons_of_neg hp]
      rfl
section
variable {cf : Nat → List D → Out Rv} {env : Env} {α : Type}
/-- a comprehension -/
theorem comp_of {e : E} {t : Tg} {it : It} {ifs : List E} {ws : List Nat} {l : List α} {s : α → D} {g : α → D} {p : α → Bool} (env1 : α → Env) (hi : evI cf it env = .ok (l.map s)) (hl : l.length ≤ lim)
    (ht : ∀ a ∈ l, tgt t (s a) (wip env ws) = some (env1 a)) (hc : ∀ a ∈ l, evC cf ifs (env1 a) = .ok (p a)) (he : ∀ a ∈ l, p a = true → (evE cf e (env1 a)).bind Rv.fz = .ok (g a)) :
    evE cf (.cmpr e t it ifs ws) env = .ok (.own ((l.filter p).map g)) := by
  simp only [evE]
  rw [hi, bind_okD, if_pos (by rw [List.length_map]; exact hl)]
  rw [cmpL_of (g := g) (p := p) fun a ha => ?_]
  · rfl
  · rw [ht a ha]
    show (Out.noX (evC cf ifs (env1 a))).bind _ = _
    rw [hc a ha, noX_okD, bind_okD]
    by_cases hp : p a = true
    · rw [if_pos hp, if_pos hp, he a ha hp]
      rfl
    · rw [if_neg hp, if_neg hp]
/-- .. without a condition -/
theorem comp_all {e : E} {t : Tg} {it : It} {ws : List Nat} {l : List α} {s : α → D} {g : α → D} (env1 : α → Env) (hi : evI cf it env = .ok (l.map s)) (hl : l.length ≤ lim)
    (ht : ∀ a ∈ l, tgt t (s a) (wip env ws) = some (env1 a)) (he : ∀ a ∈ l, (evE cf e (env1 a)).bind Rv.fz = .ok (g a)) :
    evE cf (.cmpr e t it [] ws) env = .ok (.own (l.map g)) := by
  have h := comp_of (p := fun _ => true) (ifs := []) (g := g) env1 hi hl ht (fun a _ => by simp only [evC]) fun a ha _ => he a ha
  rw [List.filter_eq_self.mpr fun _ _ => rfl] at h
  exact h
def frB (cf : Nat → List D → Out Rv) (t : Tg) (b : List S) : D → Env → Option Fl := fun d e => (tgS t d e).bind fun e1 => evB cf b e1
/-- a for over what no name owns -/
theorem fr_free {t : Tg} {it : It} {b : List S} {ds : List D} (hv : ∀ i ∈ it.vars, ∀ xs, env[i]? ≠ some (.own xs)) (h : evI cf it env = .ok ds) : evS cf (.fr t it b) env = forL (frB cf t b) ds env := by
  have go : ∀ (is : List Nat) (run : Env → Option Fl), (∀ i ∈ is, ∀ xs, env[i]? ≠ some (.own xs)) → lockF run is env = run env := fun is run => by
    induction is with
    | nil => exact fun _ => rfl
    | cons i is ih =>
      intro hi
      unfold lockF
      split
      · rename_i xs e
        exact absurd e (hi i List.mem_cons_self xs)
      · exact ih fun j hj => hi j (List.mem_cons_of_mem _ hj)
  simp only [evS]
  rw [go it.vars _ hv, h]
  rfl
/-- a for over a name's own list -/
theorem fr_own {t : Tg} {i : Nat} {b : List S} {xs : List D} (h : env[i]? = some (.own xs)) : evS cf (.fr t (.seq (.var i)) b) env = unl i xs (forL (frB cf t b) xs (env.set i (.lk xs))) := by
  have hi : i < env.length := (List.getElem?_eq_some_iff.mp h).1
  simp only [evS]
  show lockF _ [i] env = _
  unfold lockF
  rw [h]
  show unl i xs (lockF _ [] (env.set i (.lk xs))) = _
  unfold lockF
  simp only [evI_seq, evE_var]
  have e : look (env.set i (.lk xs)) i = .ok (.bor xs) := by
    unfold look
    rw [List.getElem?_set_self hi]
  rw [e, src_b, bind_okD, its_b]
  rfl
/-- a loop that goes on to its end: the environment by a state -/
theorem forL_of {St : Type} {f : D → Env → Option Fl} {e : α → D} (en : St → Env) (step : St → α → St) (I : St → Prop) : ∀ (l : List α) (s : St), I s → (∀ s a, a ∈ l → I s → f (e a) (en s) = some (.nx (en (step s a))) ∧ I (step s a)) →
    forL f (l.map e) (en s) = some (.nx (en (l.foldl step s))) ∧ I (l.foldl step s)
  | [], s, hs, _ => ⟨rfl, hs⟩
  | a :: l, s, hs, h => by
    obtain ⟨h1, h2⟩ := h s a List.mem_cons_self hs
    rw [List.map_cons, forL, h1]
    exact forL_of en step I l (step s a) h2 fun s b hb => h s b (List.mem_cons_of_mem _ hb)
/-- .. with the turn told -/
theorem forL_ix {St : Type} {f : D → Env → Option Fl} {e : α → D} (en : St → Env) (step : St → α → St) (I : Nat → St → Prop) : ∀ (l : List α) (j : Nat) (s : St), I j s → (∀ i s a, l[i]? = some a → I (j + i) s → f (e a) (en s) = some (.nx (en (step s a))) ∧ I (j + i + 1) (step s a)) →
    forL f (l.map e) (en s) = some (.nx (en (l.foldl step s))) ∧ I (j + l.length) (l.foldl step s)
  | [], j, s, hs, _ => ⟨rfl, hs⟩
  | a :: l, j, s, hs, h => by
    obtain ⟨h1, h2⟩ := h 0 s a rfl hs
    rw [List.map_cons, forL, h1]
    have := forL_ix en step I l (j + 1) (step s a) h2 fun i s b hb hI => by
      have := h (i + 1) s b hb (by rw [show j + (i + 1) = j + 1 + i by omega]; exact hI)
      rw [show j + (i + 1) = j + 1 + i by omega] at this
      exact this
    rw [show j + 1 + l.length = j + (a :: l).length by rw [List.length_cons]; omega] at this
    exact this
end
theorem rngL_eq : ∀ (n : Nat) (lo : Int), rngL lo n = (List.range n).map fun (i : Nat) => D.int (lo + (i : Int))
  | 0, _ => rfl
  | n + 1, lo => by
    rw [List.range_succ_eq_map, List.map_cons, List.map_map]
    show D.int lo :: rngL (lo + 1) n = _
    rw [rngL_eq n (lo + 1)]
    congr 1
    · rw [show lo + ((0 : Nat) : Int) = lo by omega]
    · exact List.map_congr_left fun i _ => by
        show D.int _ = D.int _
        rw [show lo + 1 + (i : Int) = lo + ((i + 1 : Nat) : Int) by omega]
theorem rng0 (n : Nat) : rngL 0 n = (List.range n).map fun (i : Nat) => D.int (i : Int) := by
  rw [rngL_eq]
  exact List.map_congr_left fun i _ => by rw [Int.zero_add]
theorem doRng_1 {n : Nat} (h : n ≤ lim) : doRng [.v (.int (n : Int))] = .ok ((List.range n).map fun (i : Nat) => D.int (i : Int)) := by
  show (if decide ((n : Int) ≤ (lim : Nat)) && decide (-(2 ^ 62) ≤ (n : Int)) then _ else _) = _
  rw [if_pos, Int.toNat_natCast, rng0]
  rw [Bool.and_eq_true, decide_eq_true_eq, decide_eq_true_eq]
  omega
end Pd
set_option Elab.async false
set_option linter.all false
set_option maxRecDepth 100000
set_option autoImplicit false
set_option maxHeartbeats 4000000
/-! The two drawing functions that every law has. -/
namespace Pd
open PySem L2

def cellB : List S := [(.asg (.nm 2) (.bin .mod (.blt .int [(.bin .add (.bin .mul (.var 2) (.c (.int 31))) (.bin .mod (.blt .int [(.var 3)]) (.c (.int 1000003))))]) (.c (.int 1000003))))]
def cellF : Fn := ⟨4, 2, [(.ifs (.cmp .lt (.var 1) (.blt .len [(.var 0)]))
    [(.ret (.idx (.var 0) (.var 1)))]
    []),
    (.asg (.nm 2) (.c (.int 17))),
    (.fr (.nm 3) (.seq (.var 0)) cellB),
    (.ret (.bin .mod (.blt .int [(.bin .mul (.bin .mul (.bin .add (.var 2) (.c (.int 7))) (.bin .add (.var 1) (.c (.int 3)))) (.c (.int 69621)))]) (.c (.int 2147483647))))]⟩
theorem cell_ok {T : List Fn} {k i : Nat} (h : T[i]? = some cellF) (ns : List Int) (j : Nat) (hj : j < 2 ^ 60) : ∃ c, callF T (k + 1) i [.scr ns, .int j] = .ok (.v (.int c)) := by
  rw [callF_go h rfl]
  show ∃ c, fin (evB (callF T k) cellF.body [.v (.scr ns), .v (.int j), .un, .un]) = _
  by_cases hl : j < ns.length
  · refine ⟨ns[j], ?_⟩
    have e : getI (.v (.scr ns)) (.v (.int j)) = .ok (.v (.int ns[j])) := by
      show (match atI ns (j : Int) with | some n => dInt n | none => .stk) = _
      rw [atI_ok hl]
      rfl
    have er := ret_v (callF T k) [.v (.scr ns), .v (.int j), .un, .un] (e := .idx (.var 0) (.var 1)) (d := .int ns[j]) (fun _ z => by cases z) (by simp [e])
    simp [cellF, hl, er]
  · let en : Int × Option D → Env := fun s => [.v (.scr ns), .v (.int j), .v (.int s.1), osl s.2]
    have ef := (forL_of (e := D.int) (f := frB (callF T k) (.nm 3) cellB) en (fun s n => ((s.1 * 31 + n % 1000003) % 1000003, some (.int n))) (fun s => 0 ≤ s.1 ∧ s.1 < 1000003) ns (17, none) (by decide) fun s n _ hs => ⟨by
      have e1 := bMul_r (i := s.1) (j := 31) (by decide)
      have e2 := bMod_of (i := n) (j := 1000003) (by decide)
      have e3 := bMod_of (i := s.1 * 31 + n % 1000003) (j := 1000003) (by decide)
      simp [frB, tgS, tgOk, tgt, cellB, en, e1, e2, e3], by
      have := Int.emod_nonneg (s.1 * 31 + n % 1000003) (show (1000003 : Int) ≠ 0 by decide)
      have := Int.emod_lt_of_pos (s.1 * 31 + n % 1000003) (show (0 : Int) < 1000003 by decide)
      exact ⟨by assumption, by assumption⟩⟩)
    obtain ⟨ef, hs1, hs2⟩ := ef
    have e1 := fr_free (cf := callF T k) (env := en (17, none)) (t := .nm 3) (it := .seq (.var 0)) (b := cellB) (ds := ns.map D.int) (by
      intro i hi xs z
      have hi : i = 0 := List.mem_singleton.mp hi
      subst hi
      cases z) (by simp [en]; rfl)
    rw [ef] at e1
    have e1 : evS (callF T k) (.fr (.nm 3) (.seq (.var 0)) cellB) [.v (.scr ns), .v (.int j), .v (.int 17), .un] = _ := e1
    generalize hs : List.foldl (fun (s : Int × Option D) n => ((s.1 * 31 + n % 1000003) % 1000003, some (D.int n))) (17, none) ns = s at e1 hs1 hs2
    have m1 := bMul_r (i := s.1 + 7) (j := (j : Int) + 3) (by omega)
    have m2 := bMul_r (i := (s.1 + 7) * ((j : Int) + 3)) (j := 69621) (by decide)
    have m3 := bMod_of (i := (s.1 + 7) * ((j : Int) + 3) * 69621) (j := 2147483647) (by decide)
    refine ⟨(s.1 + 7) * ((j : Int) + 3) * 69621 % 2147483647, ?_⟩
    have er := ret_v (callF T k) (en s) (e := .bin .mod (.blt .int [(.bin .mul (.bin .mul (.bin .add (.var 2) (.c (.int 7))) (.bin .add (.var 1) (.c (.int 3)))) (.c (.int 69621)))]) (.c (.int 2147483647))) (d := .int ((s.1 + 7) * ((j : Int) + 3) * 69621 % 2147483647)) (fun _ z => by cases z) (by simp [en, m1, m2, m3])
    simp only [cellF, evB_cons, evS_ifs, evT_cmp, evS_asg]
    simp [hl, e1, er]
def digB0 : List S := [(.app 2 (.bin .mod (.blt .int [(.var 3)]) (.var 6))),
    (.asg (.nm 3) (.bin .fdiv (.blt .int [(.var 3)]) (.var 6)))]
def digB1 : List S := [(.asg (.nm 4) (.bin .mod (.blt .int [(.bin .add (.bin .add (.bin .mul (.var 4) (.c (.int 48271))) (.bin .mul (.c (.int 974711)) (.var 5))) (.c (.int 12345)))]) (.c (.int 2147483647)))),
    (.asg (.nm 7) (.bin .mod (.blt .int [(.bin .mul (.var 4) (.bin .add (.bin .fdiv (.var 4) (.c (.int 65537))) (.c (.int 3))))]) (.c (.int 2147483629)))),
    (.app 2 (.bin .mod (.bin .fdiv (.var 7) (.c (.int 19))) (.idx (.var 1) (.var 5))))]
def digF : Fn := ⟨8, 2, [(.asg (.nm 2) (.lst [])),
    (.asg (.nm 3) (.blt .int [(.var 0)])),
    (.ifs (.cmp .ge (.var 3) (.bin .pow (.c (.int 10)) (.c (.int 18))))
    [(.asg (.nm 3) (.bin .sub (.var 3) (.bin .pow (.c (.int 10)) (.c (.int 18))))),
    (.fr (.nm 6) (.seq (.var 1)) digB0),
    (.ret (.var 2))]
    []),
    (.asg (.nm 4) (.bin .mod (.blt .int [(.var 3)]) (.c (.int 2147483629)))),
    (.fr (.nm 5) (.rng [(.blt .len [(.var 1)])]) digB1),
    (.ret (.var 2))]⟩
/-- the digits r are drawn below the bases -/
def Below (r bases : List Int) : Prop := r.length = bases.length ∧ ∀ (i : Nat) (x b : Int), r[i]? = some x → bases[i]? = some b → 0 ≤ x ∧ x < b

theorem below_add {r bases : List Int} {x b : Int} (h : ∀ (i : Nat) (x b : Int), r[i]? = some x → bases[i]? = some b → 0 ≤ x ∧ x < b) (hb : bases[r.length]? = some b) (hx : 0 ≤ x ∧ x < b) :
    ∀ (i : Nat) (y c : Int), (r ++ [x])[i]? = some y → bases[i]? = some c → 0 ≤ y ∧ y < c := fun i y c h1 h2 => by
  by_cases hi : i < r.length
  · rw [List.getElem?_append_left hi] at h1
    exact h i y c h1 h2
  · by_cases he : i = r.length
    · subst he
      rw [List.getElem?_append_right (Nat.le_refl _), Nat.sub_self] at h1
      cases h1
      rw [hb] at h2
      cases h2
      exact hx
    · rw [List.getElem?_eq_none (by rw [List.length_append]; simp; omega)] at h1
      cases h1
theorem digits_ok {T : List Fn} {k i : Nat} (h : T[i]? = some digF) (c : Int) (bases : List Int) (hl : bases.length < lim) (hb : ∀ b ∈ bases, 0 < b ∧ b < 2 ^ 60) :
    ∃ r, callF T (k + 1) i [.int c, .lst (iL bases)] = .ok (.own (iL r)) ∧ Below r bases := by
  rw [callF_go h rfl]
  show ∃ r, fin (evB (callF T k) digF.body [.v (.int c), .v (.lst (iL bases)), .un, .un, .un, .un, .un, .un]) = _ ∧ _
  have p18 : bPow (.v (.int 10)) (.v (.int 18)) = .ok (.v (.int (10 ^ 18))) := bPow_of (by decide) (by decide) (by decide)
  have m0 := bMod_of (i := c) (j := 2147483629) (by decide)
  by_cases hc : (10 : Int) ^ 18 ≤ c
  · let en : List Int × Int × Option D → Env := fun s => [.v (.int c), .v (.lst (iL bases)), .own (iL s.1), .v (.int s.2.1), .un, .un, osl s.2.2, .un]
    have ef := (forL_ix (e := D.int) (f := frB (callF T k) (.nm 6) digB0) en (fun s b => (s.1 ++ [s.2.1 % b], s.2.1 / b, some (.int b)))
      (fun i s => s.1.length = i ∧ ∀ (i : Nat) (x b : Int), s.1[i]? = some x → bases[i]? = some b → 0 ≤ x ∧ x < b) bases 0 ([], c - 10 ^ 18, none) ⟨rfl, fun i x b h => by cases h⟩ fun i s b hi hs => by
        have hm := List.mem_of_getElem? hi
        have hil := (List.getElem?_eq_some_iff.mp hi).1
        obtain ⟨b1, b2⟩ := hb b hm
        obtain ⟨h1, h2⟩ := hs
        rw [Nat.zero_add] at h1
        have e1 := bMod_of (i := s.2.1) (j := b) b1
        have e2 := bDiv_of (i := s.2.1) (j := b) b1 (by omega)
        refine ⟨by simp [frB, tgS, tgOk, tgt, digB0, en, e1, e2, h1, Nat.lt_trans hil hl], by rw [List.length_append, h1]; simp, below_add h2 (by rw [h1]; exact hi) ⟨Int.emod_nonneg _ (by omega), Int.emod_lt_of_pos _ b1⟩⟩)
    obtain ⟨ef, hs⟩ := ef
    have e1 := fr_free (cf := callF T k) (env := en ([], c - 10 ^ 18, none)) (t := .nm 6) (it := .seq (.var 1)) (b := digB0) (ds := bases.map D.int) (by
      intro i hi xs z
      have hi : i = 1 := List.mem_singleton.mp hi
      subst hi
      cases z) (by simp [en]; rfl)
    rw [ef] at e1
    generalize List.foldl (fun (s : List Int × Int × Option D) b => (s.1 ++ [s.2.1 % b], s.2.1 / b, some (D.int b))) ([], c - 10 ^ 18, none) bases = s at e1 hs
    have e1 : evS (callF T k) (.fr (.nm 6) (.seq (.var 1)) digB0) [.v (.int c), .v (.lst (iL bases)), .own [], .v (.int (c - 1000000000000000000)), .un, .un, .un, .un] = some (.nx (en s)) := e1
    refine ⟨s.1, ?_, by rw [hs.1]; omega, hs.2⟩
    simp only [digF, evB_cons, evS_ifs, evT_cmp, evS_asg]
    simp [hc, p18, e1]
    have hc' : (1000000000000000000 : Int) ≤ c := hc
    simp [hc', p18, e1]
    simp [en]
  · have hc' : ¬ (1000000000000000000 : Int) ≤ c := hc
    let en : List Int × Int × Option D × Option D → Env := fun s => [.v (.int c), .v (.lst (iL bases)), .own (iL s.1), .v (.int c), .v (.int s.2.1), osl s.2.2.1, .un, osl s.2.2.2]
    let sd : Int → Nat → Int := fun s k => (s * 48271 + 974711 * (k : Int) + 12345) % 2147483647
    let tw : Int → Int := fun s => s * (s / 65537 + 3) % 2147483629
    have ef := (forL_ix (e := fun (k : Nat) => D.int (k : Int)) (f := frB (callF T k) (.nm 5) digB1) en (fun s k => (s.1 ++ [tw (sd s.2.1 k) / 19 % bases.getD k 1], sd s.2.1 k, some (.int (k : Int)), some (.int (tw (sd s.2.1 k)))))
      (fun i s => s.1.length = i ∧ ∀ (i : Nat) (x b : Int), s.1[i]? = some x → bases[i]? = some b → 0 ≤ x ∧ x < b) (List.range bases.length) 0 ([], c % 2147483629, none, none) ⟨rfl, fun i x b h => by cases h⟩ fun i s j hi hs => by
        have hil := (List.getElem?_eq_some_iff.mp hi).1
        rw [List.length_range] at hil
        have hj : i = j := by
          rw [List.getElem?_range hil] at hi
          cases hi
          rfl
        subst hj
        have hbi : bases[i]? = some bases[i] := List.getElem?_eq_getElem hil
        have hg : bases.getD i 1 = bases[i] := by rw [List.getD_eq_getElem?_getD, hbi]; rfl
        obtain ⟨b1, b2⟩ := hb bases[i] (List.getElem_mem hil)
        obtain ⟨h1, h2⟩ := hs
        rw [Nat.zero_add] at h1
        have q1 := Int.emod_nonneg (s.2.1 * 48271 + 974711 * (i : Int) + 12345) (show (2147483647 : Int) ≠ 0 by decide)
        have q2 := Int.emod_lt_of_pos (s.2.1 * 48271 + 974711 * (i : Int) + 12345) (show (0 : Int) < 2147483647 by decide)
        have w1 := bMul_r (i := s.2.1) (j := 48271) (by decide)
        have w2 := bMul_l (i := 974711) (j := (i : Int)) (by decide)
        have w3 := bMod_of (i := s.2.1 * 48271 + 974711 * (i : Int) + 12345) (j := 2147483647) (by decide)
        have w4 := bDiv_of (i := sd s.2.1 i) (j := 65537) (by decide) (by decide)
        have w5 := bMul_l (i := sd s.2.1 i) (j := sd s.2.1 i / 65537 + 3) (by
          show ((s.2.1 * 48271 + 974711 * (i : Int) + 12345) % 2147483647).natAbs < 2 ^ 64
          omega)
        have w6 := bMod_of (i := sd s.2.1 i * (sd s.2.1 i / 65537 + 3)) (j := 2147483629) (by decide)
        have w7 := bDiv_of (i := tw (sd s.2.1 i)) (j := 19) (by decide) (by decide)
        have w8 := bMod_of (i := tw (sd s.2.1 i) / 19) (j := bases[i]) b1
        have w9 : getI (.v (.lst (iL bases))) (.v (.int (i : Int))) = .ok (.v (.int bases[i])) := getI_l (iL_get hbi)
        refine ⟨?_, by rw [List.length_append, h1]; simp, below_add h2 (by rw [h1]; exact hbi) (by rw [hg]; exact ⟨Int.emod_nonneg _ (by omega), Int.emod_lt_of_pos _ b1⟩)⟩
        simp only [frB, tgS, tgOk, tgt, digB1, en, hg]
        have w3 : bMod (.v (.int (s.2.1 * 48271 + 974711 * (i : Int) + 12345))) (.v (.int 2147483647)) = .ok (.v (.int (sd s.2.1 i))) := w3
        have w6 : bMod (.v (.int (sd s.2.1 i * (sd s.2.1 i / 65537 + 3)))) (.v (.int 2147483629)) = .ok (.v (.int (tw (sd s.2.1 i)))) := w6
        simp [w1, w2, w3, w4, w5, w6, w7, w8, w9, h1, Nat.lt_trans hil hl])
    obtain ⟨ef, hs⟩ := ef
    have e1 := fr_free (cf := callF T k) (env := en ([], c % 2147483629, none, none)) (t := .nm 5) (it := .rng [.blt .len [.var 1]]) (b := digB1) (ds := (List.range bases.length).map fun (k : Nat) => D.int (k : Int)) (by
      intro i hi xs z
      cases hi) (by simp [en, doRng_1 (Nat.le_of_lt hl)])
    rw [ef] at e1
    generalize List.foldl (fun (s : List Int × Int × Option D × Option D) (k : Nat) => (s.1 ++ [tw (sd s.2.1 k) / 19 % bases.getD k 1], sd s.2.1 k, some (D.int (k : Int)), some (D.int (tw (sd s.2.1 k))))) ([], c % 2147483629, none, none) (List.range bases.length) = s at e1 hs
    have e1 : evS (callF T k) (.fr (.nm 5) (.rng [.blt .len [.var 1]]) digB1) [.v (.int c), .v (.lst (iL bases)), .own [], .v (.int c), .v (.int (c % 2147483629)), .un, .un, .un] = some (.nx (en s)) := e1
    refine ⟨s.1, ?_, by rw [hs.1, List.length_range]; omega, hs.2⟩
    simp only [digF, evB_cons, evS_ifs, evT_cmp, evS_asg]
    simp [hc', p18, e1, m0]
    simp [en]
end Pd
set_option Elab.async false
set_option linter.all false
set_option maxRecDepth 100000
set_option autoImplicit false
set_option maxHeartbeats 4000000
/-! Sequences as lists or tuples; more about zip, sum. -/
namespace Pd
open PySem L2
/-- a list or a tuple of these items -/
def Sq1 (d : D) (xs : List D) : Prop := d = .lst xs ∨ d = .tup xs
section
variable {d : D} {xs : List D}
theorem Sq1.sq (h : Sq1 d xs) : (Rv.v d).sq = some xs := by rcases h with rfl | rfl <;> rfl
theorem Sq1.its (h : Sq1 d xs) : (Rv.v d).its = some xs := by rcases h with rfl | rfl <;> rfl
theorem Sq1.len (h : Sq1 d xs) : bLen [.v d] = .ok (.v (.int xs.length)) := by rcases h with rfl | rfl <;> rfl
theorem Sq1.get (h : Sq1 d xs) {j : Nat} {y : D} (e : xs[j]? = some y) : getI (.v d) (.v (.int (j : Int))) = .ok (.v y) := by
  rcases h with rfl | rfl
  · exact getI_l e
  · exact getI_t e
theorem Sq1.tup (h : Sq1 d xs) : bTuple [.v d] = .ok (.v (.tup xs)) := by rcases h with rfl | rfl <;> rfl
theorem Sq1.l : Sq1 (.lst xs) xs := .inl rfl
theorem Sq1.t : Sq1 (.tup xs) xs := .inr rfl
end
theorem zipL_map {α β : Type} (f : α → D) (g : β → D) : ∀ (l : List α) (k : List β), zipL (l.map f) (k.map g) = (l.zip k).map fun p => D.tup [f p.1, g p.2]
  | [], _ => by simp [zipL]
  | _ :: _, [] => by simp [zipL]
  | a :: l, b :: k => by
    show D.tup [f a, g b] :: zipL (l.map f) (k.map g) = _
    rw [zipL_map f g l k]
    rfl
theorem intsO_iL : ∀ l : List Int, intsO (iL l) = some l
  | [] => rfl
  | i :: l => by
    show (intsO (iL l)).map (i :: ·) = _
    rw [intsO_iL l]
    rfl
theorem bSum_o (l : List Int) : bSum [.own (iL l)] = .ok (.v (.int l.sum)) := by
  show (match (some (iL l)).bind intsO with | some ns => dInt ns.sum | none => .stk) = _
  rw [Option.bind_some, intsO_iL]
  rfl
theorem iL_map {α : Type} (f : α → Int) (l : List α) : (l.map fun a => D.int (f a)) = iL (l.map f) := by
  rw [iL, List.map_map]
  rfl
@[simp] theorem wip_nil (env : Env) : wip env [] = env := rfl
@[simp] theorem wip_cons (env : Env) (i : Nat) (is : List Nat) : wip env (i :: is) = (wip env is).set i .un := rfl
@[simp] theorem tgt_nm (i : Nat) (d : D) (env : Env) : tgt (.nm i) d env = some (env.set i (.v d)) := rfl
@[simp] theorem tgt_2 (i j : Nat) (a b : D) (env : Env) : tgt (.tp [.nm i, .nm j]) (.tup [a, b]) env = some ((env.set i (.v a)).set j (.v b)) := rfl
@[simp] theorem tgOk_nm (env : Env) (i : Nat) : tgOk env (.nm i) = stOk env i := rfl
@[simp] theorem tgOk_2 (env : Env) (i j : Nat) : tgOk env (.tp [.nm i, .nm j]) = (stOk env i && (stOk env j && true)) := rfl
end Pd
namespace Pd
open PySem L2
/-! ### bounds of what repr shows -/
structure Bd (d : D) (w q : Nat) : Prop where
  ok : okD d = true
  w : wt d ≤ w
  q : dp d ≤ q
theorem Bd.mono {d : D} {w q w' q' : Nat} (h : Bd d w q) (hw : w ≤ w') (hq : q ≤ q') : Bd d w' q' := ⟨h.ok, Nat.le_trans h.w hw, Nat.le_trans h.q hq⟩
theorem Bd.int {i : Int} (h : i.natAbs < 2 ^ 64) : Bd (.int i) 65 0 := by
  have h2 : i.natAbs.log2 < 64 := by
    by_cases h0 : i.natAbs = 0
    · rw [h0]; decide
    · exact (Nat.log2_lt h0).mpr h
  refine ⟨?_, ?_, Nat.le_refl _⟩
  · show decide (i.natAbs.log2 < 1920) = true
    exact decide_eq_true (by omega)
  · show i.natAbs.log2 + 2 ≤ 65
    omega
theorem bdL {w q : Nat} : ∀ {xs : List D}, (∀ d ∈ xs, Bd d w q) → okL xs = true ∧ wtL xs ≤ xs.length * (w + 2) ∧ dpL xs ≤ q
  | [], _ => ⟨rfl, Nat.zero_le _, Nat.zero_le _⟩
  | d :: xs, h => by
    obtain ⟨h1, h2, h3⟩ := bdL fun e he => h e (List.mem_cons_of_mem _ he)
    have h0 := h d List.mem_cons_self
    refine ⟨?_, ?_, ?_⟩
    · simp only [okL, h0.ok, h1, Bool.and_self]
    · show wt d + 2 + wtL xs ≤ (xs.length + 1) * (w + 2)
      have := h0.w
      rw [Nat.add_mul, Nat.one_mul]
      omega
    · exact Nat.max_le.mpr ⟨h0.q, h3⟩
theorem Bd.tup {xs : List D} {w q n : Nat} (h : ∀ d ∈ xs, Bd d w q) (hl : xs.length ≤ n) : Bd (.tup xs) (n * (w + 2) + 3) (q + 1) := by
  obtain ⟨h1, h2, h3⟩ := bdL h
  exact ⟨h1, Nat.add_le_add_right (Nat.le_trans h2 (Nat.mul_le_mul_right _ hl)) _, Nat.succ_le_succ h3⟩
theorem Bd.lst {xs : List D} {w q n : Nat} (h : ∀ d ∈ xs, Bd d w q) (hl : xs.length ≤ n) : Bd (.lst xs) (n * (w + 2) + 3) (q + 1) := by
  obtain ⟨h1, h2, h3⟩ := bdL h
  refine ⟨h1, ?_, Nat.succ_le_succ h3⟩
  have := Nat.le_trans h2 (Nat.mul_le_mul_right _ hl)
  show wtL xs + 2 ≤ _
  omega
theorem Bd.repr {r : Rv} {w q : Nat} (h : Bd r.d w q) (hw : w ≤ lim) (hq : q ≤ 40) : doRepr r = .ok (.v (.str (reprT r.d))) := reprD_ok h.ok (Nat.le_trans h.q hq) (Nat.le_trans h.w hw)
theorem Bd.iL {l : List Int} (h : ∀ x ∈ l, x.natAbs < 2 ^ 64) : ∀ d ∈ iL l, Bd d 65 0 := fun d hd => by
  obtain ⟨x, hx, rfl⟩ := List.mem_map.mp hd
  exact .int (h x hx)
theorem bAdd_oo {a b : List D} (h : (a ++ b).length ≤ lim) : bAdd (.own a) (.own b) = .ok (.own (a ++ b)) := by
  show dOwn (a ++ b) = _
  exact if_pos h
@[simp] theorem part_i (i : Int) : part (.v (.int i)) = .ok (some i) := rfl
@[simp] theorem partE_ci (i : Int) (o : Out Rv) : partE (.c (.int i)) o = o.bind part := rfl
@[simp] theorem partE_n (o : Out Rv) : partE (.c .non) o = .ok none := rfl
@[simp] theorem partE_v (i : Nat) (o : Out Rv) : partE (.var i) o = o.bind part := rfl
@[simp] theorem partE_b (p : BOp) (a b : E) (o : Out Rv) : partE (.bin p a b) o = o.bind part := rfl
@[simp] theorem getS_o (xs : List D) (l h : Option Int) : getS (.own xs) l h = .ok (.own (cut xs l h)) := rfl
@[simp] theorem getS_b (xs : List D) (l h : Option Int) : getS (.bor xs) l h = .ok (.own (cut xs l h)) := rfl
@[simp] theorem getS_l (xs : List D) (l h : Option Int) : getS (.v (.lst xs)) l h = .ok (.own (cut xs l h)) := rfl
theorem cut_nn {α : Type} (xs : List α) (a b : Nat) : cut xs (some (a : Int)) (some (b : Int)) = (xs.drop (min a xs.length)).take (min b xs.length - min a xs.length) := by
  unfold cut
  rw [HT.sIx_nat, HT.sIx_nat]
theorem cut_iL (l : List Int) (a b : Option Int) : cut (iL l) a b = iL (cut l a b) := by
  unfold cut Pd.iL
  rw [List.length_map, ← List.map_drop, ← List.map_take]
end Pd
namespace Pd
open PySem L2
/-- a loop that breaks in time -/
theorem forL_brk {α St : Type} {f : D → Env → Option Fl} {e : α → D} (en : St → Env) (I Q : St → Prop) (mu : St → Nat) : ∀ (l : List α) (s : St), I s → mu s < l.length →
    (∀ s a, a ∈ l → I s → (∃ s', f (e a) (en s) = some (.nx (en s')) ∧ I s' ∧ mu s' < mu s) ∨ ∃ s', f (e a) (en s) = some (.bk (en s')) ∧ Q s') →
    ∃ s', forL f (l.map e) (en s) = some (.nx (en s')) ∧ Q s'
  | [], s, _, hm, _ => by cases hm
  | a :: l, s, hs, hm, h => by
    rw [List.map_cons]
    rcases h s a List.mem_cons_self hs with ⟨s', h1, h2, h3⟩ | ⟨s', h1, h2⟩
    · rw [forL, h1]
      rw [List.length_cons] at hm
      exact forL_brk en I Q mu l s' h2 (by omega) fun s b hb => h s b (List.mem_cons_of_mem _ hb)
    · refine ⟨s', ?_, h2⟩
      rw [forL, h1]
theorem doRng_i {j : Int} (h : j ≤ (lim : Nat)) (h2 : -(2 ^ 62) ≤ j) : doRng [.v (.int j)] = .ok ((List.range j.toNat).map fun (i : Nat) => D.int (i : Int)) := by
  show (if decide (j ≤ (lim : Nat)) && decide (-(2 ^ 62) ≤ j) then _ else _) = _
  rw [if_pos, rng0]
  rw [Bool.and_eq_true, decide_eq_true_eq, decide_eq_true_eq]
  exact ⟨h, h2⟩
theorem cut_take {α : Type} (xs : List α) (b : Nat) : cut xs none (some (b : Int)) = xs.take b := by
  unfold cut
  rw [HT.sIx_nat, HT.sIx_none, List.drop_zero, Nat.sub_zero]
  by_cases h : b ≤ xs.length
  · rw [Nat.min_eq_left h]
  · rw [Nat.min_eq_right (by omega), List.take_of_length_le (Nat.le_refl _), List.take_of_length_le (by omega)]
theorem cut_drop {α : Type} (xs : List α) (a : Nat) : cut xs (some (a : Int)) none = xs.drop a := by
  unfold cut
  rw [HT.sIx_nat, HT.sIx_none]
  by_cases h : a ≤ xs.length
  · rw [Nat.min_eq_left h, List.take_of_length_le (by rw [List.length_drop]; exact Nat.le_refl _)]
  · rw [Nat.min_eq_right (by omega), List.drop_of_length_le (Nat.le_refl _), List.drop_of_length_le (by omega), List.take_nil]
theorem getS_str {l : List Nat} (h : l.length ≤ lim) (a b : Option Int) : getS (.v (.str l)) a b = .ok (.v (.str (cut l a b))) := if_pos h
theorem getI_str {l : List Nat} {i : Nat} {c : Nat} (h : l.length ≤ lim) (e : l[i]? = some c) : getI (.v (.str l)) (.v (.int (i : Int))) = .ok (.v (.str [c])) := by
  show (if l.length ≤ lim then (match L2.atI l (i : Int) with | some c => Out.ok (Rv.v (.str [c])) | none => .stk) else .stk) = _
  rw [if_pos h, L2.atI_nat e]
theorem bAdd_ss {a b : List Nat} (h : a.length + b.length ≤ lim) : bAdd (.v (.str a)) (.v (.str b)) = .ok (.v (.str (a ++ b))) := by
  show dStr (a ++ b) = _
  exact if_pos (by rw [List.length_append]; exact h)
theorem bLen_str {l : List Nat} (h : l.length ≤ lim) : bLen [.v (.str l)] = .ok (.v (.int l.length)) := if_pos h
theorem bMul_sn {a : List Nat} {n : Int} (h : n < 2 ^ 62) (h0 : -(2 ^ 62) < n) (hl : a.length * n.toNat ≤ lim) : bMul (.v (.str a)) (.v (.int n)) = .ok (.v (.str (List.replicate n.toNat a).flatten)) := by
  show (if decide (-(2 ^ 62) < n) && decide (n < 2 ^ 62) && decide (a.length * n.toNat ≤ lim) then _ else _) = _
  rw [if_pos (by rw [decide_eq_true h, decide_eq_true h0, decide_eq_true hl]; rfl)]
end Pd
set_option Elab.async false
set_option linter.all false
set_option maxRecDepth 100000
set_option autoImplicit false
set_option maxHeartbeats 4000000
namespace Wl
open PySem Pd
/-! ### words -/
def isL (c : Nat) : Bool := (decide (97 ≤ c) && decide (c ≤ 122)) || (decide (65 ≤ c) && decide (c ≤ 90))
def sw (c : Nat) : Nat := if 97 ≤ c then c - 32 else c + 32
theorem isL_of {c : Nat} (h : isL c = true) : (97 ≤ c ∧ c ≤ 122) ∨ (65 ≤ c ∧ c ≤ 90) := by
  unfold isL at h
  simpa [Bool.or_eq_true, Bool.and_eq_true] using h
theorem isL_to {c : Nat} (h : (97 ≤ c ∧ c ≤ 122) ∨ (65 ≤ c ∧ c ≤ 90)) : isL c = true := by
  unfold isL
  simpa [Bool.or_eq_true, Bool.and_eq_true] using h
theorem sw_L {c : Nat} (h : isL c = true) : isL (sw c) = true := by
  apply isL_to
  unfold sw
  rcases isL_of h with z | z
  · rw [if_pos z.1]; omega
  · rw [if_neg (show ¬ 97 ≤ c by omega)]; omega
theorem sw_sw {c : Nat} (h : isL c = true) : sw (sw c) = c := by
  unfold sw
  rcases isL_of h with z | z
  · rw [if_pos z.1, if_neg (show ¬ 97 ≤ c - 32 by omega)]; omega
  · rw [if_neg (show ¬ 97 ≤ c by omega), if_pos (show 97 ≤ c + 32 by omega)]; omega
theorem sw_ne {c : Nat} : sw c ≠ c := by
  unfold sw
  split <;> omega
def Wd (w : List Nat) : Prop := ∀ c ∈ w, isL c = true
theorem Wd.app {a b : List Nat} (h : Wd a) (g : Wd b) : Wd (a ++ b) := fun c hc => (List.mem_append.mp hc).elim (h c) (g c)
theorem Wd.nil : Wd [] := fun c hc => by cases hc
def und (w : List Nat) : List Nat := w.reverse.map sw
theorem und_len {w : List Nat} : (und w).length = w.length := by rw [und, List.length_map, List.length_reverse]
theorem Wd.und {w : List Nat} (h : Wd w) : Wd (und w) := fun c hc => by
  obtain ⟨x, hx, rfl⟩ := List.mem_map.mp hc
  exact sw_L (h x (List.mem_reverse.mp hx))
/-- one sign to the stack -/
def st (r : List Nat) (c : Nat) : List Nat :=
  match r with
  | x :: r' => if x = sw c then r' else c :: x :: r'
  | [] => [c]
def run (r w : List Nat) : List Nat := w.foldl st r
def red (w : List Nat) : List Nat := (run [] w).reverse
/-- no sign stands beside its undoing -/
def Rd : List Nat → Prop
  | [] => True
  | [_] => True
  | x :: y :: r => y ≠ sw x ∧ Rd (y :: r)
theorem Rd.nil : Rd [] := True.intro
theorem Rd.tl {x : Nat} {r : List Nat} (h : Rd (x :: r)) : Rd r := by
  cases r with
  | nil => trivial
  | cons y r => exact h.2
theorem st_Rd {r : List Nat} {c : Nat} (h : Rd r) : Rd (st r c) := by
  cases r with
  | nil => trivial
  | cons x r =>
    unfold st
    simp only
    split
    · exact h.tl
    · rename_i hx
      exact ⟨hx, h⟩
theorem st_Wd {r : List Nat} {c : Nat} (h : Wd r) (hc : isL c = true) : Wd (st r c) := by
  cases r with
  | nil => exact fun x hx => by rw [List.mem_singleton.mp hx]; exact hc
  | cons x r =>
    unfold st
    simp only
    split
    · exact fun y hy => h y (List.mem_cons_of_mem _ hy)
    · exact fun y hy => (List.mem_cons.mp hy).elim (fun e => by rw [e]; exact hc) (h y)
theorem run_Rd : ∀ {w r : List Nat}, Rd r → Rd (run r w)
  | [], _, h => h
  | c :: w, r, h => run_Rd (w := w) (st_Rd (c := c) h)
theorem run_Wd : ∀ {w r : List Nat}, Wd r → Wd w → Wd (run r w)
  | [], _, h, _ => h
  | c :: w, r, h, hw => run_Wd (w := w) (st_Wd h (hw c List.mem_cons_self)) fun x hx => hw x (List.mem_cons_of_mem _ hx)
theorem run_app (r a b : List Nat) : run r (a ++ b) = run (run r a) b := List.foldl_append
/-- a pair does nothing -/
theorem st_pair {r : List Nat} {y : Nat} (hr : Rd r) (hw : Wd r) (hy : isL y = true) : st (st r (sw y)) y = r := by
  cases r with
  | nil =>
    show (if sw y = sw y then ([] : List Nat) else [y, sw y]) = []
    rw [if_pos rfl]
  | cons z r =>
    have hz := hw z List.mem_cons_self
    by_cases e : z = sw (sw y)
    · have e1 : st (z :: r) (sw y) = r := by unfold st; simp only; rw [if_pos e]
      have ezy : z = y := by rw [e, sw_sw hy]
      rw [e1]
      subst ezy
      cases r with
      | nil => rfl
      | cons x r =>
        have := hr.1
        unfold st
        simp only
        rw [if_neg this]
    · have e1 : st (z :: r) (sw y) = sw y :: z :: r := by unfold st; simp only; rw [if_neg e]
      rw [e1]
      show (if sw y = sw y then z :: r else y :: sw y :: z :: r) = z :: r
      rw [if_pos rfl]
theorem run_pair {r a b : List Nat} {y : Nat} (hr : Rd r) (hw : Wd r) (ha : Wd a) (hy : isL y = true) : run r (a ++ sw y :: y :: b) = run r (a ++ b) := by
  rw [run_app, run_app]
  show run (st (st (run r a) (sw y)) y) b = _
  rw [st_pair (run_Rd hr) (run_Wd hw ha) hy]
theorem red_pair {a b : List Nat} {y : Nat} (ha : Wd a) (hy : isL y = true) : red (a ++ sw y :: y :: b) = red (a ++ b) := by
  unfold red
  rw [run_pair Rd.nil Wd.nil ha hy]
/-- a word that has no pair stays -/
theorem run_rd : ∀ {w r : List Nat}, Wd w → Wd r → Rd (w.reverse ++ r) → run r w = w.reverse ++ r
  | [], r, _, _, _ => rfl
  | c :: w, r, hw, hr, h => by
    have hc := hw c List.mem_cons_self
    have e : (c :: w).reverse ++ r = w.reverse ++ (c :: r) := by rw [List.reverse_cons, List.append_assoc]; rfl
    rw [e] at h ⊢
    have hs : st r c = c :: r := by
      cases r with
      | nil => rfl
      | cons x r =>
        have hd : Rd (c :: x :: r) := by
          have go : ∀ (l : List Nat) (m : List Nat), Rd (l ++ m) → Rd m := fun l m => by
            induction l with
            | nil => exact id
            | cons a l ih => exact fun h => ih h.tl
          exact go _ _ h
        unfold st
        simp only
        rw [if_neg hd.1]
    show run (st r c) w = _
    rw [hs]
    exact run_rd (fun x hx => hw x (List.mem_cons_of_mem _ hx)) (fun x hx => (List.mem_cons.mp hx).elim (fun e => by rw [e]; exact hc) (hr x)) h
theorem red_Wd {w : List Nat} (h : Wd w) : Wd (red w) := fun c hc => run_Wd Wd.nil h c (List.mem_reverse.mp hc)
theorem red_of {w : List Nat} (hw : Wd w) (h : Rd w.reverse) : red w = w := by
  unfold red
  rw [run_rd hw Wd.nil (by rw [List.append_nil]; exact h), List.append_nil, List.reverse_reverse]
theorem red_red {w : List Nat} (h : Wd w) : red (red w) = red w := by
  refine red_of (red_Wd h) ?_
  unfold red
  rw [List.reverse_reverse]
  exact run_Rd trivial
/-- a word and the undone word strike to nothing -/
theorem run_und : ∀ {w r : List Nat}, Wd w → Wd r → Rd r → run r (w ++ und w) = r
  | [], r, _, _, _ => rfl
  | c :: w, r, hw, hr, hd => by
    have hc := hw c List.mem_cons_self
    have hw' : Wd w := fun x hx => hw x (List.mem_cons_of_mem _ hx)
    have e : und (c :: w) = und w ++ [sw c] := by
      unfold und
      rw [List.reverse_cons, List.map_append]
      rfl
    rw [e, show (c :: w) ++ (und w ++ [sw c]) = [c] ++ ((w ++ und w) ++ [sw c]) by simp, run_app, run_app]
    show run (run (st r c) (w ++ und w)) [sw c] = r
    rw [run_und hw' (st_Wd hr hc) (st_Rd hd)]
    show st (st r c) (sw c) = r
    have := st_pair (y := sw c) hd hr (sw_L hc)
    rw [sw_sw hc] at this
    exact this
theorem red_und {w : List Nat} (h : Wd w) : red (w ++ und w) = [] := by
  unfold red
  rw [run_und h Wd.nil trivial]
  rfl
theorem st_len {r : List Nat} {c : Nat} : (st r c).length ≤ r.length + 1 := by
  cases r with
  | nil => exact Nat.le_refl _
  | cons x r =>
    unfold st
    simp only
    split
    · simp only [List.length_cons]; omega
    · simp only [List.length_cons]; omega
theorem run_len : ∀ {w r : List Nat}, (run r w).length ≤ r.length + w.length
  | [], _ => Nat.le_refl _
  | c :: w, r => by
    have h1 := run_len (w := w) (r := st r c)
    have h2 := st_len (r := r) (c := c)
    show (run (st r c) w).length ≤ r.length + (w.length + 1)
    omega
theorem red_len {w : List Nat} : (red w).length ≤ w.length := by
  have := run_len (w := w) (r := [])
  unfold red
  rw [List.length_reverse]
  simpa using this
/-- the pairs of a word -/
theorem not_Rd : ∀ {w : List Nat}, ¬ Rd w → ∃ (a b : List Nat) (x : Nat), w = a ++ x :: sw x :: b
  | [], h => absurd trivial h
  | [_], h => absurd trivial h
  | x :: y :: r, h => by
    by_cases e : y = sw x
    · exact ⟨[], r, x, by rw [e]; rfl⟩
    · have h2 : ¬ Rd (y :: r) := fun z => h ⟨e, z⟩
      obtain ⟨a, b, z, hz⟩ := not_Rd h2
      exact ⟨x :: a, b, z, by rw [hz]; rfl⟩

def sD (c : Nat) : D := .str [c]
def sL (w : List Nat) : List D := w.map sD
@[simp] theorem sL_len (w : List Nat) : (sL w).length = w.length := List.length_map _
@[simp] theorem sL_nil : sL [] = [] := rfl
theorem strs_sL : ∀ w : List Nat, strsO (sL w) = some (w.map fun c => [c])
  | [] => rfl
  | c :: w => by
    show (strsO (sL w)).map ([c] :: ·) = _
    rw [strs_sL w]
    rfl
theorem glue_one : ∀ w : List Nat, glue [] (w.map fun c => [c]) = w
  | [] => rfl
  | [c] => rfl
  | c :: d :: r => by
    show [c] ++ [] ++ glue [] ((d :: r).map fun c => [c]) = _
    rw [glue_one (d :: r)]
    rfl
theorem sum_one : ∀ w : List Nat, ((w.map fun c => [c]).map List.length).sum = w.length
  | [] => rfl
  | c :: w => by
    show 1 + ((w.map fun c => [c]).map List.length).sum = _
    rw [sum_one w, List.length_cons]
    omega
theorem join_of {r : Rv} {w : List Nat} (h : r.sq = some (sL w)) (hl : w.length ≤ lim) : mJoin (.v (.str [])) [r] = .ok (.v (.str w)) := by
  show (match r.sq.bind strsO with | some xs => (if (xs.map List.length).sum + xs.length * ([] : List Nat).length ≤ lim then Out.ok (Rv.v (.str (glue [] xs))) else .stk) | none => .stk) = _
  rw [h, Option.bind_some, strs_sL]
  show (if ((w.map fun c => [c]).map List.length).sum + (w.map fun c => [c]).length * 0 ≤ lim then Out.ok (Rv.v (.str (glue [] (w.map fun c => [c])))) else .stk) = _
  rw [sum_one, Nat.mul_zero, Nat.add_zero, if_pos hl, glue_one]
@[simp] theorem mth_join : doMth .join = mJoin := rfl
@[simp] theorem mth_lower : doMth .lower = mLower := rfl
@[simp] theorem mth_upper : doMth .upper = mUpper := rfl
def lw (c : Nat) : Nat := if 97 ≤ c then c else c + 32
def up (c : Nat) : Nat := if 97 ≤ c then c - 32 else c
theorem low_tab : ∀ c, c < 128 → isL c = true → (Txt.lower ⟨[c].toArray⟩).cps.toList = [lw c] ∧ (Txt.upper ⟨[c].toArray⟩).cps.toList = [up c] := by decide +kernel
theorem isL_lt {c : Nat} (h : isL c = true) : c < 128 := by
  rcases isL_of h with z | z <;> omega
theorem low_ok {c : Nat} (h : isL c = true) : mLower (.v (.str [c])) [] = .ok (.v (.str [lw c])) := by
  show (if ([c] : List Nat).length ≤ 5592405 then Out.ok (Rv.v (.str (Txt.lower ⟨[c].toArray⟩).cps.toList)) else .stk) = _
  rw [if_pos (show [c].length ≤ 5592405 from (by decide : 1 ≤ 5592405)), (low_tab c (isL_lt h) h).1]
theorem up_ok {c : Nat} (h : isL c = true) : mUpper (.v (.str [c])) [] = .ok (.v (.str [up c])) := by
  show (if ([c] : List Nat).length ≤ 5592405 then Out.ok (Rv.v (.str (Txt.upper ⟨[c].toArray⟩).cps.toList)) else .stk) = _
  rw [if_pos (show [c].length ≤ 5592405 from (by decide : 1 ≤ 5592405)), (low_tab c (isL_lt h) h).2]
theorem eq_low {c : Nat} (h : isL c = true) : (c = lw c) ↔ 97 ≤ c := by
  unfold lw
  split <;> omega
/-- the stack as the program keeps it -/
def sa (a : List Nat) (c : Nat) : List Nat := (st a.reverse c).reverse
theorem sa_nil (c : Nat) : sa [] c = [c] := rfl
theorem sa_snoc (b : List Nat) (x c : Nat) : sa (b ++ [x]) c = if x = sw c then b else b ++ [x] ++ [c] := by
  unfold sa
  rw [List.reverse_append]
  show (if x = sw c then b.reverse else c :: x :: b.reverse).reverse = _
  split
  · rw [List.reverse_reverse]
  · simp
theorem fold_sa : ∀ (w a : List Nat), w.foldl sa a = (run a.reverse w).reverse
  | [], a => by rw [List.foldl_nil]; show a = a.reverse.reverse; rw [List.reverse_reverse]
  | c :: w, a => by
    rw [List.foldl_cons, fold_sa w]
    unfold sa
    rw [List.reverse_reverse]
    rfl
theorem red_sa (w : List Nat) : w.foldl sa [] = red w := fold_sa w []
theorem sa_len {a : List Nat} {c : Nat} : (sa a c).length ≤ a.length + 1 := by
  have := st_len (r := a.reverse) (c := c)
  unfold sa
  rw [List.length_reverse]
  rw [List.length_reverse] at this
  exact this
theorem snoc_of {a : List Nat} (h : a ≠ []) : ∃ b x, a = b ++ [x] := ⟨a.dropLast, a.getLast h, (List.dropLast_concat_getLast h).symm⟩
theorem sL_snoc (b : List Nat) (x : Nat) : sL (b ++ [x]) = sL b ++ [sD x] := List.map_append
theorem last_sL (b : List Nat) (x : Nat) : getI (.bor (sL (b ++ [x]))) (.v (.int (-1))) = .ok (.v (.str [x])) := by
  show (match L2.atI (sL (b ++ [x])) (-1) with | some d => Out.ok (Rv.v d) | none => .stk) = _
  rw [sL_snoc, L2.atI_last]
  rfl
theorem bd_str {l : List Nat} (h : Wd l) (hl : l.length ≤ 20000) : Bd (.str l) 80002 0 := by
  refine ⟨?_, ?_, Nat.le_refl _⟩
  · show (l.all fun c => decide (c < 256)) = true
    exact List.all_eq_true.mpr fun c hc => decide_eq_true (Nat.lt_trans (isL_lt (h c hc)) (by decide))
  · show 4 * l.length + 2 ≤ 80002
    omega
theorem repr_w {l : List Nat} (h : Wd l) (hl : l.length ≤ 20000) : doRepr (.v (.str l)) = .ok (.v (.str (reprT (.str l)))) := Bd.repr (r := .v (.str l)) (bd_str h hl) (by decide) (by decide)
/-- words one beside another -/
def wsOk (ws : List (List Nat)) : Prop := ∀ w ∈ ws, Wd w ∧ w.length ≤ 20000
theorem bd_ws {ws : List (List Nat)} (h : wsOk ws) : ∀ d ∈ ws.map D.str, Bd d 80002 0 := fun d hd => by
  obtain ⟨w, hw, rfl⟩ := List.mem_map.mp hd
  exact bd_str (h w hw).1 (h w hw).2
theorem repr_o {ws : List (List Nat)} (h : wsOk ws) (hl : ws.length ≤ 5) : doRepr (.own (ws.map D.str)) = .ok (.v (.str (reprT (.lst (ws.map D.str))))) :=
  Bd.repr (r := .own (ws.map D.str)) (Bd.lst (n := 5) (bd_ws h) (by rw [List.length_map]; exact hl)) (by decide) (by decide)
theorem repr_b {ws : List (List Nat)} (h : wsOk ws) (hl : ws.length ≤ 5) : doRepr (.bor (ws.map D.str)) = .ok (.v (.str (reprT (.lst (ws.map D.str))))) :=
  Bd.repr (r := .bor (ws.map D.str)) (Bd.lst (n := 5) (bd_ws h) (by rw [List.length_map]; exact hl)) (by decide) (by decide)
theorem und_nil : und [] = [] := rfl
theorem red_nil : red [] = [] := rfl
abbrev big : Nat := 100000
theorem big_lim : big ≤ lim := by decide
/-! ### the functions that many laws have; s: where swapped stands in the table -/
def swF : Fn := ⟨1, 1, [(.ifs (.cmp .eq (.var 0) (.mth .lower (.var 0) []))
    [(.ret (.mth .upper (.var 0) []))]
    []),
    (.ret (.mth .lower (.var 0) []))]⟩
def undE (s : Nat) : E := .cmpr (.call s [(.var 1)]) (.nm 1) (.seq (.rev (.var 0))) [] [1]
def undF (s : Nat) : Fn := ⟨2, 1, [(.frz [1] (.ret (.mth .join (.c (.str [])) [undE s])))]⟩
def strB (s : Nat) : List S := [(.frz [2] (.ifs (.and (.var 1) (.cmp .eq (.idx (.var 1) (.neg (.c (.int 1)))) (.call s [(.var 2)])))
    [(.pop 1)]
    [(.frz [2] (.app 1 (.var 2)))]))]
def strF (s : Nat) : Fn := ⟨3, 1, [(.asg (.nm 1) (.lst [])),
    (.fr (.nm 2) (.seq (.var 0)) (strB s)),
    (.ret (.mth .join (.c (.str [])) [(.var 1)]))]⟩
def lundE (s : Nat) : E := .cmpr (.call s [(.idx (.var 0) (.bin .sub (.bin .sub (.blt .len [(.var 0)]) (.c (.int 1))) (.var 1)))]) (.nm 1) (.rng [(.blt .len [(.var 0)])]) [] [1]
def lundF (s : Nat) : Fn := ⟨2, 1, [(.ret (.mth .join (.c (.str [])) [lundE s]))]⟩
def lstrB (s : Nat) : List S := [(.frz [2] (.ifs (.and (.cmp .gt (.blt .len [(.var 1)]) (.c (.int 0))) (.cmp .eq (.idx (.var 1) (.neg (.c (.int 1)))) (.call s [(.var 2)])))
    [(.pop 1)]
    [(.frz [2] (.app 1 (.var 2)))]))]
def lstrF (s : Nat) : Fn := ⟨3, 1, [(.asg (.nm 1) (.lst [])),
    (.fr (.nm 2) (.seq (.var 0)) (lstrB s)),
    (.ret (.mth .join (.c (.str [])) [(.var 1)]))]⟩
section
variable {T : List Fn} {k i s : Nat}
theorem sw_ok (hi : T[i]? = some swF) {c : Nat} (h : isL c = true) : callF T (k + 1) i [.str [c]] = .ok (.v (.str [sw c])) := by
  rw [callF_go hi rfl]
  show fin (evB (callF T k) swF.body [.v (.str [c])]) = _
  have h1 := low_ok h
  have h2 := up_ok h
  have r1 := ret_v (callF T k) [.v (.str [c])] (e := .mth .upper (.var 0) []) (d := .str [up c]) (fun _ z => by cases z) (by simp [h2])
  have r2 := ret_v (callF T k) [.v (.str [c])] (e := .mth .lower (.var 0) []) (d := .str [lw c]) (fun _ z => by cases z) (by simp [h1])
  by_cases hc : 97 ≤ c
  · have e1 : c = lw c := (eq_low h).mpr hc
    have e2 : up c = sw c := by unfold up sw; rw [if_pos hc, if_pos hc]
    rw [e2] at r1
    simp [swF, h1, ← e1, r1]
  · have e1 : ¬ c = lw c := fun z => hc ((eq_low h).mp z)
    have e2 : lw c = sw c := by unfold lw sw; rw [if_neg hc, if_neg hc]
    rw [e2] at r2 h1 e1
    simp [swF, h1, e1, r2]
theorem und_ok (hs : T[s]? = some swF) (hi : T[i]? = some (undF s)) {w : List Nat} (h : Wd w) (hl : w.length ≤ big) : callF T (k + 2) i [.str w] = .ok (.v (.str (und w))) := by
  have hlim := Nat.le_trans hl big_lim
  rw [callF_go hi rfl]
  show fin (evB (callF T (k + 1)) (undF s).body [.v (.str w), .un]) = _
  have hr : getR (.v (.str w)) = .ok (.v (.str w.reverse)) := if_pos hlim
  have e : evE (callF T (k + 1)) (undE s) [.v (.str w), .un] = .ok (.own (sL (und w))) := by
    unfold undE
    refine (comp_all (l := w.reverse) (s := fun c => .str [c]) (g := fun c => sD (sw c)) (fun c => [.v (.str w), .v (.str [c])]) ?_ ?_ ?_ ?_).trans ?_
    · simp [hr]
    · rw [List.length_reverse]; exact hlim
    · intro q _; simp
    · intro c hc
      have := sw_ok (k := k) hs (h c (List.mem_reverse.mp hc))
      simp [this, sD]
    · rw [sL, und, List.map_map]; rfl
  have hj := join_of (r := .own (sL (und w))) (w := und w) rfl (by rw [und_len]; exact hlim)
  have er := ret_v (callF T (k + 1)) [.v (.str w), .un] (e := .mth .join (.c (.str [])) [undE s]) (d := .str (und w)) (fun _ z => by cases z) (by simp [e, hj])
  simp [undF, er]
theorem lund_ok (hs : T[s]? = some swF) (hi : T[i]? = some (lundF s)) {w : List Nat} (h : Wd w) (hl : w.length ≤ big) : callF T (k + 2) i [.str w] = .ok (.v (.str (und w))) := by
  have hlim := Nat.le_trans hl big_lim
  rw [callF_go hi rfl]
  show fin (evB (callF T (k + 1)) (lundF s).body [.v (.str w), .un]) = _
  have hlen : bLen [.v (.str w)] = .ok (.v (.int w.length)) := if_pos hlim
  have e : evE (callF T (k + 1)) (lundE s) [.v (.str w), .un] = .ok (.own (sL (und w))) := by
    unfold lundE
    refine (comp_all (l := List.range w.length) (s := fun (i : Nat) => .int i) (g := fun i => sD (sw (w.getD (w.length - 1 - i) 0))) (fun i => [.v (.str w), .v (.int i)]) ?_ ?_ ?_ ?_).trans ?_
    · simp [hlen, doRng_1 hlim]
    · rw [List.length_range]; exact hlim
    · intro q _; simp
    · intro i hi
      rw [List.mem_range] at hi
      have g1 : w[w.length - 1 - i]? = some w[w.length - 1 - i] := List.getElem?_eq_getElem (by omega)
      have g2 : getI (.v (.str w)) (.v (.int ((w.length : Int) - 1 - (i : Int)))) = .ok (.v (.str [w[w.length - 1 - i]])) := by
        show (if w.length ≤ lim then (match L2.atI w ((w.length : Int) - 1 - (i : Int)) with | some c => Out.ok (Rv.v (.str [c])) | none => .stk) else .stk) = _
        rw [if_pos hlim, show (w.length : Int) - 1 - (i : Int) = ((w.length - 1 - i : Nat) : Int) by omega, L2.atI_nat g1]
      have := sw_ok (k := k) hs (h _ (List.getElem_mem (show w.length - 1 - i < w.length by omega)))
      simp [hlen, g2, this, sD, g1]
    · congr 2
      apply List.ext_getElem
      · simp [sL, und]
      · intro i h1 h2
        simp [sL, und] at h1 h2 ⊢
        rw [List.getElem?_eq_getElem (by omega)]
        rfl
  have hj := join_of (r := .own (sL (und w))) (w := und w) rfl (by rw [und_len]; exact hlim)
  have er := ret_v (callF T (k + 1)) [.v (.str w), .un] (e := .mth .join (.c (.str [])) [lundE s]) (d := .str (und w)) (fun _ z => by cases z) (by simp [e, hj])
  simp [lundF, er]
theorem str_ok (hs : T[s]? = some swF) (hi : T[i]? = some (strF s)) {w : List Nat} (h : Wd w) (hl : w.length ≤ big) : callF T (k + 2) i [.str w] = .ok (.v (.str (red w))) := by
  have hlim := Nat.le_trans hl big_lim
  have hbl : big < lim := by decide
  rw [callF_go hi rfl]
  show fin (evB (callF T (k + 1)) (strF s).body [.v (.str w), .un, .un]) = _
  let en : List Nat × Option D → Pd.Env := fun q => [.v (.str w), .own (sL q.1), osl q.2]
  have ef := forL_ix (e := sD) (f := frB (callF T (k + 1)) (.nm 2) (strB s)) en (fun s c => (sa s.1 c, some (sD c))) (fun i s => s.1.length ≤ i) w 0 ([], none) (Nat.le_refl _) fun i q c hi hq => by
    have hil := (List.getElem?_eq_some_iff.mp hi).1
    have hc := h c (List.mem_of_getElem? hi)
    have e1 := sw_ok (k := k) hs hc
    have hlt : q.1.length < lim := by omega
    refine ⟨?_, Nat.le_trans sa_len (by omega)⟩
    by_cases h0 : q.1 = []
    · simp [frB, tgS, strB, en, h0, sa_nil, sL, sD, tru]
    · obtain ⟨b, x, hb⟩ := snoc_of h0
      rw [hb] at hlt
      have e2 := last_sL b x
      have e3 : (sL (b ++ [x])).isEmpty = false := by rw [sL_snoc]; simp
      have hlt' : b.length + 1 < lim := by simpa using hlt
      have e4 : sL b ++ [sD x] = sL (b ++ [x]) := (sL_snoc b x).symm
      by_cases hx : x = sw c
      · subst hx
        simp only [frB, tgS, tgOk_nm, tgt_nm, en, hb, sa_snoc, strB]
        simp [sD, tru, e1, e2, e3]
        simp [sL_snoc]
      · simp only [frB, tgS, tgOk_nm, tgt_nm, en, hb, sa_snoc, strB]
        simp [sD, tru, e1, e2, e3, hx, hlt']
        simp [sL, sD]
  obtain ⟨ef, hs⟩ := ef
  have efr := fr_free (cf := callF T (k + 1)) (env := en ([], none)) (t := .nm 2) (it := .seq (.var 0)) (b := (strB s)) (ds := w.map sD) (by
    intro i hi xs z
    have hi : i = 0 := List.mem_singleton.mp hi
    subst hi
    cases z) (by simp [en]; exact fun _ _ => rfl)
  rw [ef] at efr
  have hv : ∀ (l : List Nat) (s : List Nat × Option D), (l.foldl (fun s c => (sa s.1 c, some (sD c))) s).1 = l.foldl sa s.1 := fun l => by
    induction l with
    | nil => exact fun s => rfl
    | cons a l ih => exact fun s => ih _
  have hv := hv w ([], none)
  generalize w.foldl (fun (s : List Nat × Option D) c => (sa s.1 c, some (sD c))) ([], none) = q at efr hv
  have efr : evS (callF T (k + 1)) (.fr (.nm 2) (.seq (.var 0)) (strB s)) [.v (.str w), .own [], .un] = some (.nx (en q)) := efr
  have hv : q.1 = red w := hv.trans (red_sa w)
  have hj := join_of (r := .bor (sL (red w))) (w := red w) rfl (Nat.le_trans red_len hlim)
  have er := ret_v (callF T (k + 1)) (en q) (e := .mth .join (.c (.str [])) [.var 1]) (d := .str (red w)) (fun _ z => by cases z) (by simp [en, hv, hj])
  simp [strF, efr, er]
theorem lstr_ok (hs : T[s]? = some swF) (hi : T[i]? = some (lstrF s)) {w : List Nat} (h : Wd w) (hl : w.length ≤ big) : callF T (k + 2) i [.str w] = .ok (.v (.str (red w))) := by
  have hlim := Nat.le_trans hl big_lim
  have hbl : big < lim := by decide
  rw [callF_go hi rfl]
  show fin (evB (callF T (k + 1)) (lstrF s).body [.v (.str w), .un, .un]) = _
  let en : List Nat × Option D → Pd.Env := fun q => [.v (.str w), .own (sL q.1), osl q.2]
  have ef := forL_ix (e := sD) (f := frB (callF T (k + 1)) (.nm 2) (lstrB s)) en (fun s c => (sa s.1 c, some (sD c))) (fun i s => s.1.length ≤ i) w 0 ([], none) (Nat.le_refl _) fun i q c hi hq => by
    have hil := (List.getElem?_eq_some_iff.mp hi).1
    have hc := h c (List.mem_of_getElem? hi)
    have e1 := sw_ok (k := k) hs hc
    have hlt : q.1.length < lim := by omega
    refine ⟨?_, Nat.le_trans sa_len (by omega)⟩
    by_cases h0 : q.1 = []
    · simp [frB, tgS, lstrB, en, h0, sa_nil, sL, sD, tru]
    · obtain ⟨b, x, hb⟩ := snoc_of h0
      rw [hb] at hlt
      have e2 := last_sL b x
      have e3 : (sL (b ++ [x])).isEmpty = false := by rw [sL_snoc]; simp
      have hlt' : b.length + 1 < lim := by simpa using hlt
      have e5 : ¬ ((b.length : Int) + 1 ≤ 0) := by omega
      have e5 : (0 : Int) < (b.length : Int) + 1 := by omega
      have e4 : sL b ++ [sD x] = sL (b ++ [x]) := (sL_snoc b x).symm
      by_cases hx : x = sw c
      · subst hx
        simp only [frB, tgS, tgOk_nm, tgt_nm, en, hb, sa_snoc, lstrB]
        simp [sD, tru, e1, e2, e3, e5]
        simp [sL_snoc]
      · simp only [frB, tgS, tgOk_nm, tgt_nm, en, hb, sa_snoc, lstrB]
        simp [sD, tru, e1, e2, e3, e5, hx, hlt']
        simp [sL, sD]
  obtain ⟨ef, hs⟩ := ef
  have efr := fr_free (cf := callF T (k + 1)) (env := en ([], none)) (t := .nm 2) (it := .seq (.var 0)) (b := (lstrB s)) (ds := w.map sD) (by
    intro i hi xs z
    have hi : i = 0 := List.mem_singleton.mp hi
    subst hi
    cases z) (by simp [en]; exact fun _ _ => rfl)
  rw [ef] at efr
  have hv : ∀ (l : List Nat) (s : List Nat × Option D), (l.foldl (fun s c => (sa s.1 c, some (sD c))) s).1 = l.foldl sa s.1 := fun l => by
    induction l with
    | nil => exact fun s => rfl
    | cons a l ih => exact fun s => ih _
  have hv := hv w ([], none)
  generalize w.foldl (fun (s : List Nat × Option D) c => (sa s.1 c, some (sD c))) ([], none) = q at efr hv
  have efr : evS (callF T (k + 1)) (.fr (.nm 2) (.seq (.var 0)) (lstrB s)) [.v (.str w), .own [], .un] = some (.nx (en q)) := efr
  have hv : q.1 = red w := hv.trans (red_sa w)
  have hj := join_of (r := .bor (sL (red w))) (w := red w) rfl (Nat.le_trans red_len hlim)
  have er := ret_v (callF T (k + 1)) (en q) (e := .mth .join (.c (.str [])) [.var 1]) (d := .str (red w)) (fun _ z => by cases z) (by simp [en, hv, hj])
  simp [lstrF, efr, er]
end
end Wl
set_option Elab.async false
set_option linter.all false
set_option maxRecDepth 100000
set_option autoImplicit false
set_option maxHeartbeats 4000000
namespace Wl
open PySem Pd
/-! ### words as in a group -/
theorem run_red : ∀ (n : Nat) {w r : List Nat}, w.length ≤ n → Wd w → Wd r → Rd r → run r (red w) = run r w
  | 0, w, r, hl, _, _, _ => by
    have e : w = [] := List.eq_nil_of_length_eq_zero (by omega)
    subst e
    rfl
  | n + 1, w, r, hl, hw, hr, hd => by
    by_cases h : Rd w.reverse
    · rw [red_of hw h]
    · obtain ⟨a, b, x, e⟩ := not_Rd h
      have e2 : w = b.reverse ++ sw x :: x :: a.reverse := by
        have := congrArg List.reverse e
        rw [List.reverse_reverse] at this
        rw [this]
        simp
      subst e2
      have hx : isL x = true := hw x (by simp)
      have hb : Wd b.reverse := fun c hc => hw c (by simp [List.mem_reverse.mp hc])
      have ha : Wd a.reverse := fun c hc => hw c (by simp [List.mem_reverse.mp hc])
      have hl' : (b.reverse ++ a.reverse).length ≤ n := by
        simp at hl ⊢
        omega
      have q1 : run r (b.reverse ++ sw x :: x :: a.reverse) = run r (b.reverse ++ a.reverse) := run_pair hd hr hb hx
      have q2 : red (b.reverse ++ sw x :: x :: a.reverse) = red (b.reverse ++ a.reverse) := red_pair hb hx
      rw [q1, q2]
      exact run_red n hl' (hb.app ha) hr hd
theorem red_app {a b : List Nat} (ha : Wd a) (hb : Wd b) : red (red a ++ red b) = red (a ++ b) := by
  unfold red
  rw [run_app, run_app]
  have e1 : run [] (run [] a).reverse = run [] a := run_red a.length (w := a) (Nat.le_refl _) ha Wd.nil trivial
  have e2 : run (run [] a) (run [] b).reverse = run (run [] a) b := run_red b.length (w := b) (Nat.le_refl _) hb (run_Wd Wd.nil ha) (run_Rd trivial)
  rw [e1, e2]
theorem red_app_l {a b : List Nat} (ha : Wd a) (hb : Wd b) : red (red a ++ b) = red (a ++ b) := by
  rw [← red_app (red_Wd ha) hb, red_red ha, red_app ha hb]
theorem red_app_r {a b : List Nat} (ha : Wd a) (hb : Wd b) : red (a ++ red b) = red (a ++ b) := by
  rw [← red_app ha (red_Wd hb), red_red hb, red_app ha hb]
theorem und_app (a b : List Nat) : und (a ++ b) = und b ++ und a := by
  unfold und
  rw [List.reverse_append, List.map_append]
theorem und_und {w : List Nat} (h : Wd w) : und (und w) = w := by
  unfold und
  rw [← List.map_reverse, List.reverse_reverse, List.map_map]
  have : ∀ c ∈ w, (sw ∘ sw) c = c := fun c hc => sw_sw (h c hc)
  rw [List.map_congr_left this]
  simp
theorem Rd_app : ∀ {a b : List Nat} {x y : Nat}, Rd (a ++ [x]) → Rd (y :: b) → y ≠ sw x → Rd (a ++ x :: y :: b)
  | [], b, x, y, _, h2, h3 => ⟨h3, h2⟩
  | [c], b, x, y, h1, h2, h3 => ⟨h1.1, h3, h2⟩
  | c :: d :: a, b, x, y, h1, h2, h3 => ⟨h1.1, Rd_app (a := d :: a) h1.2 h2 h3⟩
theorem Rd_rev : ∀ {w : List Nat}, Wd w → Rd w → Rd w.reverse
  | [], _, _ => trivial
  | [_], _, _ => trivial
  | x :: y :: r, hw, h => by
    have ih := Rd_rev (w := y :: r) (fun c hc => hw c (List.mem_cons_of_mem _ hc)) h.2
    rw [List.reverse_cons] at ih ⊢
    rw [List.reverse_cons, List.append_assoc]
    refine Rd_app ih trivial fun e => h.1 ?_
    rw [e, sw_sw (hw y (by simp))]
theorem Rd_map : ∀ {w : List Nat}, Wd w → Rd w → Rd (w.map sw)
  | [], _, _ => trivial
  | [_], _, _ => trivial
  | x :: y :: r, hw, h => by
    refine ⟨fun e => h.1 ?_, Rd_map (w := y :: r) (fun c hc => hw c (List.mem_cons_of_mem _ hc)) h.2⟩
    have := congrArg sw e
    rw [sw_sw (hw y (by simp)), sw_sw (sw_L (hw x (by simp)))] at this
    exact this
theorem red_undone : ∀ (n : Nat) {w : List Nat}, w.length ≤ n → Wd w → red (und w) = und (red w)
  | 0, w, hl, _ => by
    have e : w = [] := List.eq_nil_of_length_eq_zero (by omega)
    subst e
    rfl
  | n + 1, w, hl, hw => by
    by_cases h : Rd w.reverse
    · rw [red_of hw h]
      refine red_of hw.und ?_
      unfold und
      exact Rd_rev (fun c hc => by
        obtain ⟨x, hx, rfl⟩ := List.mem_map.mp hc
        exact sw_L (hw x (List.mem_reverse.mp hx))) (Rd_map (fun c hc => hw c (List.mem_reverse.mp hc)) h)
    · obtain ⟨a, b, x, e⟩ := not_Rd h
      have e2 : w = b.reverse ++ sw x :: x :: a.reverse := by
        have := congrArg List.reverse e
        rw [List.reverse_reverse] at this
        rw [this]
        simp
      subst e2
      have hx : isL x = true := hw x (by simp)
      have hb : Wd b.reverse := fun c hc => hw c (by simp [List.mem_reverse.mp hc])
      have ha : Wd a.reverse := fun c hc => hw c (by simp [List.mem_reverse.mp hc])
      have hl' : (b.reverse ++ a.reverse).length ≤ n := by
        simp at hl ⊢
        omega
      have q2 : red (b.reverse ++ sw x :: x :: a.reverse) = red (b.reverse ++ a.reverse) := red_pair hb hx
      have q3 : und (b.reverse ++ sw x :: x :: a.reverse) = und a.reverse ++ sw x :: x :: und b.reverse := by
        rw [und_app]
        unfold und
        simp [sw_sw hx]
      rw [q2, q3, red_pair ha.und hx, ← und_app]
      exact red_undone n hl' (hb.app ha)
theorem red_und' {w : List Nat} (hw : Wd w) : red (und w) = und (red w) := red_undone w.length (Nat.le_refl _) hw
/-! ### detours -/
def det (a b : List Nat) : List Nat := a ++ b ++ und a ++ und b
theorem det_Wd {a b : List Nat} (ha : Wd a) (hb : Wd b) : Wd (det a b) := ((ha.app hb).app ha.und).app hb.und
theorem det_len {a b : List Nat} : (det a b).length = 2 * a.length + 2 * b.length := by
  unfold det
  simp [und_len]
  omega
theorem det_red {a b : List Nat} (ha : Wd a) (hb : Wd b) : red (det (red a) (red b)) = red (det a b) := by
  unfold det
  have e1 : red (red a ++ red b) = red (a ++ b) := red_app ha hb
  have ra := red_Wd ha
  have rb := red_Wd hb
  have e2 : und (red a) = red (und a) := (red_und' ha).symm
  have e3 : und (red b) = red (und b) := (red_und' hb).symm
  have ua := ha.und
  have ub := hb.und
  rw [e2, e3]
  rw [← red_app_l (((ra.app rb)).app (red_Wd ua)) (red_Wd ub), ← red_app_l (ra.app rb) (red_Wd ua), e1, red_app (ha.app hb) ua, red_app ((ha.app hb).app ua) ub]
theorem det_und {a b : List Nat} (ha : Wd a) (hb : Wd b) : und (det a b) = det b a := by
  unfold det
  rw [und_app, und_app, und_app, und_und ha, und_und hb]
  simp
theorem det_self {a : List Nat} (ha : Wd a) : red (det a a) = [] := by
  have e : det a a = (a ++ a) ++ und (a ++ a) := by
    unfold det
    rw [und_app]
    simp
  rw [e, red_und (ha.app ha)]
theorem det_nil_r {a : List Nat} (ha : Wd a) : red (det a []) = [] := by
  have e : det a [] = a ++ und a := by
    unfold det
    show a ++ [] ++ und a ++ [] = _
    simp
  rw [e, red_und ha]
theorem det_nil_l {a : List Nat} (ha : Wd a) : red (det [] a) = [] := by
  have e : det [] a = a ++ und a := by
    unfold det
    show [] ++ a ++ [] ++ und a = _
    simp
  rw [e, red_und ha]
/-! ### sums of signs -/
def esum (c : Nat) (w : List Nat) : Int := (w.count c : Int) - (w.count (sw c) : Int)
theorem esum_app (c : Nat) (a b : List Nat) : esum c (a ++ b) = esum c a + esum c b := by
  unfold esum
  rw [List.count_append, List.count_append]
  omega
theorem esum_pair {c x : Nat} (hc : isL c = true) (hx : isL x = true) : esum c [sw x, x] = 0 := by
  unfold esum
  by_cases e1 : x = c
  · subst e1
    have n1 : ¬ x = sw x := fun e => sw_ne e.symm
    simp [List.count_cons, sw_ne, n1]
  · by_cases e2 : x = sw c
    · subst e2
      have n1 : ¬ sw c = c := sw_ne
      simp [List.count_cons, sw_sw hc, n1, sw_ne]
      have : ¬ c = sw c := fun e => sw_ne e.symm
      simp [this]
    · have n3 : ¬ sw x = c := fun e => e2 (by rw [← e, sw_sw hx])
      have n4 : ¬ sw x = sw c := fun e => e1 (by rw [← sw_sw hx, e, sw_sw hc])
      simp [List.count_cons, e1, e2, n3, n4]
theorem esum_red (c : Nat) (hc : isL c = true) : ∀ (n : Nat) {w : List Nat}, w.length ≤ n → Wd w → esum c (red w) = esum c w
  | 0, w, hl, _ => by
    have e : w = [] := List.eq_nil_of_length_eq_zero (by omega)
    subst e
    rfl
  | n + 1, w, hl, hw => by
    by_cases h : Rd w.reverse
    · rw [red_of hw h]
    · obtain ⟨a, b, x, e⟩ := not_Rd h
      have e2 : w = b.reverse ++ sw x :: x :: a.reverse := by
        have := congrArg List.reverse e
        rw [List.reverse_reverse] at this
        rw [this]
        simp
      subst e2
      have hx : isL x = true := hw x (by simp)
      have hb : Wd b.reverse := fun c hc => hw c (by simp [List.mem_reverse.mp hc])
      have ha : Wd a.reverse := fun c hc => hw c (by simp [List.mem_reverse.mp hc])
      have hl' : (b.reverse ++ a.reverse).length ≤ n := by
        simp at hl ⊢
        omega
      rw [red_pair hb hx, esum_red c hc n hl' (hb.app ha), esum_app, esum_app, show sw x :: x :: a.reverse = [sw x, x] ++ a.reverse from rfl, esum_app, esum_pair hc hx]
      omega
theorem count_und {c : Nat} (hc : isL c = true) {w : List Nat} (hw : Wd w) : (und w).count c = w.count (sw c) := by
  unfold und
  induction w with
  | nil => rfl
  | cons x w ih =>
    have ih := ih fun y hy => hw y (List.mem_cons_of_mem _ hy)
    have hx := hw x List.mem_cons_self
    rw [List.reverse_cons, List.map_append, List.count_append, ih, List.count_cons, List.map_singleton, List.count_singleton]
    by_cases e : x = sw c
    · subst e
      simp [sw_sw hc]
    · have n : ¬ sw x = c := fun z => e (by rw [← z, sw_sw hx])
      simp [e, n]
theorem esum_und {c : Nat} (hc : isL c = true) {w : List Nat} (hw : Wd w) : esum c (und w) = - esum c w := by
  unfold esum
  rw [count_und hc hw, count_und (sw_L hc) hw, sw_sw hc]
  omega
theorem esum_det {c : Nat} (hc : isL c = true) {a b : List Nat} (ha : Wd a) (hb : Wd b) : esum c (red (det a b)) = 0 := by
  rw [esum_red c hc _ (Nat.le_refl _) (det_Wd ha hb)]
  unfold det
  rw [esum_app, esum_app, esum_app, esum_und hc ha, esum_und hc hb]
  omega
end Wl
set_option Elab.async false
set_option linter.all false
set_option maxRecDepth 100000
set_option autoImplicit false
set_option maxHeartbeats 4000000
namespace Wl
open PySem Pd
/-! ### drawn alphabets and words -/
structure Al (a : List Nat) : Prop where
  lo : ∀ c ∈ a, 97 ≤ c ∧ c ≤ 122
  up : a.Pairwise (· < ·)
  n1 : 1 ≤ a.length
  n4 : a.length ≤ 4
theorem Al.wd {a : List Nat} (h : Al a) : Wd a := fun c hc => isL_to (.inl (h.lo c hc))
def abc : List Nat := [97, 98, 99, 100, 101, 102, 103, 104, 105, 106, 107, 108, 109, 110, 111, 112, 113, 114, 115, 116, 117, 118, 119, 120, 121, 122]
theorem abc_get {i : Nat} (h : i < 26) : abc[i]? = some (97 + i) := by
  revert i
  decide
def sgs (a : List Nat) : List Nat := a ++ a.map up
theorem up_L {c : Nat} (h : isL c = true) : isL (up c) = true := by
  apply isL_to
  unfold up
  rcases isL_of h with z | z
  · rw [if_pos z.1]; omega
  · rw [if_neg (show ¬ 97 ≤ c by omega)]; omega
theorem sgs_wd {a : List Nat} (h : Wd a) : Wd (sgs a) := h.app fun c hc => by
  obtain ⟨x, hx, rfl⟩ := List.mem_map.mp hc
  exact up_L (h x hx)
def lword (a : List Nat) (row : List Int) (many : Nat) : List Nat := (List.range many).map fun k => (sgs a).getD ((row.getD k 0) % ((sgs a).length : Int)).toNat 0
theorem lword_len {a : List Nat} {row : List Int} {many : Nat} : (lword a row many).length = many := by
  unfold lword
  rw [List.length_map, List.length_range]
theorem sgs_at {a : List Nat} (h0 : a ≠ []) (x : Int) : (x % ((sgs a).length : Int)).toNat < (sgs a).length ∧ 0 ≤ x % ((sgs a).length : Int) := by
  have hp : 0 < (sgs a).length := by
    unfold sgs
    rw [List.length_append]
    have := List.length_pos_iff.mpr h0
    omega
  have h1 := Int.emod_nonneg x (show ((sgs a).length : Int) ≠ 0 by omega)
  have h2 := Int.emod_lt_of_pos x (show (0 : Int) < ((sgs a).length : Int) by omega)
  exact ⟨by omega, h1⟩
theorem lword_mem {a : List Nat} {row : List Int} {many : Nat} (h0 : a ≠ []) : ∀ c ∈ lword a row many, c ∈ sgs a := fun c hc => by
  obtain ⟨k, _, rfl⟩ := List.mem_map.mp hc
  have := (sgs_at h0 (row.getD k 0)).1
  rw [List.getD_eq_getElem?_getD, List.getElem?_eq_getElem this]
  exact List.getElem_mem this
theorem lword_wd {a : List Nat} {row : List Int} {many : Nat} (h : Wd a) (h0 : a ≠ []) : Wd (lword a row many) := fun c hc => sgs_wd h c (lword_mem h0 c hc)
def lwordE0 : E := .cmpr (.var 4) (.nm 4) (.seq (.var 0)) [] [4]
def lwordE1 : E := .cmpr (.mth .upper (.var 4) []) (.nm 4) (.seq (.var 0)) [] [4]
def lwordE2 : E := .cmpr (.idx (.var 3) (.bin .mod (.blt .int [(.idx (.var 1) (.var 5))]) (.blt .len [(.var 3)]))) (.nm 5) (.rng [(.var 2)]) [] [5]
def lwordF : Fn := ⟨6, 3, [(.frz [4] (.asg (.nm 3) (.bin .add lwordE0 lwordE1))),
    (.ret (.mth .join (.c (.str [])) [lwordE2]))]⟩
def fourB : List S := [(.asg (.nm 3) (.bin .add (.bin .add (.var 3) (.c (.int 1))) (.bin .mod (.blt .int [(.idx (.var 0) (.bin .add (.c (.int 1)) (.var 4)))]) (.bin .sub (.bin .add (.bin .sub (.c (.int 25)) (.idx (.var 0) (.c (.int 0)))) (.var 4)) (.var 3))))),
    (.asg (.nm 2) (.bin .add (.var 2) (.idx (.var 1) (.var 3))))]
def fourF : Fn := ⟨5, 1, [(.asg (.nm 1) (.c (.str [97, 98, 99, 100, 101, 102, 103, 104, 105, 106, 107, 108, 109, 110, 111, 112, 113, 114, 115, 116, 117, 118, 119, 120, 121, 122]))),
    (.asg (.nm 2) (.c (.str []))),
    (.asg (.nm 3) (.neg (.c (.int 1)))),
    (.fr (.nm 4) (.rng [(.bin .add (.c (.int 1)) (.idx (.var 0) (.c (.int 0))))]) fourB),
    (.ret (.var 2))]⟩
def sumsE : E := .cmpr (.bin .sub (.mth .count (.var 1) [(.var 2)]) (.mth .count (.var 1) [(.mth .upper (.var 2) [])])) (.nm 2) (.seq (.var 0)) [] [2]
def sumsF : Fn := ⟨3, 2, [(.ret (.blt .tuple [sumsE]))]⟩
section
variable {T : List Fn} {k i : Nat}
theorem lword_ok (hi : T[i]? = some lwordF) {a : List Nat} {row : List Int} {many : Nat} (h : Wd a) (h0 : a ≠ []) (hl : a.length ≤ 1000) (hm : many ≤ row.length) (hm2 : many ≤ 100000) :
    callF T (k + 1) i [.str a, .lst (iL row), .int many] = .ok (.v (.str (lword a row many))) := by
  rw [callF_go hi rfl]
  show fin (evB (callF T k) lwordF.body [.v (.str a), .v (.lst (iL row)), .v (.int many), .un, .un, .un]) = _
  have hlim : (100000 : Nat) < lim := by decide
  have e0 : evE (callF T k) lwordE0 [.v (.str a), .v (.lst (iL row)), .v (.int many), .un, .un, .un] = .ok (.own (sL a)) := by
    unfold lwordE0
    refine (comp_all (l := a) (s := sD) (g := sD) (fun c => [.v (.str a), .v (.lst (iL row)), .v (.int many), .un, .v (sD c), .un]) ?_ (by omega) ?_ ?_)
    · simp; exact fun _ _ => rfl
    · intro q _; simp
    · intro c _; simp
  have e1 : evE (callF T k) lwordE1 [.v (.str a), .v (.lst (iL row)), .v (.int many), .un, .un, .un] = .ok (.own (sL (a.map up))) := by
    unfold lwordE1
    refine (comp_all (l := a) (s := sD) (g := fun c => sD (up c)) (fun c => [.v (.str a), .v (.lst (iL row)), .v (.int many), .un, .v (sD c), .un]) ?_ (by omega) ?_ ?_).trans ?_
    · simp; exact fun _ _ => rfl
    · intro q _; simp
    · intro c hc
      have := up_ok (h c hc)
      simp [sD, this]
    · rw [sL, List.map_map]; rfl
  have e2 : bAdd (.own (sL a)) (.own (sL (a.map up))) = .ok (.own (sL (sgs a))) := by
    rw [bAdd_oo (by simp; omega)]
    unfold sgs sL
    rw [List.map_append]
  refine fin_step [.v (.str a), .v (.lst (iL row)), .v (.int many), .own (sL (sgs a)), .un, .un] (by simp [e0, e1, e2]) ?_
  have e3 : evE (callF T k) lwordE2 [.v (.str a), .v (.lst (iL row)), .v (.int many), .own (sL (sgs a)), .un, .un] = .ok (.own (sL (lword a row many))) := by
    unfold lwordE2
    refine (comp_all (l := List.range many) (s := fun (j : Nat) => .int j) (g := fun j => sD ((sgs a).getD ((row.getD j 0) % ((sgs a).length : Int)).toNat 0)) (fun j => [.v (.str a), .v (.lst (iL row)), .v (.int many), .own (sL (sgs a)), .un, .v (.int j)]) ?_ (by rw [List.length_range]; omega) ?_ ?_).trans ?_
    · simp [doRng_1 (show many ≤ lim by omega)]
    · intro q _; simp
    · intro j hj
      rw [List.mem_range] at hj
      have hjr : j < row.length := by omega
      have g1 := getI_l (xs := iL row) (j := j) (iL_get (List.getElem?_eq_getElem hjr))
      obtain ⟨s1, s2⟩ := sgs_at h0 row[j]
      have hp : (0 : Int) < ((sgs a).length : Int) := by omega
      have m1 := bMod_of (i := row[j]) (j := ((sgs a).length : Int)) hp
      have g2 : getI (.bor (sL (sgs a))) (.v (.int (row[j] % ((sgs a).length : Int)))) = .ok (.v (sD (sgs a)[(row[j] % ((sgs a).length : Int)).toNat])) := by
        have := getI_b (xs := sL (sgs a)) (j := (row[j] % ((sgs a).length : Int)).toNat) (d := sD (sgs a)[(row[j] % ((sgs a).length : Int)).toNat]) (by
          rw [sL, List.getElem?_map, List.getElem?_eq_getElem s1]; rfl)
        rw [Int.toNat_of_nonneg s2] at this
        exact this
      have g3 : row.getD j 0 = row[j] := by rw [List.getD_eq_getElem?_getD, List.getElem?_eq_getElem hjr]; rfl
      have g4 : (sgs a).getD (row[j] % ((sgs a).length : Int)).toNat 0 = (sgs a)[(row[j] % ((sgs a).length : Int)).toNat] := by rw [List.getD_eq_getElem?_getD, List.getElem?_eq_getElem s1]; rfl
      simp only [evE_idx, evE_var, look_s, look_o, look_v, bind_okD, evE_bin, evE_blt, evL_cons, evL_nil, g1, blt_int, bInt_i, blt_len, bLen_b, sL_len, bop_mod, m1, g2, fz_v]
      rw [g3, g4]
    · rw [sL, lword, List.map_map]; rfl
  have hj := join_of (r := .own (sL (lword a row many))) (w := lword a row many) rfl (by rw [lword_len]; omega)
  have er := ret_v (callF T k) [.v (.str a), .v (.lst (iL row)), .v (.int many), .own (sL (sgs a)), .un, .un] (e := .mth .join (.c (.str [])) [lwordE2]) (d := .str (lword a row many)) (fun _ z => by cases z) (by simp [e3, hj])
  rw [evB_stop er]
  rfl
theorem four_ok (hi : T[i]? = some fourF) {row : List Int} {r0 : Nat} (h0 : row[0]? = some (r0 : Int)) (hr : r0 ≤ 3) (hl : r0 + 2 ≤ row.length) :
    ∃ a, callF T (k + 1) i [.lst (iL row)] = .ok (.v (.str a)) ∧ Al a ∧ a.length = r0 + 1 := by
  rw [callF_go hi rfl]
  show ∃ a, fin (evB (callF T k) fourF.body [.v (.lst (iL row)), .un, .un, .un, .un]) = _ ∧ _
  have g0 : getI (.v (.lst (iL row))) (.v (.int 0)) = .ok (.v (.int (r0 : Int))) := getI_l (j := 0) (iL_get h0)
  have loop : ∀ (n j : Nat) (a : List Nat) (at_ : Int) (o : Option D), j + n = r0 + 1 → a.length = j → (∀ c ∈ a, 97 ≤ c ∧ (c : Int) ≤ 97 + at_) → a.Pairwise (· < ·) → -1 ≤ at_ → at_ < 25 - (r0 : Int) + (j : Int) →
      ∃ a' at' o', forL (frB (callF T k) (.nm 4) fourB) ((List.range' j n).map fun (m : Nat) => D.int (m : Int)) [.v (.lst (iL row)), .v (.str abc), .v (.str a), .v (.int at_), osl o] = some (.nx [.v (.lst (iL row)), .v (.str abc), .v (.str a'), .v (.int at'), osl o']) ∧
        a'.length = r0 + 1 ∧ (∀ c ∈ a', 97 ≤ c ∧ c ≤ 122) ∧ a'.Pairwise (· < ·) := by
    intro n
    induction n with
    | zero =>
      intro j a at_ o hj hl hc hp h1 h2
      refine ⟨a, at_, o, rfl, by omega, fun c hm => ?_, hp⟩
      have := hc c hm
      omega
    | succ n ih =>
      intro j a at_ o hj hla hc hp h1 h2
      have hx : (1 + j) < row.length := by omega
      have g1 : getI (.v (.lst (iL row))) (.v (.int (1 + (j : Int)))) = .ok (.v (.int row[1 + j])) := by
        have := getI_l (iL_get (List.getElem?_eq_getElem hx))
        rw [show ((1 + j : Nat) : Int) = 1 + (j : Int) by omega] at this
        exact this
      have hm : (0 : Int) < 25 - (r0 : Int) + (j : Int) - at_ := by omega
      have m1 := bMod_of (i := row[1 + j]) hm
      have q1 := Int.emod_nonneg row[1 + j] (show 25 - (r0 : Int) + (j : Int) - at_ ≠ 0 by omega)
      have q2 := Int.emod_lt_of_pos row[1 + j] hm
      generalize row[1 + j] % (25 - (r0 : Int) + (j : Int) - at_) = x at m1 q1 q2
      obtain ⟨at2, e2⟩ : ∃ m : Nat, at_ + 1 + x = (m : Int) := ⟨(at_ + 1 + x).toNat, by omega⟩
      have h26 : at2 < 26 := by omega
      have g2 := getI_str (l := abc) (by decide) (abc_get h26)
      rw [← e2] at g2
      have g3 := bAdd_ss (a := a) (b := [97 + at2]) (by
        have : (1000 : Nat) ≤ lim := by decide
        simp
        omega)
      have step : frB (callF T k) (.nm 4) fourB (.int (j : Int)) [.v (.lst (iL row)), .v (.str abc), .v (.str a), .v (.int at_), osl o] =
          some (.nx [.v (.lst (iL row)), .v (.str abc), .v (.str (a ++ [97 + at2])), .v (.int (at_ + 1 + x)), osl (some (.int (j : Int)))]) := by
        simp [frB, tgS, fourB, g0, g1, m1, g2, g3]
      obtain ⟨a', at', o', e1, e2', e3, e4⟩ := ih (j + 1) (a ++ [97 + at2]) (at_ + 1 + x) (some (.int (j : Int))) (by omega) (by simp; omega) (fun c hm => by
          rcases List.mem_append.mp hm with hm | hm
          · have := hc c hm
            omega
          · have : c = 97 + at2 := by simpa using hm
            omega) (by
          rw [List.pairwise_append]
          refine ⟨hp, List.pairwise_singleton _ _, fun c hcm d hd => ?_⟩
          have : d = 97 + at2 := by simpa using hd
          have := hc c hcm
          omega) (by omega) (by omega)
      refine ⟨a', at', o', ?_, e2', e3, e4⟩
      rw [List.range'_succ, List.map_cons, forL, step]
      exact e1
  obtain ⟨a, at', o', e1, e2, e3, e4⟩ := loop (r0 + 1) 0 [] (-1) none (by omega) rfl (fun c hc => by cases hc) List.Pairwise.nil (by omega) (by omega)
  have efr := fr_free (cf := callF T k) (env := [.v (.lst (iL row)), .v (.str abc), .v (.str []), .v (.int (-1)), .un]) (t := .nm 4) (it := .rng [(.bin .add (.c (.int 1)) (.idx (.var 0) (.c (.int 0))))]) (b := fourB) (ds := (List.range (r0 + 1)).map fun (m : Nat) => D.int (m : Int)) (by
    intro i hi xs z
    cases hi) (by
      have := doRng_1 (n := r0 + 1) (by have : (1000 : Nat) ≤ lim := by decide
                                        omega)
      rw [show ((r0 + 1 : Nat) : Int) = 1 + (r0 : Int) by omega] at this
      simp [g0, this])
  rw [List.range_eq_range'] at efr
  have efr := efr.trans e1
  refine ⟨a, ?_, ⟨e3, e4, by omega, by omega⟩, e2⟩
  show fin (evB (callF T k) [_, _, _, _, _] _) = _
  refine fin_step [.v (.lst (iL row)), .v (.str abc), .un, .un, .un] (by simp [abc]) ?_
  refine fin_step [.v (.lst (iL row)), .v (.str abc), .v (.str []), .un, .un] (by simp) ?_
  refine fin_step [.v (.lst (iL row)), .v (.str abc), .v (.str []), .v (.int (-1)), .un] (by simp) ?_
  refine fin_step _ efr ?_
  simp
@[simp] theorem mth_count : doMth .count = mCount := rfl
theorem count_ok (w : List Nat) (c : Nat) : mCount (.v (.str w)) [.v (.str [c])] = .ok (.v (.int (w.count c))) := by
  show dInt (Txt.count ⟨w.toArray⟩ ⟨[c].toArray⟩) = _
  rw [show (⟨[c].toArray⟩ : Str) = ⟨#[c]⟩ from rfl, count_one]
  rfl
theorem sums_ok (hi : T[i]? = some sumsF) {a w : List Nat} (h : Wd a) (hl : a.length ≤ 1000) : callF T (k + 1) i [.str a, .str w] = .ok (.v (.tup (iL (a.map fun c => (w.count c : Int) - (w.count (up c) : Int))))) := by
  rw [callF_go hi rfl]
  show fin (evB (callF T k) sumsF.body [.v (.str a), .v (.str w), .un]) = _
  have hlim : (1000 : Nat) < lim := by decide
  have e0 : evE (callF T k) sumsE [.v (.str a), .v (.str w), .un] = .ok (.own (iL (a.map fun c => (w.count c : Int) - (w.count (up c) : Int)))) := by
    unfold sumsE
    refine (comp_all (l := a) (s := sD) (g := fun c => .int ((w.count c : Int) - (w.count (up c) : Int))) (fun c => [.v (.str a), .v (.str w), .v (sD c)]) ?_ (by omega) ?_ ?_).trans ?_
    · simp; exact fun _ _ => rfl
    · intro q _; simp
    · intro c hc
      have := up_ok (h c hc)
      simp [sD, this, count_ok]
    · rw [iL_map]
  have er := ret_v (callF T k) [.v (.str a), .v (.str w), .un] (e := .blt .tuple [sumsE]) (d := .tup (iL (a.map fun c => (w.count c : Int) - (w.count (up c) : Int)))) (fun _ z => by cases z) (by simp [e0])
  show fin (evB (callF T k) [_] _) = _
  rw [evB_stop er]
  rfl
end
end Wl
set_option Elab.async false
set_option linter.all false
set_option maxRecDepth 100000
set_option autoImplicit false
set_option maxHeartbeats 4000000
namespace Pd
open PySem L2
section
variable {cf : Nat → List D → Out Rv} {env : Env}
@[simp] theorem evS_rais (c : Nat) (nm : List Str) (es : List E) : evS cf (.rais c nm es) env = (evA cf es env).st env fun ds => if ds.length = nm.length then some (.rs ⟨c, (nm.zip ds).reverse⟩ env) else none := by simp only [evS]
@[simp] theorem evS_try (l : List Nat) (oi : Option Nat) (b s : List S) : evS cf (.tryX l oi b s) env = catX l oi (evB cf s) (evB cf b env) := by simp only [evS]
@[simp] theorem evS_ex (e : E) : evS cf (.ex e) env = (evE cf e env).st env fun _ => some (.nx env) := by simp only [evS]
@[simp] theorem seq_rs (x : Xc) (e : Env) (h : Env → Option Fl) : seqF (some (.rs x e)) h = some (.rs x e) := rfl
@[simp] theorem fin_rs (x : Xc) (e : Env) : fin (some (.rs x e)) = .exc x := rfl
@[simp] theorem st_exc {α : Type} (x : Xc) (g : α → Option Fl) : (Out.exc x).st env g = some (.rs x env) := rfl
@[simp] theorem bind_exc {α β : Type} (x : Xc) (f : α → Out β) : (Out.exc x).bind f = .exc x := rfl
@[simp] theorem cop_in : cop .in_ = cIn false := rfl
@[simp] theorem cop_notIn : cop .notIn = cIn true := rfl
@[simp] theorem evE_fld (i : Nat) (f : Str) : evE cf (.fld i f) env = fldO env i f := by simp only [evE]
@[simp] theorem evE_isX (i : Nat) (l : List Nat) : evE cf (.isX i l) env = isO env i l := by simp only [evE]
@[simp] theorem evT_isX (i : Nat) (l : List Nat) : evT cf (.isX i l) env = (isO env i l).bind tru := by simp only [evT]
@[simp] theorem evT_chn (o p : COp) (a b d : E) : evT cf (.chn o p a b d) env = (evE cf a env).bind fun x => (evE cf b env).bind fun y => (cop o x y).bind fun r => (asB r).bind fun k => if k then (evE cf d env).bind fun z => (cop p y z).bind asB else .ok false := by simp only [evT]
@[simp] theorem tru_b (b : Bool) : tru (.v (.bl b)) = .ok b := rfl
@[simp] theorem forL_nil (f : D → Env → Option Fl) : forL f [] env = some (.nx env) := rfl
theorem cIn_c (n : Bool) (c : Nat) (z : List Nat) : cIn n (.v (.str [c])) (.v (.str z)) = .ok (.v (.bl (if n then !decide (c ∈ z) else decide (c ∈ z)))) := rfl
theorem cLt_cc (a b : Nat) : cLt (.v (.str [a])) (.v (.str [b])) = .ok (.v (.bl (decide (a < b)))) := by
  show dBl (decide (([a] : List Nat) < [b])) = _
  have e : (([a] : List Nat) < [b]) ↔ a < b := by
    constructor
    · intro h
      cases h with
      | rel h => exact h
      | cons h => cases h
    · exact List.Lex.rel
  rw [dBl_ok, decide_eq_decide.mpr e]
end
/-- a loop that tests each item and returns -/
theorem forL_chk {α : Type} {f : D → Env → Option Fl} {e : α → D} (en : Option D → Env) (p : α → Bool) (x : Rv) : ∀ (l : List α) (o : Option D), (∀ a ∈ l, ∀ o, p a = true → f (e a) (en o) = some (.nx (en (some (e a))))) → (∀ a ∈ l, ∀ o, p a = false → f (e a) (en o) = some (.rt x)) →
    (l.all p = true → ∃ o', forL f (l.map e) (en o) = some (.nx (en o'))) ∧ (l.all p = false → forL f (l.map e) (en o) = some (.rt x))
  | [], o, _, _ => ⟨fun _ => ⟨o, rfl⟩, fun h => by cases h⟩
  | a :: l, o, h1, h2 => by
    obtain ⟨i1, i2⟩ := forL_chk en p x l (some (e a)) (fun b hb => h1 b (List.mem_cons_of_mem _ hb)) (fun b hb => h2 b (List.mem_cons_of_mem _ hb))
    rw [List.all_cons, List.map_cons, forL]
    cases hp : p a with
    | true =>
      rw [h1 a List.mem_cons_self o hp, Bool.true_and]
      exact ⟨i1, i2⟩
    | false =>
      rw [h2 a List.mem_cons_self o hp, Bool.false_and]
      exact ⟨fun h => (by cases h), fun _ => rfl⟩
end Pd
namespace Wl
open PySem Pd
/-! ### .upper() of many letters -/
theorem upper_tab : ∀ c, c < 128 → isL c = true → Unicode.upperOf c = [up c] := by decide +kernel
theorem upper_list {w : List Nat} (h : Wd w) (hl : w.length ≤ 1000000) : mUpper (.v (.str w)) [] = .ok (.v (.str (w.map up))) := by
  show (if w.length ≤ 5592405 then Out.ok (Rv.v (.str ((Txt.upper ⟨w.toArray⟩).cps.toList))) else .stk) = _
  have hl2 : w.length ≤ 5592405 := by omega
  rw [if_pos hl2]
  have e : (Txt.upper ⟨w.toArray⟩).cps.toList = w.map up := by
    show ((w.toArray.mapIdx fun i c => (Unicode.upperOf c).toArray).flatten).toList = _
    rw [Array.toList_flatten]
    have e1 : ∀ (l : List Nat), (l.mapIdx fun _ c => (Unicode.upperOf c).toArray) = l.map fun c => (Unicode.upperOf c).toArray := fun l => List.ext_getElem (by simp) (by intros; simp)
    simp only [Array.toList_mapIdx, e1, List.map_map]
    have e2 : ∀ c ∈ w, (Array.toList ∘ fun c => (Unicode.upperOf c).toArray) c = [up c] := fun c hc => by
      show (Unicode.upperOf c).toArray.toList = _
      rw [upper_tab c (isL_lt (h c hc)) (h c hc)]
    rw [List.map_congr_left e2]
    clear h hl hl2 e2
    induction w with
    | nil => rfl
    | cons c w ih => rw [List.map_cons, List.flatten_cons, ih]; rfl
  rw [e]
/-! ### alphabets and words of them -/
def incr (v : List Nat) : Bool := (List.range (v.length - 1)).all fun i => decide (v.getD i 0 < v.getD (i + 1) 0)
def isAl (v : List Nat) : Bool := decide (1 ≤ v.length ∧ v.length ≤ 4) && v.all (fun c => decide (c ∈ abc)) && incr v
def isWd (a v : List Nat) : Bool := v.all fun c => decide (c ∈ sgs a)
theorem abc_mem {c : Nat} : c ∈ abc ↔ 97 ≤ c ∧ c ≤ 122 := by
  constructor
  · intro h
    have : abc.all (fun c => decide (97 ≤ c) && decide (c ≤ 122)) = true := by decide
    have := List.all_eq_true.mp this c h
    simpa using this
  · intro h
    have := abc_get (i := c - 97) (by omega)
    rw [show 97 + (c - 97) = c by omega] at this
    exact List.mem_of_getElem? this
theorem Al.ok {a : List Nat} (h : Al a) : isAl a = true := by
  unfold isAl incr
  rw [Bool.and_eq_true, Bool.and_eq_true]
  refine ⟨⟨decide_eq_true ⟨h.n1, h.n4⟩, List.all_eq_true.mpr fun c hc => decide_eq_true (abc_mem.mpr (h.lo c hc))⟩, List.all_eq_true.mpr fun i hi => decide_eq_true ?_⟩
  rw [List.mem_range] at hi
  have h1 : i < a.length := by omega
  have h2 : i + 1 < a.length := by omega
  rw [List.getD_eq_getElem?_getD, List.getD_eq_getElem?_getD, List.getElem?_eq_getElem h1, List.getElem?_eq_getElem h2]
  exact List.pairwise_iff_getElem.mp h.up i (i + 1) h1 h2 (by omega)
def isAlB0 : List S := [(.ifs (.cmp .notIn (.var 1) (.c (.str [97, 98, 99, 100, 101, 102, 103, 104, 105, 106, 107, 108, 109, 110, 111, 112, 113, 114, 115, 116, 117, 118, 119, 120, 121, 122])))
    [(.ret (.c (.bl false)))]
    [])]
def isAlB1 : List S := [(.ifs (.nt (.cmp .lt (.idx (.var 0) (.bin .sub (.var 2) (.c (.int 1)))) (.idx (.var 0) (.var 2))))
    [(.ret (.c (.bl false)))]
    [])]
def isAlF : Fn := ⟨3, 1, [(.ifs (.nt (.chn .le .le (.c (.int 1)) (.blt .len [(.var 0)]) (.c (.int 4))))
    [(.ret (.c (.bl false)))]
    []),
    (.fr (.nm 1) (.seq (.var 0)) isAlB0),
    (.fr (.nm 2) (.rng [(.c (.int 1)), (.blt .len [(.var 0)])]) isAlB1),
    (.ret (.c (.bl true)))]⟩
def isWdB : List S := [(.ifs (.cmp .notIn (.var 3) (.var 2))
    [(.ret (.c (.bl false)))]
    [])]
def isWdF : Fn := ⟨4, 2, [(.asg (.nm 2) (.bin .add (.var 0) (.mth .upper (.var 0) []))),
    (.fr (.nm 3) (.seq (.var 1)) isWdB),
    (.ret (.c (.bl true)))]⟩
def chkAlF (f : Nat) : Fn := ⟨1, 1, [(.frz [0] (.ifs (.nt (.call f [(.var 0)]))
    [(.frz [0] (.rais 0 ["alphabet"] [(.var 0)]))]
    []))]⟩
def chkWdF (f : Nat) : Fn := ⟨2, 2, [(.frz [0, 1] (.ifs (.nt (.call f [(.var 0), (.var 1)]))
    [(.frz [1] (.rais 1 ["word"] [(.var 1)]))]
    []))]⟩
def chkWdsB (f : Nat) : List S := [(.frz [0, 2] (.ex (.call f [(.var 0), (.var 2)])))]
def chkWdsF (f g : Nat) : Fn := ⟨3, 2, [(.frz [0] (.ex (.call f [(.var 0)]))),
    (.fr (.nm 2) (.seq (.var 1)) (chkWdsB g))]⟩
def sgIdxF : Fn := ⟨2, 2, [(.ret (.mth .index (.var 0) [(.mth .lower (.var 1) [])]))]⟩
def sgDirF : Fn := ⟨1, 1, [(.ifs (.cmp .eq (.var 0) (.mth .lower (.var 0) []))
    [(.ret (.c (.int 1)))]
    []),
    (.ret (.neg (.c (.int 1))))]⟩
section
variable {T : List Fn} {k i f g : Nat}
theorem rng_1 {n : Nat} (h : n ≤ 1000000) : doRng [.v (.int 1), .v (.int (n : Int))] = .ok ((List.range (n - 1)).map fun (j : Nat) => D.int (1 + (j : Int))) := by
  have e : ∀ i j : Int, doRng [.v (.int i), .v (.int j)] = if (decide (-(2 ^ 62) ≤ i) && decide (i < 2 ^ 62) && decide (-(2 ^ 62) ≤ j) && decide (j < 2 ^ 62) && decide ((j - i).toNat ≤ lim)) = true then .ok (rngL i (j - i).toNat) else .stk := fun _ _ => rfl
  have hlim : (1000000 : Nat) ≤ lim := by decide
  have d1 : decide (-(2 ^ 62) ≤ (1 : Int)) = true := by decide
  have d2 : decide ((1 : Int) < 2 ^ 62) = true := by decide
  have d3 : decide (-(2 ^ 62) ≤ (n : Int)) = true := decide_eq_true (by omega)
  have d4 : decide ((n : Int) < 2 ^ 62) = true := decide_eq_true (by omega)
  have d5 : decide (((n : Int) - 1).toNat ≤ lim) = true := decide_eq_true (by omega)
  rw [e, d1, d2, d3, d4, d5, if_pos (by rfl), rngL_eq, show ((n : Int) - 1).toNat = n - 1 by omega]
theorem isAl_fn (hi : T[i]? = some isAlF) {v : List Nat} (hl : v.length ≤ 1000) : callF T (k + 1) i [.str v] = .ok (.v (.bl (isAl v))) := by
  rw [callF_go hi rfl]
  show fin (evB (callF T k) isAlF.body [.v (.str v), .un, .un]) = _
  have hlim : (1000 : Nat) ≤ lim := by decide
  have hlen := bLen_str (l := v) (by omega)
  have rf : ∀ env, evS (callF T k) (.ret (.c (.bl false))) env = some (.rt (.v (.bl false))) := fun env => ret_v _ _ (fun _ z => by cases z) (by simp)
  have rt : ∀ env, evS (callF T k) (.ret (.c (.bl true))) env = some (.rt (.v (.bl true))) := fun env => ret_v _ _ (fun _ z => by cases z) (by simp)
  by_cases h1 : 1 ≤ v.length ∧ v.length ≤ 4
  · have hh : evS (callF T k) (.ifs (.nt (.chn .le .le (.c (.int 1)) (.blt .len [(.var 0)]) (.c (.int 4)))) [(.ret (.c (.bl false)))] []) [.v (.str v), .un, .un] = some (.nx [.v (.str v), .un, .un]) := by
      have d1 : decide ((1 : Int) ≤ (v.length : Int)) = true := decide_eq_true (by omega)
      have d2 : decide ((v.length : Int) ≤ 4) = true := decide_eq_true (by omega)
      simp only [evS_ifs, evT_nt, evT_chn, evE_c, evE_blt, evL_cons, evL_nil, evE_var, look_v, bind_okD, blt_len, hlen, cop_le, cLe_ii, asB_bl, d1, d2, if_true, Bool.not_true, st_ok, Bool.false_eq_true, if_false, evB_nil]
    refine fin_step _ hh ?_
    obtain ⟨c1, c2⟩ := forL_chk (f := frB (callF T k) (.nm 1) isAlB0) (e := sD) (fun o => [.v (.str v), osl o, .un]) (fun c => decide (c ∈ abc)) (.v (.bl false)) v none (fun c hc o hp => by
        have hm : c ∈ [97, 98, 99, 100, 101, 102, 103, 104, 105, 106, 107, 108, 109, 110, 111, 112, 113, 114, 115, 116, 117, 118, 119, 120, 121, 122] := of_decide_eq_true hp
        simp only [frB, tgS, tgOk_nm, stOk_s, stOk_os, if_true, tgt_nm, Option.bind_some, isAlB0, List.set_cons_succ, List.set_cons_zero, evB_cons, evS_ifs, evT_cmp, evE_var, look_s, look_v, bind_okD, evE_c, cop_notIn, sD, cIn_c, decide_eq_true hm, Bool.not_true, asB_bl, st_ok, Bool.false_eq_true, if_false, evB_nil, seq_nx, osl_some]) (fun c hc o hp => by
        have hm : ¬ c ∈ [97, 98, 99, 100, 101, 102, 103, 104, 105, 106, 107, 108, 109, 110, 111, 112, 113, 114, 115, 116, 117, 118, 119, 120, 121, 122] := of_decide_eq_false hp
        simp only [frB, tgS, tgOk_nm, stOk_s, stOk_os, if_true, tgt_nm, Option.bind_some, isAlB0, List.set_cons_succ, List.set_cons_zero, evB_cons, evS_ifs, evT_cmp, evE_var, look_s, look_v, bind_okD, evE_c, cop_notIn, sD, cIn_c, decide_eq_false hm, Bool.not_false, asB_bl, st_ok, rf, seq_rt])
    have fr1 := fr_free (cf := callF T k) (env := [.v (.str v), .un, .un]) (t := .nm 1) (it := .seq (.var 0)) (b := isAlB0) (ds := v.map sD) (by
      intro i hi xs z
      have hi : i = 0 := List.mem_singleton.mp hi
      subst hi
      cases z) (by simp only [evI_seq, evE_var, look_v, src_v, bind_okD, its_str, ofO_some]; rfl)
    cases ha : v.all (fun c => decide (c ∈ abc)) with
    | false =>
      have c2 := c2 ha
      have fr1 := fr1.trans c2
      rw [evB_stop fr1]
      have : isAl v = false := by unfold isAl; rw [ha, Bool.and_false, Bool.false_and]
      rw [this]
      rfl
    | true =>
      obtain ⟨o', c1⟩ := c1 ha
      have fr1 := fr1.trans c1
      refine fin_step _ fr1 ?_
      obtain ⟨b1, b2⟩ := forL_chk (f := frB (callF T k) (.nm 2) isAlB1) (e := fun (j : Nat) => D.int (1 + (j : Int))) (fun o => [.v (.str v), osl o', osl o]) (fun j => decide (v.getD j 0 < v.getD (j + 1) 0)) (.v (.bl false)) (List.range (v.length - 1)) none (fun j hj o hp => by
          rw [List.mem_range] at hj
          have x1 : j < v.length := by omega
          have x2 : j + 1 < v.length := by omega
          have g1 := getI_str (l := v) (i := j) (by omega) (List.getElem?_eq_getElem x1)
          have g2 := getI_str (l := v) (i := j + 1) (by omega) (List.getElem?_eq_getElem x2)
          rw [show ((j + 1 : Nat) : Int) = 1 + (j : Int) by omega] at g2
          rw [show (j : Int) = 1 + (j : Int) - 1 by omega] at g1
          rw [List.getD_eq_getElem?_getD, List.getD_eq_getElem?_getD, List.getElem?_eq_getElem x1, List.getElem?_eq_getElem x2] at hp
          have hp : decide (v[j] < v[j + 1]) = true := hp
          have q : 1 + (1 + (j : Int) - 1) = 1 + (j : Int) := by omega
          simp only [frB, tgS, tgOk_nm, stOk_s, stOk_os, if_true, tgt_nm, Option.bind_some, isAlB1, List.set_cons_succ, List.set_cons_zero, evB_cons, evS_ifs, evT_nt, evT_cmp, evE_idx, evE_bin, evE_var, look_s, look_v, bind_okD, evE_c, bop_sub, bSub_ii, g1, g2, cop_lt, cLt_cc, hp, asB_bl, Bool.not_true, st_ok, Bool.false_eq_true, if_false, evB_nil, seq_nx, osl_some]) (fun j hj o hp => by
          rw [List.mem_range] at hj
          have x1 : j < v.length := by omega
          have x2 : j + 1 < v.length := by omega
          have g1 := getI_str (l := v) (i := j) (by omega) (List.getElem?_eq_getElem x1)
          have g2 := getI_str (l := v) (i := j + 1) (by omega) (List.getElem?_eq_getElem x2)
          rw [show ((j + 1 : Nat) : Int) = 1 + (j : Int) by omega] at g2
          rw [show (j : Int) = 1 + (j : Int) - 1 by omega] at g1
          rw [List.getD_eq_getElem?_getD, List.getD_eq_getElem?_getD, List.getElem?_eq_getElem x1, List.getElem?_eq_getElem x2] at hp
          have hp : decide (v[j] < v[j + 1]) = false := hp
          simp only [frB, tgS, tgOk_nm, stOk_s, stOk_os, if_true, tgt_nm, Option.bind_some, isAlB1, List.set_cons_succ, List.set_cons_zero, evB_cons, evS_ifs, evT_nt, evT_cmp, evE_idx, evE_bin, evE_var, look_s, look_v, bind_okD, evE_c, bop_sub, bSub_ii, g1, g2, cop_lt, cLt_cc, hp, asB_bl, Bool.not_false, st_ok, rf, seq_rt])
      have fr2 := fr_free (cf := callF T k) (env := [.v (.str v), osl o', .un]) (t := .nm 2) (it := .rng [(.c (.int 1)), (.blt .len [(.var 0)])]) (b := isAlB1) (ds := (List.range (v.length - 1)).map fun (j : Nat) => D.int (1 + (j : Int))) (by
        intro i hi xs z
        cases hi) (by
        have e1 : evL (callF T k) [(.c (.int 1)), (.blt .len [(.var 0)])] [.v (.str v), osl o', .un] = .ok [.v (.int 1), .v (.int (v.length : Int))] := by
          simp only [evL_cons, evL_nil, evE_c, evE_blt, evE_var, look_v, bind_okD, blt_len, hlen]
        rw [evI_rng, e1, bind_okD]
        exact rng_1 (by omega))
      cases hb : incr v with
      | false =>
        have fr2 := fr2.trans (b2 hb)
        rw [evB_stop fr2]
        have : isAl v = false := by unfold isAl; rw [hb, Bool.and_false]
        rw [this]
        rfl
      | true =>
        obtain ⟨o2, b1⟩ := b1 hb
        refine fin_step _ (fr2.trans b1) ?_
        have : isAl v = true := by unfold isAl; rw [hb, ha, decide_eq_true h1]; rfl
        rw [evB_stop (rt _), this]
        rfl
  · have hh : evS (callF T k) (.ifs (.nt (.chn .le .le (.c (.int 1)) (.blt .len [(.var 0)]) (.c (.int 4)))) [(.ret (.c (.bl false)))] []) [.v (.str v), .un, .un] = some (.rt (.v (.bl false))) := by
      have e : evT (callF T k) (.chn .le .le (.c (.int 1)) (.blt .len [(.var 0)]) (.c (.int 4))) [.v (.str v), .un, .un] = .ok false := by
        by_cases h2 : 1 ≤ v.length
        · have d1 : decide ((1 : Int) ≤ (v.length : Int)) = true := decide_eq_true (by omega)
          have d2 : decide ((v.length : Int) ≤ 4) = false := decide_eq_false (by omega)
          simp only [evT_chn, evE_c, evE_blt, evL_cons, evL_nil, evE_var, look_v, bind_okD, blt_len, hlen, cop_le, cLe_ii, asB_bl, d1, d2, if_true]
        · have d1 : decide ((1 : Int) ≤ (v.length : Int)) = false := decide_eq_false (by omega)
          simp only [evT_chn, evE_c, evE_blt, evL_cons, evL_nil, evE_var, look_v, bind_okD, blt_len, hlen, cop_le, cLe_ii, asB_bl, d1, Bool.false_eq_true, if_false]
      simp only [evS_ifs, evT_nt, e, bind_okD, Bool.not_false, st_ok, if_true, evB_cons, rf, seq_rt]
    have : isAl v = false := by unfold isAl; rw [decide_eq_false h1, Bool.false_and, Bool.false_and]
    rw [this]
    show fin (evB (callF T k) (_ :: _) _) = _
    rw [evB_stop hh]
    rfl
theorem isWd_fn (hi : T[i]? = some isWdF) {a v : List Nat} (ha : Wd a) (hl : a.length ≤ 1000) (hv : v.length ≤ 100000) : callF T (k + 1) i [.str a, .str v] = .ok (.v (.bl (isWd a v))) := by
  rw [callF_go hi rfl]
  show fin (evB (callF T k) isWdF.body [.v (.str a), .v (.str v), .un, .un]) = _
  have hlim : (100000 : Nat) ≤ lim := by decide
  have hup := upper_list ha (by omega)
  have had := bAdd_ss (a := a) (b := a.map up) (by rw [List.length_map]; omega)
  have rf : ∀ env, evS (callF T k) (.ret (.c (.bl false))) env = some (.rt (.v (.bl false))) := fun env => ret_v _ _ (fun _ z => by cases z) (by simp)
  have rt : ∀ env, evS (callF T k) (.ret (.c (.bl true))) env = some (.rt (.v (.bl true))) := fun env => ret_v _ _ (fun _ z => by cases z) (by simp)
  refine fin_step [.v (.str a), .v (.str v), .v (.str (sgs a)), .un] (by
    simp only [evS_asg, evE_bin, evE_mth, evE_var, look_v, bind_okD, asS_str, evL_nil, mth_upper, hup, bop_add, had, st_ok, setO_v]
    rfl) ?_
  obtain ⟨c1, c2⟩ := forL_chk (f := frB (callF T k) (.nm 3) isWdB) (e := sD) (fun o => [.v (.str a), .v (.str v), .v (.str (sgs a)), osl o]) (fun c => decide (c ∈ sgs a)) (.v (.bl false)) v none (fun c hc o hp => by
      have hm : c ∈ sgs a := of_decide_eq_true hp
      simp only [frB, tgS, tgOk_nm, stOk_s, stOk_os, if_true, tgt_nm, Option.bind_some, isWdB, List.set_cons_succ, List.set_cons_zero, evB_cons, evS_ifs, evT_cmp, evE_var, look_s, look_v, bind_okD, cop_notIn, sD, cIn_c, decide_eq_true hm, Bool.not_true, asB_bl, st_ok, Bool.false_eq_true, if_false, evB_nil, seq_nx, osl_some]) (fun c hc o hp => by
      have hm : ¬ c ∈ sgs a := of_decide_eq_false hp
      simp only [frB, tgS, tgOk_nm, stOk_s, stOk_os, if_true, tgt_nm, Option.bind_some, isWdB, List.set_cons_succ, List.set_cons_zero, evB_cons, evS_ifs, evT_cmp, evE_var, look_s, look_v, bind_okD, cop_notIn, sD, cIn_c, decide_eq_false hm, Bool.not_false, asB_bl, st_ok, rf, seq_rt])
  have fr1 := fr_free (cf := callF T k) (env := [.v (.str a), .v (.str v), .v (.str (sgs a)), .un]) (t := .nm 3) (it := .seq (.var 1)) (b := isWdB) (ds := v.map sD) (by
    intro i hi xs z
    have hi : i = 1 := List.mem_singleton.mp hi
    subst hi
    cases z) (by simp only [evI_seq, evE_var, look_s, look_v, src_v, bind_okD, its_str, ofO_some]; rfl)
  cases hw : isWd a v with
  | false =>
    rw [evB_stop (fr1.trans (c2 hw))]
    rfl
  | true =>
    obtain ⟨o', c1⟩ := c1 hw
    refine fin_step _ (fr1.trans c1) ?_
    rw [evB_stop (rt _)]
    rfl
theorem chkAl_fn (hf : T[f]? = some isAlF) (hi : T[i]? = some (chkAlF f)) {v : List Nat} (hl : v.length ≤ 1000) : callF T (k + 2) i [.str v] = if isAl v then .ok (.v .non) else .exc ⟨0, [("alphabet", .str v)]⟩ := by
  rw [callF_go hi rfl]
  show fin (evB (callF T (k + 1)) (chkAlF f).body [.v (.str v)]) = _
  have h := isAl_fn (k := k) hf hl
  cases e : isAl v with
  | true =>
    rw [e] at h
    simp only [chkAlF, evB_cons, evS_frz, frzL_cons, frzL_nil, frz1_v, evS_ifs, evT_nt, evT_call, evA_cons, evA_nil, evE_var, look_v, bind_okD, fz_v, h, tru_b, Bool.not_true, st_ok, Bool.false_eq_true, if_false, evB_nil, seq_nx, fin_nx, if_true]
  | false =>
    rw [e] at h
    simp only [chkAlF, evB_cons, evS_frz, frzL_cons, frzL_nil, frz1_v, evS_ifs, evT_nt, evT_call, evA_cons, evA_nil, evE_var, look_v, bind_okD, fz_v, h, tru_b, Bool.not_false, st_ok, if_true, evS_rais, List.length_cons, List.length_nil, seq_rs, fin_rs, Bool.false_eq_true, if_false]
    rfl
theorem chkWd_fn (hf : T[f]? = some isWdF) (hi : T[i]? = some (chkWdF f)) {a v : List Nat} (ha : Wd a) (hl : a.length ≤ 1000) (hv : v.length ≤ 100000) : callF T (k + 2) i [.str a, .str v] = if isWd a v then .ok (.v .non) else .exc ⟨1, [("word", .str v)]⟩ := by
  rw [callF_go hi rfl]
  show fin (evB (callF T (k + 1)) (chkWdF f).body [.v (.str a), .v (.str v)]) = _
  have h := isWd_fn (k := k) hf ha hl hv
  cases e : isWd a v with
  | true =>
    rw [e] at h
    simp only [chkWdF, evB_cons, evS_frz, frzL_cons, frzL_nil, frz1_s, frz1_v, evS_ifs, evT_nt, evT_call, evA_cons, evA_nil, evE_var, look_s, look_v, bind_okD, fz_v, h, tru_b, Bool.not_true, st_ok, Bool.false_eq_true, if_false, evB_nil, seq_nx, fin_nx, if_true]
  | false =>
    rw [e] at h
    simp only [chkWdF, evB_cons, evS_frz, frzL_cons, frzL_nil, frz1_s, frz1_v, evS_ifs, evT_nt, evT_call, evA_cons, evA_nil, evE_var, look_s, look_v, bind_okD, fz_v, h, tru_b, Bool.not_false, st_ok, if_true, evS_rais, List.length_cons, List.length_nil, seq_rs, fin_rs, Bool.false_eq_true, if_false]
    rfl
end
end Wl
set_option Elab.async false
set_option linter.all false
set_option maxRecDepth 100000
set_option autoImplicit false
set_option maxHeartbeats 4000000
namespace Pd
open PySem L2
/-- a loop that tests each item and raises at the first bad one -/
theorem forL_raise {α : Type} {f : D → Env → Option Fl} {e : α → D} (en : Option D → Env) (p : α → Bool) (xc : α → Xc) : ∀ (l : List α) (o : Option D), (∀ a ∈ l, ∀ o, p a = true → f (e a) (en o) = some (.nx (en (some (e a))))) → (∀ a ∈ l, ∀ o, p a = false → ∃ env', f (e a) (en o) = some (.rs (xc a) env')) →
    (l.find? (fun a => !p a) = none → ∃ o', forL f (l.map e) (en o) = some (.nx (en o'))) ∧ (∀ a, l.find? (fun a => !p a) = some a → ∃ env', forL f (l.map e) (en o) = some (.rs (xc a) env'))
  | [], o, _, _ => ⟨fun _ => ⟨o, rfl⟩, fun a h => by cases h⟩
  | a :: l, o, h1, h2 => by
    obtain ⟨i1, i2⟩ := forL_raise en p xc l (some (e a)) (fun b hb => h1 b (List.mem_cons_of_mem _ hb)) (fun b hb => h2 b (List.mem_cons_of_mem _ hb))
    rw [List.find?_cons, List.map_cons, forL]
    cases hp : p a with
    | true =>
      rw [h1 a List.mem_cons_self o hp]
      exact ⟨i1, i2⟩
    | false =>
      obtain ⟨env', he⟩ := h2 a List.mem_cons_self o hp
      rw [he]
      refine ⟨fun h => (by cases h), fun b hb => ?_⟩
      have hb : some a = some b := hb
      cases hb
      exact ⟨env', rfl⟩
end Pd
namespace Wl
open PySem Pd
def wS (ws : List (List Nat)) : List D := ws.map D.str
@[simp] theorem wS_len (ws : List (List Nat)) : (wS ws).length = ws.length := List.length_map _
theorem wS_get {ws : List (List Nat)} {j : Nat} {w : List Nat} (h : ws[j]? = some w) : (wS ws)[j]? = some (.str w) := by rw [wS, List.getElem?_map, h]; rfl
theorem wS_app (a b : List (List Nat)) : wS a ++ wS b = wS (a ++ b) := List.map_append.symm
theorem wS_snoc (a : List (List Nat)) (w : List Nat) : wS a ++ [.str w] = wS (a ++ [w]) := by rw [← wS_app]; rfl
theorem strs_wS : ∀ ws : List (List Nat), strsO (wS ws) = some ws
  | [] => rfl
  | w :: ws => by
    show (strsO (wS ws)).map (w :: ·) = _
    rw [strs_wS ws]
    rfl
theorem glue_flat : ∀ ws : List (List Nat), glue [] ws = ws.flatten
  | [] => rfl
  | [w] => by show w = w ++ []; rw [List.append_nil]
  | w :: v :: r => by
    show w ++ [] ++ glue [] (v :: r) = _
    rw [glue_flat (v :: r), List.append_nil]
    rfl
theorem sum_flat : ∀ ws : List (List Nat), (ws.map List.length).sum = ws.flatten.length
  | [] => rfl
  | w :: ws => by
    rw [List.map_cons, List.sum_cons, sum_flat ws, List.flatten_cons, List.length_append]
theorem join_words {r : Rv} {ws : List (List Nat)} (h : r.sq = some (wS ws)) (hl : ws.flatten.length ≤ lim) : mJoin (.v (.str [])) [r] = .ok (.v (.str ws.flatten)) := by
  show (match r.sq.bind strsO with | some xs => (if (xs.map List.length).sum + xs.length * ([] : List Nat).length ≤ lim then Out.ok (Rv.v (.str (glue [] xs))) else .stk) | none => .stk) = _
  rw [h, Option.bind_some, strs_wS]
  show (if (ws.map List.length).sum + ws.length * 0 ≤ lim then Out.ok (Rv.v (.str (glue [] ws))) else .stk) = _
  rw [sum_flat, Nat.mul_zero, Nat.add_zero, if_pos hl, glue_flat]
/-! ### signs of an alphabet -/
theorem lw_mem {a : List Nat} (ha : Al a) {c : Nat} (h : c ∈ sgs a) : lw c ∈ a ∧ isL c = true := by
  refine ⟨?_, sgs_wd ha.wd c h⟩
  rcases List.mem_append.mp h with h | h
  · have := ha.lo c h
    have e : lw c = c := by unfold lw; rw [if_pos this.1]
    rw [e]; exact h
  · obtain ⟨x, hx, rfl⟩ := List.mem_map.mp h
    have := ha.lo x hx
    have e : lw (up x) = x := by
      unfold up lw
      rw [if_pos this.1, if_neg (by omega)]
      omega
    rw [e]; exact hx
/-- what a sign stands for -/
def ent (a : List Nat) (t : List (List Nat)) (c : Nat) : List Nat := t.getD (a.idxOf (lw c)) []
def img (a : List Nat) (t : List (List Nat)) (c : Nat) : List Nat := if 97 ≤ c then ent a t c else und (ent a t c)
def sub (a : List Nat) (t : List (List Nat)) (w : List Nat) : List Nat := (w.map (img a t)).flatten
structure Tb (a : List Nat) (t : List (List Nat)) (b : Nat) : Prop where
  len : t.length = a.length
  wd : ∀ w ∈ t, Wd w ∧ w.length ≤ b
theorem ent_at {a : List Nat} (ha : Al a) {t : List (List Nat)} {b : Nat} (ht : Tb a t b) {c : Nat} (h : c ∈ sgs a) : ∃ hl : a.idxOf (lw c) < t.length, ent a t c = t[a.idxOf (lw c)] := by
  have hm := (lw_mem ha h).1
  have : a.idxOf (lw c) < a.length := List.idxOf_lt_length_iff.mpr hm
  refine ⟨by rw [ht.len]; exact this, ?_⟩
  unfold ent
  rw [List.getD_eq_getElem?_getD, List.getElem?_eq_getElem (by rw [ht.len]; exact this)]
  rfl
theorem ent_ok {a : List Nat} (ha : Al a) {t : List (List Nat)} {b : Nat} (ht : Tb a t b) {c : Nat} (h : c ∈ sgs a) : Wd (ent a t c) ∧ (ent a t c).length ≤ b := by
  obtain ⟨hl, e⟩ := ent_at ha ht h
  rw [e]
  exact ht.wd _ (List.getElem_mem hl)
theorem img_ok {a : List Nat} (ha : Al a) {t : List (List Nat)} {b : Nat} (ht : Tb a t b) {c : Nat} (h : c ∈ sgs a) : Wd (img a t c) ∧ (img a t c).length ≤ b := by
  obtain ⟨h1, h2⟩ := ent_ok ha ht h
  unfold img
  split
  · exact ⟨h1, h2⟩
  · exact ⟨h1.und, by rw [und_len]; exact h2⟩
theorem sub_ok {a : List Nat} (ha : Al a) {t : List (List Nat)} {b : Nat} (ht : Tb a t b) : ∀ {w : List Nat}, (∀ c ∈ w, c ∈ sgs a) → Wd (sub a t w) ∧ (sub a t w).length ≤ w.length * b
  | [], _ => ⟨Wd.nil, Nat.zero_le _⟩
  | c :: w, h => by
    obtain ⟨h1, h2⟩ := sub_ok ha ht (w := w) fun x hx => h x (List.mem_cons_of_mem _ hx)
    obtain ⟨g1, g2⟩ := img_ok ha ht (h c List.mem_cons_self)
    have e : sub a t (c :: w) = img a t c ++ sub a t w := rfl
    rw [e, List.length_append, List.length_cons, Nat.add_mul, Nat.one_mul]
    exact ⟨g1.app h1, by omega⟩
theorem isWd_mem {a w : List Nat} (h : isWd a w = true) : ∀ c ∈ w, c ∈ sgs a := fun c hc => of_decide_eq_true (List.all_eq_true.mp h c hc)
theorem isWd_of {a w : List Nat} (h : ∀ c ∈ w, c ∈ sgs a) : isWd a w = true := List.all_eq_true.mpr fun c hc => decide_eq_true (h c hc)
def repB (si sd un : Nat) : List S := [(.frz [0, 4] (.asg (.nm 5) (.idx (.var 2) (.call si [(.var 0), (.var 4)])))),
    (.frz [4] (.ifs (.cmp .eq (.call sd [(.var 4)]) (.c (.int 1)))
    [(.frz [5] (.app 3 (.var 5)))]
    [(.frz [5] (.app 3 (.call un [(.var 5)])))]))]
def repF (cw si sd un st : Nat) : Fn := ⟨6, 3, [(.frz [0, 1] (.ex (.call cw [(.var 0), (.tup [(.var 1)])]))),
    (.ifs (.cmp .ne (.blt .len [(.var 2)]) (.blt .len [(.var 0)]))
    [(.rais 2 ["length"] [(.blt .len [(.var 2)])])]
    []),
    (.asg (.nm 3) (.lst [])),
    (.fr (.nm 4) (.seq (.var 1)) (repB si sd un)),
    (.ret (.call st [(.mth .join (.c (.str [])) [(.var 3)])]))]⟩
def lrepB (un : Nat) : List S := [(.asg (.nm 5) (.idx (.var 2) (.mth .index (.var 0) [(.mth .lower (.var 4) [])]))),
    (.ifs (.cmp .eq (.var 4) (.mth .upper (.var 4) []))
    [(.frz [5] (.asg (.nm 5) (.call un [(.var 5)])))]
    []),
    (.frz [5] (.app 3 (.var 5)))]
def lrepF (un st : Nat) : Fn := ⟨6, 3, [(.asg (.nm 3) (.lst [])),
    (.fr (.nm 4) (.seq (.var 1)) (lrepB un)),
    (.ret (.call st [(.mth .join (.c (.str [])) [(.var 3)])]))]⟩
@[simp] theorem mth_index : doMth .index = mIndex := rfl
section
variable {T : List Fn} {k i f g : Nat}
theorem index_ok {l : List Nat} {c : Nat} (h : c ∈ l) : mIndex (.v (.str l)) [.v (.str [c])] = .ok (.v (.int (l.idxOf c))) := by
  show (if c ∈ l then dInt (l.idxOf c) else .stk) = _
  rw [if_pos h]
  rfl
theorem sgIdx_fn (hi : T[i]? = some sgIdxF) {a : List Nat} (ha : Al a) {c : Nat} (h : c ∈ sgs a) : callF T (k + 1) i [.str a, .str [c]] = .ok (.v (.int (a.idxOf (lw c)))) := by
  rw [callF_go hi rfl]
  show fin (evB (callF T k) sgIdxF.body [.v (.str a), .v (.str [c])]) = _
  obtain ⟨h1, h2⟩ := lw_mem ha h
  have e1 := low_ok h2
  have e2 := index_ok h1
  have er := ret_v (callF T k) [.v (.str a), .v (.str [c])] (e := .mth .index (.var 0) [(.mth .lower (.var 1) [])]) (d := .int (a.idxOf (lw c))) (fun _ z => by cases z) (by
    simp only [evE_mth, evE_var, look_s, look_v, bind_okD, asS_str, evL_cons, evL_nil, mth_lower, e1, mth_index, e2])
  show fin (evB (callF T k) [_] _) = _
  rw [evB_stop er]
  rfl
theorem sgDir_fn (hi : T[i]? = some sgDirF) {c : Nat} (h : isL c = true) : callF T (k + 1) i [.str [c]] = .ok (.v (.int (if 97 ≤ c then 1 else -1))) := by
  rw [callF_go hi rfl]
  show fin (evB (callF T k) sgDirF.body [.v (.str [c])]) = _
  have e1 := low_ok h
  have e2 := eq_low h
  have r1 := ret_v (callF T k) [.v (.str [c])] (e := .c (.int 1)) (d := .int 1) (fun _ z => by cases z) (by simp)
  have r2 := ret_v (callF T k) [.v (.str [c])] (e := .neg (.c (.int 1))) (d := .int (-1)) (fun _ z => by cases z) (by simp)
  by_cases hc : 97 ≤ c
  · have e3 := e2.mpr hc
    rw [if_pos hc]
    simp [sgDirF, e1, ← e3, r1]
  · have e3 : ¬ c = lw c := fun z => hc (e2.mp z)
    rw [if_neg hc]
    simp [sgDirF, e1, e3, r2]
theorem chkWds_fn {f0 g0 : Nat} (hf0 : T[f0]? = some isAlF) (hf : T[f]? = some (chkAlF f0)) (hg0 : T[g0]? = some isWdF) (hg : T[g]? = some (chkWdF g0)) (hi : T[i]? = some (chkWdsF f g)) {a : List Nat} {ws : List (List Nat)} {d : D} (hd : Sq1 d (wS ws)) (hl : a.length ≤ 1000) (hw : ∀ w ∈ ws, w.length ≤ 100000) :
    (isAl a = false → callF T (k + 3) i [.str a, d] = .exc ⟨0, [("alphabet", .str a)]⟩) ∧
    (isAl a = true → Wd a → (ws.find? (fun w => !isWd a w) = none → callF T (k + 3) i [.str a, d] = .ok (.v .non)) ∧ (∀ w, ws.find? (fun w => !isWd a w) = some w → callF T (k + 3) i [.str a, d] = .exc ⟨1, [("word", .str w)]⟩)) := by
  rw [callF_go hi rfl]
  show (_ → fin (evB (callF T (k + 2)) (chkWdsF f g).body [.v (.str a), .v d, .un]) = _) ∧ (_ → _ → (_ → fin (evB (callF T (k + 2)) (chkWdsF f g).body [.v (.str a), .v d, .un]) = _) ∧ (∀ w, _ → fin (evB (callF T (k + 2)) (chkWdsF f g).body [.v (.str a), .v d, .un]) = _))
  have h := chkAl_fn (k := k) hf0 hf hl
  constructor
  · intro e
    rw [e] at h
    simp only [Bool.false_eq_true, if_false] at h
    simp only [chkWdsF, evB_cons, evS_frz, frzL_cons, frzL_nil, frz1_v, evS_ex, evE_call, evA_cons, evA_nil, evE_var, look_v, bind_okD, fz_v, h, st_exc, seq_rs, fin_rs]
  · intro e ha
    rw [e] at h
    simp only [if_true] at h
    have s1 : evS (callF T (k + 2)) (.frz [0] (.ex (.call f [(.var 0)]))) [.v (.str a), .v d, .un] = some (.nx [.v (.str a), .v d, .un]) := by
      simp only [evS_frz, frzL_cons, frzL_nil, frz1_v, evS_ex, evE_call, evA_cons, evA_nil, evE_var, look_v, bind_okD, fz_v, h, st_ok]
    obtain ⟨c1, c2⟩ := forL_raise (f := frB (callF T (k + 2)) (.nm 2) (chkWdsB g)) (e := D.str) (fun o => [.v (.str a), .v d, osl o]) (fun w => isWd a w) (fun w => ⟨1, [("word", .str w)]⟩) ws none (fun w hm o hp => by
        have hc := chkWd_fn (k := k) hg0 hg ha hl (hw w hm)
        rw [hp] at hc
        simp only [if_true] at hc
        simp only [frB, tgS, tgOk_nm, stOk_s, stOk_os, if_true, tgt_nm, Option.bind_some, chkWdsB, List.set_cons_succ, List.set_cons_zero, evB_cons, evS_frz, frzL_cons, frzL_nil, frz1_v, frz1_s, evS_ex, evE_call, evA_cons, evA_nil, evE_var, look_s, look_v, bind_okD, fz_v, hc, st_ok, seq_nx, evB_nil, osl_some]) (fun w hm o hp => by
        have hc := chkWd_fn (k := k) hg0 hg ha hl (hw w hm)
        rw [hp] at hc
        simp only [Bool.false_eq_true, if_false] at hc
        refine ⟨[.v (.str a), .v d, .v (.str w)], ?_⟩
        simp only [frB, tgS, tgOk_nm, stOk_s, stOk_os, if_true, tgt_nm, Option.bind_some, chkWdsB, List.set_cons_succ, List.set_cons_zero, evB_cons, evS_frz, frzL_cons, frzL_nil, frz1_v, frz1_s, evS_ex, evE_call, evA_cons, evA_nil, evE_var, look_s, look_v, bind_okD, fz_v, hc, st_exc, seq_rs])
    have fr1 := fr_free (cf := callF T (k + 2)) (env := [.v (.str a), .v d, .un]) (t := .nm 2) (it := .seq (.var 1)) (b := chkWdsB g) (ds := ws.map D.str) (by
      intro i hi xs z
      have hi : i = 1 := List.mem_singleton.mp hi
      subst hi
      cases z) (by simp only [evI_seq, evE_var, look_s, look_v, src_v, bind_okD, hd.its, ofO_some]; rfl)
    constructor
    · intro e2
      obtain ⟨o', c1⟩ := c1 e2
      refine fin_step _ s1 ?_
      refine fin_step _ (fr1.trans c1) ?_
      rw [evB_nil]
      rfl
    · intro w e2
      obtain ⟨env', c2⟩ := c2 w e2
      refine fin_step _ s1 ?_
      rw [evB_cons, fr1.trans c2]
      rfl
/-- the loop of replaced -/
theorem rep_loop {si sd un ss : Nat} (hsi : T[si]? = some sgIdxF) (hsd : T[sd]? = some sgDirF) (hss : T[ss]? = some swF) (hun : T[un]? = some (undF ss)) {a w : List Nat} {t : List (List Nat)} {b : Nat} {d : D} (ha : Al a) (ht : Tb a t b) (hb : b ≤ 100000) (hd : Sq1 d (wS t)) (hw : ∀ c ∈ w, c ∈ sgs a) (hl : w.length ≤ 100000) :
    ∃ o4 o5, evS (callF T (k + 2)) (.fr (.nm 4) (.seq (.var 1)) (repB si sd un)) [.v (.str a), .v (.str w), .v d, .own [], .un, .un] = some (.nx [.v (.str a), .v (.str w), .v d, .own (wS (w.map (img a t))), osl o4, osl o5]) := by
  have hlim : (1000000 : Nat) ≤ lim := by decide
  let en : List (List Nat) × Option D × Option D → Pd.Env := fun s => [.v (.str a), .v (.str w), .v d, .own (wS s.1), osl s.2.1, osl s.2.2]
  have ef := forL_ix (e := sD) (f := frB (callF T (k + 2)) (.nm 4) (repB si sd un)) en (fun s c => (s.1 ++ [img a t c], some (sD c), some (.str (ent a t c)))) (fun j s => s.1.length = j) w 0 ([], none, none) rfl fun j s c hj hI => by
    have hjl := (List.getElem?_eq_some_iff.mp hj).1
    have hc := hw c (List.mem_of_getElem? hj)
    have e1 := sgIdx_fn (k := k + 1) hsi ha hc
    have e2 := sgDir_fn (k := k + 1) hsd (lw_mem ha hc).2
    obtain ⟨hx, hen⟩ := ent_at ha ht hc
    have e3 := hd.get (wS_get (List.getElem?_eq_getElem hx))
    rw [← hen] at e3
    obtain ⟨q1, q2⟩ := ent_ok ha ht hc
    have e4 := und_ok (k := k) hss hun q1 (by show _ ≤ 100000; omega)
    have hlt : s.1.length < lim := by omega
    refine ⟨?_, by rw [List.length_append]; simp; omega⟩
    have b1 : evS (callF T (k + 2)) (.frz [0, 4] (.asg (.nm 5) (.idx (.var 2) (.call si [(.var 0), (.var 4)])))) [.v (.str a), .v (.str w), .v d, .own (wS s.1), .v (sD c), osl s.2.2] = some (.nx [.v (.str a), .v (.str w), .v d, .own (wS s.1), .v (sD c), .v (.str (ent a t c))]) := by
      simp only [evS_frz, frzL_cons, frzL_nil, frz1_v, frz1_s, evS_asg, evE_idx, evE_call, evA_cons, evA_nil, evE_var, look_s, look_v, bind_okD, fz_v, sD, e1, e3, st_ok, setO_v, stOk_s, stOk_os, if_true, List.set_cons_succ, List.set_cons_zero]
    have b2 : evS (callF T (k + 2)) (.frz [4] (.ifs (.cmp .eq (.call sd [(.var 4)]) (.c (.int 1))) [(.frz [5] (.app 3 (.var 5)))] [(.frz [5] (.app 3 (.call un [(.var 5)])))])) [.v (.str a), .v (.str w), .v d, .own (wS s.1), .v (sD c), .v (.str (ent a t c))] = some (.nx [.v (.str a), .v (.str w), .v d, .own (wS (s.1 ++ [img a t c])), .v (sD c), .v (.str (ent a t c))]) := by
      simp only [evS_frz, frzL_cons, frzL_nil, frz1_v, frz1_s, evS_ifs, evT_cmp, evE_call, evA_cons, evA_nil, evE_var, look_s, look_v, bind_okD, fz_v, sD, e2, evE_c, cop_eq, cEq_ii, asB_bl, st_ok]
      by_cases h97 : 97 ≤ c
      · have ei : img a t c = ent a t c := by unfold img; rw [if_pos h97]
        rw [if_pos h97, ei]
        simp [wS_snoc, hlt]
      · have ei : img a t c = und (ent a t c) := by unfold img; rw [if_neg h97]
        rw [if_neg h97, ei]
        simp [wS_snoc, hlt, e4]
    show frB (callF T (k + 2)) (.nm 4) (repB si sd un) (sD c) [.v (.str a), .v (.str w), .v d, .own (wS s.1), osl s.2.1, osl s.2.2] = _
    have b0 : frB (callF T (k + 2)) (.nm 4) (repB si sd un) (sD c) [.v (.str a), .v (.str w), .v d, .own (wS s.1), osl s.2.1, osl s.2.2] = evB (callF T (k + 2)) (repB si sd un) [.v (.str a), .v (.str w), .v d, .own (wS s.1), .v (sD c), osl s.2.2] := by
      simp only [frB, tgS, tgOk_nm, stOk_s, stOk_os, if_true, tgt_nm, Option.bind_some, List.set_cons_succ, List.set_cons_zero]
    rw [b0]
    unfold repB
    rw [evB_cons, b1, seq_nx, evB_cons, b2, seq_nx, evB_nil]
    rfl
  obtain ⟨ef, _⟩ := ef
  have fr1 := fr_free (cf := callF T (k + 2)) (env := en ([], none, none)) (t := .nm 4) (it := .seq (.var 1)) (b := repB si sd un) (ds := w.map sD) (by
    intro i hi xs z
    have hi : i = 1 := List.mem_singleton.mp hi
    subst hi
    cases z) (by simp only [en, evI_seq, evE_var, look_s, look_v, src_v, bind_okD, its_str, ofO_some]; rfl)
  rw [ef] at fr1
  have hv : ∀ (l : List Nat) (s : List (List Nat) × Option D × Option D), (l.foldl (fun (s : List (List Nat) × Option D × Option D) c => (s.1 ++ [img a t c], some (sD c), some (.str (ent a t c)))) s).1 = s.1 ++ l.map (img a t) := fun l => by
    induction l with
    | nil => exact fun s => by simp
    | cons x l ih => exact fun s => by rw [List.foldl_cons, ih, List.map_cons, List.append_assoc]; rfl
  have hv := hv w ([], none, none)
  generalize w.foldl (fun (s : List (List Nat) × Option D × Option D) c => (s.1 ++ [img a t c], some (sD c), some (.str (ent a t c)))) ([], none, none) = s at fr1 hv
  rw [List.nil_append] at hv
  refine ⟨s.2.1, s.2.2, ?_⟩
  rw [← hv]
  exact fr1
theorem lrep_loop {un ss : Nat} (hss : T[ss]? = some swF) (hun : T[un]? = some (lundF ss)) {a w : List Nat} {t : List (List Nat)} {b : Nat} {d : D} (ha : Al a) (ht : Tb a t b) (hb : b ≤ 100000) (hd : Sq1 d (wS t)) (hw : ∀ c ∈ w, c ∈ sgs a) (hl : w.length ≤ 100000) :
    ∃ o4 o5, evS (callF T (k + 2)) (.fr (.nm 4) (.seq (.var 1)) (lrepB un)) [.v (.str a), .v (.str w), .v d, .own [], .un, .un] = some (.nx [.v (.str a), .v (.str w), .v d, .own (wS (w.map (img a t))), osl o4, osl o5]) := by
  have hlim : (1000000 : Nat) ≤ lim := by decide
  let en : List (List Nat) × Option D × Option D → Pd.Env := fun s => [.v (.str a), .v (.str w), .v d, .own (wS s.1), osl s.2.1, osl s.2.2]
  have ef := forL_ix (e := sD) (f := frB (callF T (k + 2)) (.nm 4) (lrepB un)) en (fun s c => (s.1 ++ [img a t c], some (sD c), some (.str (img a t c)))) (fun j s => s.1.length = j) w 0 ([], none, none) rfl fun j s c hj hI => by
    have hjl := (List.getElem?_eq_some_iff.mp hj).1
    have hc := hw c (List.mem_of_getElem? hj)
    obtain ⟨hlm, hL⟩ := lw_mem ha hc
    have e1 := low_ok hL
    have e2 := index_ok hlm
    have e5 := up_ok hL
    obtain ⟨hx, hen⟩ := ent_at ha ht hc
    have e3 := hd.get (wS_get (List.getElem?_eq_getElem hx))
    rw [← hen] at e3
    obtain ⟨q1, q2⟩ := ent_ok ha ht hc
    have e4 := lund_ok (k := k) hss hun q1 (by show _ ≤ 100000; omega)
    have hlt : s.1.length < lim := by omega
    refine ⟨?_, by rw [List.length_append]; simp; omega⟩
    have b1 : evS (callF T (k + 2)) (.asg (.nm 5) (.idx (.var 2) (.mth .index (.var 0) [(.mth .lower (.var 4) [])]))) [.v (.str a), .v (.str w), .v d, .own (wS s.1), .v (sD c), osl s.2.2] = some (.nx [.v (.str a), .v (.str w), .v d, .own (wS s.1), .v (sD c), .v (.str (ent a t c))]) := by
      simp only [evS_asg, evE_idx, evE_mth, evL_cons, evL_nil, evE_var, look_s, look_v, bind_okD, asS_str, mth_lower, mth_index, sD, e1, e2, e3, st_ok, setO_v, stOk_s, stOk_os, if_true, List.set_cons_succ, List.set_cons_zero]
    have b2 : evS (callF T (k + 2)) (.ifs (.cmp .eq (.var 4) (.mth .upper (.var 4) [])) [(.frz [5] (.asg (.nm 5) (.call un [(.var 5)])))] []) [.v (.str a), .v (.str w), .v d, .own (wS s.1), .v (sD c), .v (.str (ent a t c))] = some (.nx [.v (.str a), .v (.str w), .v d, .own (wS s.1), .v (sD c), .v (.str (img a t c))]) := by
      simp only [evS_ifs, evT_cmp, evE_mth, evL_nil, evE_var, look_s, look_v, bind_okD, asS_str, mth_upper, sD, e5, cop_eq, cEq_ss, asB_bl, st_ok]
      by_cases h97 : 97 ≤ c
      · have ei : img a t c = ent a t c := by unfold img; rw [if_pos h97]
        have ne : ¬ ([c] : List Nat) = [up c] := fun z => by
          have := (List.cons.inj z).1
          unfold up at this
          rw [if_pos h97] at this
          omega
        rw [ei]
        simp [ne]
      · have ei : img a t c = und (ent a t c) := by unfold img; rw [if_neg h97]
        have eu : up c = c := by unfold up; rw [if_neg h97]
        rw [ei, eu]
        simp [e4]
    have b3 : evS (callF T (k + 2)) (.frz [5] (.app 3 (.var 5))) [.v (.str a), .v (.str w), .v d, .own (wS s.1), .v (sD c), .v (.str (img a t c))] = some (.nx [.v (.str a), .v (.str w), .v d, .own (wS (s.1 ++ [img a t c])), .v (sD c), .v (.str (img a t c))]) := by
      simp [wS_snoc, hlt]
    show frB (callF T (k + 2)) (.nm 4) (lrepB un) (sD c) [.v (.str a), .v (.str w), .v d, .own (wS s.1), osl s.2.1, osl s.2.2] = _
    have b0 : frB (callF T (k + 2)) (.nm 4) (lrepB un) (sD c) [.v (.str a), .v (.str w), .v d, .own (wS s.1), osl s.2.1, osl s.2.2] = evB (callF T (k + 2)) (lrepB un) [.v (.str a), .v (.str w), .v d, .own (wS s.1), .v (sD c), osl s.2.2] := by
      simp only [frB, tgS, tgOk_nm, stOk_s, stOk_os, if_true, tgt_nm, Option.bind_some, List.set_cons_succ, List.set_cons_zero]
    rw [b0]
    unfold lrepB
    rw [evB_cons, b1, seq_nx, evB_cons, b2, seq_nx, evB_cons, b3, seq_nx, evB_nil]
    rfl
  obtain ⟨ef, _⟩ := ef
  have fr1 := fr_free (cf := callF T (k + 2)) (env := en ([], none, none)) (t := .nm 4) (it := .seq (.var 1)) (b := lrepB un) (ds := w.map sD) (by
    intro i hi xs z
    have hi : i = 1 := List.mem_singleton.mp hi
    subst hi
    cases z) (by simp only [en, evI_seq, evE_var, look_s, look_v, src_v, bind_okD, its_str, ofO_some]; rfl)
  rw [ef] at fr1
  have hv : ∀ (l : List Nat) (s : List (List Nat) × Option D × Option D), (l.foldl (fun (s : List (List Nat) × Option D × Option D) c => (s.1 ++ [img a t c], some (sD c), some (.str (img a t c)))) s).1 = s.1 ++ l.map (img a t) := fun l => by
    induction l with
    | nil => exact fun s => by simp
    | cons x l ih => exact fun s => by rw [List.foldl_cons, ih, List.map_cons, List.append_assoc]; rfl
  have hv := hv w ([], none, none)
  generalize w.foldl (fun (s : List (List Nat) × Option D × Option D) c => (s.1 ++ [img a t c], some (sD c), some (.str (img a t c)))) ([], none, none) = s at fr1 hv
  rw [List.nil_append] at hv
  refine ⟨s.2.1, s.2.2, ?_⟩
  rw [← hv]
  exact fr1
end
end Wl
set_option Elab.async false
set_option linter.all false
set_option maxRecDepth 100000
set_option autoImplicit false
set_option maxHeartbeats 4000000
namespace Wl
open PySem Pd
/-! ### tables as maps of words -/
theorem sgs_sw {a : List Nat} (ha : Al a) {c : Nat} (h : c ∈ sgs a) : sw c ∈ sgs a := by
  rcases List.mem_append.mp h with h | h
  · have := ha.lo c h
    refine List.mem_append_right _ (List.mem_map.mpr ⟨c, h, ?_⟩)
    unfold up sw
    rw [if_pos this.1, if_pos this.1]
  · obtain ⟨x, hx, rfl⟩ := List.mem_map.mp h
    have := ha.lo x hx
    have e : sw (up x) = x := by
      unfold up sw
      rw [if_pos this.1, if_neg (by omega)]
      omega
    rw [e]
    exact List.mem_append_left _ hx
def On (a w : List Nat) : Prop := ∀ c ∈ w, c ∈ sgs a
theorem On.app {a v w : List Nat} (h : On a v) (g : On a w) : On a (v ++ w) := fun c hc => (List.mem_append.mp hc).elim (h c) (g c)
theorem On.und {a w : List Nat} (ha : Al a) (h : On a w) : On a (und w) := fun c hc => by
  obtain ⟨x, hx, rfl⟩ := List.mem_map.mp hc
  exact sgs_sw ha (h x (List.mem_reverse.mp hx))
theorem On.wd {a w : List Nat} (ha : Al a) (h : On a w) : Wd w := fun c hc => sgs_wd ha.wd c (h c hc)
theorem st_on {a r : List Nat} {c : Nat} (h : On a r) (hc : c ∈ sgs a) : On a (st r c) := by
  cases r with
  | nil => exact fun x hx => by rw [List.mem_singleton.mp hx]; exact hc
  | cons x r =>
    unfold st
    simp only
    split
    · exact fun y hy => h y (List.mem_cons_of_mem _ hy)
    · exact fun y hy => (List.mem_cons.mp hy).elim (fun e => by rw [e]; exact hc) (h y)
theorem run_on {a : List Nat} : ∀ {w r : List Nat}, On a r → On a w → On a (run r w)
  | [], _, h, _ => h
  | c :: w, r, h, hw => run_on (w := w) (st_on h (hw c List.mem_cons_self)) fun x hx => hw x (List.mem_cons_of_mem _ hx)
theorem On.red {a w : List Nat} (h : On a w) : On a (red w) := fun c hc => run_on (fun x hx => by cases hx) h c (List.mem_reverse.mp hc)
theorem sub_app (a : List Nat) (t : List (List Nat)) (v w : List Nat) : sub a t (v ++ w) = sub a t v ++ sub a t w := by
  unfold sub
  rw [List.map_append, List.flatten_append]
theorem lw_sw {c : Nat} (h : isL c = true) : lw (sw c) = lw c := by
  unfold lw sw
  rcases isL_of h with z | z
  · rw [if_pos z.1, if_neg (by omega), if_pos z.1]; omega
  · have e : ¬ 97 ≤ c := by omega
    rw [if_neg e, if_pos (by omega), if_neg e]
theorem img_sw {a : List Nat} (ha : Al a) {t : List (List Nat)} {b : Nat} (ht : Tb a t b) {c : Nat} (h : c ∈ sgs a) : img a t (sw c) = und (img a t c) := by
  have hL := (lw_mem ha h).2
  have e : ent a t (sw c) = ent a t c := by unfold ent; rw [lw_sw hL]
  have hw := (ent_ok ha ht h).1
  unfold img
  rw [e]
  by_cases h97 : 97 ≤ c
  · have : ¬ 97 ≤ sw c := by
      unfold sw
      rw [if_pos h97]
      rcases isL_of hL with z | z <;> omega
    rw [if_neg this, if_pos h97]
  · have : 97 ≤ sw c := by
      unfold sw
      rw [if_neg h97]
      rcases isL_of hL with z | z <;> omega
    rw [if_pos this, if_neg h97, und_und hw]
theorem sub_und {a : List Nat} (ha : Al a) {t : List (List Nat)} {b : Nat} (ht : Tb a t b) : ∀ {w : List Nat}, On a w → sub a t (und w) = und (sub a t w)
  | [], _ => rfl
  | c :: w, h => by
    have ih := sub_und ha ht (w := w) fun x hx => h x (List.mem_cons_of_mem _ hx)
    have e : und (c :: w) = und w ++ [sw c] := by
      unfold und
      rw [List.reverse_cons, List.map_append]
      rfl
    rw [e, sub_app, ih]
    have e1 : sub a t [sw c] = und (img a t c) := by
      unfold sub
      simp [img_sw ha ht (h c List.mem_cons_self)]
    have e2 : sub a t (c :: w) = img a t c ++ sub a t w := rfl
    rw [e1, e2, und_app]
theorem red_mid {x p y : List Nat} (hx : Wd x) (hp : Wd p) (hy : Wd y) : red (x ++ (und p ++ p) ++ y) = red (x ++ y) := by
  have e : red (und p ++ p) = [] := by
    have := red_und (w := und p) hp.und
    rw [und_und hp] at this
    exact this
  have hpp := hp.und.app hp
  rw [← red_app_l (hx.app hpp) hy, ← red_app_r hx hpp, e, List.append_nil, red_app_l hx hy]
theorem sub_red {a : List Nat} (ha : Al a) {t : List (List Nat)} {b : Nat} (ht : Tb a t b) : ∀ (n : Nat) {w : List Nat}, w.length ≤ n → On a w → red (sub a t (red w)) = red (sub a t w)
  | 0, w, hl, _ => by
    have e : w = [] := List.eq_nil_of_length_eq_zero (by omega)
    subst e
    rfl
  | n + 1, w, hl, hw => by
    by_cases h : Rd w.reverse
    · rw [red_of (hw.wd ha) h]
    · obtain ⟨p, q, x, e⟩ := not_Rd h
      have e2 : w = q.reverse ++ sw x :: x :: p.reverse := by
        have := congrArg List.reverse e
        rw [List.reverse_reverse] at this
        rw [this]
        simp
      subst e2
      have hx : x ∈ sgs a := hw x (by simp)
      have hb : On a q.reverse := fun c hc => hw c (by simp [List.mem_reverse.mp hc])
      have hp : On a p.reverse := fun c hc => hw c (by simp [List.mem_reverse.mp hc])
      have hl' : (q.reverse ++ p.reverse).length ≤ n := by
        simp at hl ⊢
        omega
      have hL := (lw_mem ha hx).2
      rw [red_pair (hb.wd ha) hL, sub_red ha ht n hl' (hb.app hp)]
      have e3 : sub a t (q.reverse ++ sw x :: x :: p.reverse) = sub a t q.reverse ++ (und (img a t x) ++ img a t x) ++ sub a t p.reverse := by
        rw [show q.reverse ++ sw x :: x :: p.reverse = q.reverse ++ ([sw x] ++ ([x] ++ p.reverse)) by simp, sub_app, sub_app, sub_app]
        have e4 : sub a t [sw x] = und (img a t x) := by unfold sub; simp [img_sw ha ht hx]
        have e5 : sub a t [x] = img a t x := by unfold sub; simp
        rw [e4, e5]
        simp
      rw [e3, red_mid (sub_ok ha ht hb).1 (img_ok ha ht hx).1 (sub_ok ha ht hp).1, sub_app]
/-- one table after another -/
def after (b : List Nat) (o t : List (List Nat)) : List (List Nat) := t.map fun w => red (sub b o w)
theorem after_tb {a b : List Nat} (hb : Al b) {o t : List (List Nat)} {n m : Nat} (ho : Tb b o m) (ht : Tb a t n) (hon : ∀ w ∈ t, On b w) : Tb a (after b o t) (n * m) := by
  refine ⟨by unfold after; rw [List.length_map]; exact ht.len, fun w hw => ?_⟩
  obtain ⟨v, hv, rfl⟩ := List.mem_map.mp hw
  obtain ⟨h1, h2⟩ := sub_ok hb ho (hon v hv)
  refine ⟨red_Wd h1, ?_⟩
  have h3 := red_len (w := sub b o v)
  have h4 := (ht.wd v hv).2
  have h5 := Nat.mul_le_mul_right m h4
  omega
theorem ent_after {a b : List Nat} (ha : Al a) {o t : List (List Nat)} {n : Nat} (ht : Tb a t n) {c : Nat} (h : c ∈ sgs a) : ent a (after b o t) c = red (sub b o (ent a t c)) := by
  obtain ⟨hx, e⟩ := ent_at ha ht h
  rw [e]
  unfold ent after
  rw [List.getD_eq_getElem?_getD, List.getElem?_map, List.getElem?_eq_getElem hx]
  rfl
theorem ent_on {a b : List Nat} (ha : Al a) {t : List (List Nat)} {n : Nat} (ht : Tb a t n) (hon : ∀ w ∈ t, On b w) {c : Nat} (h : c ∈ sgs a) : On b (ent a t c) := by
  obtain ⟨hx, e⟩ := ent_at ha ht h
  rw [e]
  exact hon _ (List.getElem_mem hx)
theorem img_on {a b : List Nat} (ha : Al a) (hb : Al b) {t : List (List Nat)} {n : Nat} (ht : Tb a t n) (hon : ∀ w ∈ t, On b w) {c : Nat} (h : c ∈ sgs a) : On b (img a t c) := by
  unfold img
  split
  · exact ent_on ha ht hon h
  · exact (ent_on ha ht hon h).und hb
theorem sub_on {a b : List Nat} (ha : Al a) (hb : Al b) {t : List (List Nat)} {n : Nat} (ht : Tb a t n) (hon : ∀ w ∈ t, On b w) : ∀ {w : List Nat}, On a w → On b (sub a t w)
  | [], _ => fun c hc => by cases hc
  | c :: w, h => (img_on ha hb ht hon (h c List.mem_cons_self)).app (sub_on ha hb ht hon fun x hx => h x (List.mem_cons_of_mem _ hx))
theorem sub_sub {a b : List Nat} (ha : Al a) (hb : Al b) {o t : List (List Nat)} {n m : Nat} (ho : Tb b o m) (ht : Tb a t n) (hon : ∀ w ∈ t, On b w) : ∀ {w : List Nat}, On a w → red (sub b o (sub a t w)) = red (sub a (after b o t) w)
  | [], _ => rfl
  | c :: w, h => by
    have hc := h c List.mem_cons_self
    have hw : On a w := fun x hx => h x (List.mem_cons_of_mem _ hx)
    have ih := sub_sub ha hb ho ht hon hw
    have ei := img_on ha hb ht hon hc
    have eo := ent_on ha ht hon hc
    have es := sub_on ha hb ht hon hw
    have w1 := (sub_ok hb ho ei).1
    have w2 := (sub_ok hb ho es).1
    have ta := after_tb hb ho ht hon
    have w3 := (img_ok ha ta hc).1
    have w4 := (sub_ok ha ta hw).1
    have e1 : red (sub b o (img a t c)) = red (img a (after b o t) c) := by
      have wo := (sub_ok hb ho eo).1
      unfold img
      rw [ent_after ha ht hc]
      split
      · rw [red_red wo]
      · rw [sub_und hb ho eo, red_und' wo, red_und' (red_Wd wo), red_red wo]
    have e2 : sub a t (c :: w) = img a t c ++ sub a t w := rfl
    have e3 : sub a (after b o t) (c :: w) = img a (after b o t) c ++ sub a (after b o t) w := rfl
    rw [e2, e3, sub_app, ← red_app w1 w2, e1, ih, red_app w3 w4]
theorem twice {a b : List Nat} (ha : Al a) (hb : Al b) {o t : List (List Nat)} {n m : Nat} (ho : Tb b o m) (ht : Tb a t n) (hon : ∀ w ∈ t, On b w) {w : List Nat} (hw : On a w) : red (sub b o (red (sub a t w))) = red (sub a (after b o t) w) := by
  rw [sub_red hb ho _ (Nat.le_refl _) (sub_on ha hb ht hon hw), sub_sub ha hb ho ht hon hw]
/-- the table of the letters themselves -/
def plain (a : List Nat) : List (List Nat) := a.map fun c => [c]
theorem plain_tb {a : List Nat} (ha : Al a) : Tb a (plain a) 1 := by
  refine ⟨List.length_map _, fun w hw => ?_⟩
  obtain ⟨c, hc, rfl⟩ := List.mem_map.mp hw
  exact ⟨fun x hx => by rw [List.mem_singleton.mp hx]; exact ha.wd c hc, Nat.le_refl _⟩
theorem plain_S (a : List Nat) : wS (plain a) = sL a := by
  unfold wS plain sL
  rw [List.map_map]
  rfl
theorem plain_img {a : List Nat} (ha : Al a) {c : Nat} (h : c ∈ sgs a) : img a (plain a) c = [c] := by
  obtain ⟨hm, hL⟩ := lw_mem ha h
  have e : ent a (plain a) c = [lw c] := by
    unfold ent plain
    rw [List.getD_eq_getElem?_getD, List.getElem?_map, (idx_first hm).1]
    rfl
  unfold img
  rw [e]
  by_cases h97 : 97 ≤ c
  · rw [if_pos h97]
    unfold lw
    rw [if_pos h97]
  · rw [if_neg h97]
    show [sw (lw c)] = [c]
    unfold lw sw
    rw [if_neg h97, if_pos (by rcases isL_of hL with z | z <;> omega)]
    congr 1
theorem plain_sub {a : List Nat} (ha : Al a) : ∀ {w : List Nat}, On a w → sub a (plain a) w = w
  | [], _ => rfl
  | c :: w, h => by
    have e : sub a (plain a) (c :: w) = img a (plain a) c ++ sub a (plain a) w := rfl
    rw [e, plain_img ha (h c List.mem_cons_self), plain_sub ha fun x hx => h x (List.mem_cons_of_mem _ hx)]
    rfl
/-! ### the functions -/
def plainE : E := .cmpr (.var 1) (.nm 1) (.seq (.var 0)) [] [1]
def plainF (f : Nat) : Fn := ⟨2, 1, [(.frz [0] (.ex (.call f [(.var 0)]))),
    (.frz [1] (.ret (.blt .tuple [plainE])))]⟩
def tabB (g : Nat) : List S := [(.frz [0, 3] (.ex (.call g [(.var 0), (.var 3)])))]
def tabE (r : Nat) : E := .cmpr (.call r [(.var 0), (.var 3), (.var 2)]) (.nm 3) (.seq (.var 1)) [] [3]
def tabF (f g r : Nat) : Fn := ⟨4, 3, [(.frz [0] (.ex (.call f [(.var 0)]))),
    (.fr (.nm 3) (.seq (.var 1)) (tabB g)),
    (.ifs (.cmp .ne (.blt .len [(.var 2)]) (.blt .len [(.var 0)]))
    [(.rais 2 ["length"] [(.blt .len [(.var 2)])])]
    []),
    (.frz [0, 3, 2] (.ret (.blt .tuple [tabE r])))]⟩
/-- where the functions stand in the table -/
structure Ix (T : List Fn) (n1 n2 n3 n4 n5 n6 n7 n8 n9 n10 n11 : Nat) : Prop where
  ial : T[n1]? = some isAlF
  iwd : T[n2]? = some isWdF
  cal : T[n3]? = some (chkAlF n1)
  cwd : T[n4]? = some (chkWdF n2)
  cws : T[n5]? = some (chkWdsF n3 n4)
  si : T[n6]? = some sgIdxF
  sd : T[n7]? = some sgDirF
  sw : T[n8]? = some swF
  un : T[n9]? = some (undF n8)
  st : T[n10]? = some (strF n8)
  rp : T[n11]? = some (repF n5 n6 n7 n9 n10)
section
variable {T : List Fn} {k i ial iwd cal cwd cws si sd sw_ un st rp : Nat}
theorem badlen {cf : Nat → List D → Out Rv} {a : List Nat} {ws : List (List Nat)} {d s1 : D} (hd : Sq1 d (wS ws)) (hl : a.length ≤ 1000) (r : List Sl) :
    (ws.length ≠ a.length → evS cf (.ifs (.cmp .ne (.blt .len [(.var 2)]) (.blt .len [(.var 0)])) [(.rais 2 ["length"] [(.blt .len [(.var 2)])])] []) (.v (.str a) :: .v s1 :: .v d :: r) = some (.rs ⟨2, [("length", .int ws.length)]⟩ (.v (.str a) :: .v s1 :: .v d :: r))) ∧
    (ws.length = a.length → evS cf (.ifs (.cmp .ne (.blt .len [(.var 2)]) (.blt .len [(.var 0)])) [(.rais 2 ["length"] [(.blt .len [(.var 2)])])] []) (.v (.str a) :: .v s1 :: .v d :: r) = some (.nx (.v (.str a) :: .v s1 :: .v d :: r))) := by
  have hlim : (1000 : Nat) ≤ lim := by decide
  have h1 := hd.len
  rw [wS_len] at h1
  have h2 := bLen_str (l := a) (by omega)
  constructor
  · intro h
    have e : decide ((ws.length : Int) = (a.length : Int)) = false := decide_eq_false (by omega)
    simp only [evS_ifs, evT_cmp, evE_blt, evL_cons, evL_nil, evE_var, look_s, look_v, bind_okD, blt_len, h1, h2, cop_ne, cEq_ii, e, if_true, Bool.not_false, asB_bl, st_ok, evB_cons, evS_rais, evA_cons, evA_nil, fz_v, List.length_cons, List.length_nil, seq_rs]
    rfl
  · intro h
    have e : decide ((ws.length : Int) = (a.length : Int)) = true := decide_eq_true (by omega)
    simp only [evS_ifs, evT_cmp, evE_blt, evL_cons, evL_nil, evE_var, look_s, look_v, bind_okD, blt_len, h1, h2, cop_ne, cEq_ii, e, if_true, Bool.not_true, asB_bl, st_ok, Bool.false_eq_true, if_false, evB_nil]
theorem rep_fn (X : Ix T ial iwd cal cwd cws si sd sw_ un st rp) {a w : List Nat} {t : List (List Nat)} {d : D} (hd : Sq1 d (wS t)) (hl : a.length ≤ 1000) (hw : w.length ≤ 100000) :
    (isAl a = false → callF T (k + 4) rp [.str a, .str w, d] = .exc ⟨0, [("alphabet", .str a)]⟩) ∧
    (Al a → isWd a w = false → callF T (k + 4) rp [.str a, .str w, d] = .exc ⟨1, [("word", .str w)]⟩) ∧
    (Al a → isWd a w = true → t.length ≠ a.length → callF T (k + 4) rp [.str a, .str w, d] = .exc ⟨2, [("length", .int t.length)]⟩) ∧
    (Al a → isWd a w = true → ∀ b, Tb a t b → b ≤ 100000 → w.length * b ≤ 100000 → callF T (k + 4) rp [.str a, .str w, d] = .ok (.v (.str (red (sub a t w))))) := by
  rw [callF_go X.rp rfl]
  have hlim : (100000 : Nat) ≤ lim := by decide
  have L1 : (1 : Nat) ≤ lim := by decide
  obtain ⟨c1, c2⟩ := chkWds_fn (k := k) X.ial X.cal X.iwd X.cwd X.cws (a := a) (ws := [w]) (d := .tup [.str w]) (.inr rfl) hl (fun v hv => by rw [List.mem_singleton.mp hv]; exact hw)
  have z1 : ∀ env, evE (callF T (k + 3)) (.tup [(.var 1)]) (.v (.str a) :: .v (.str w) :: env) = .ok (.v (.tup [.str w])) := fun env => by
    simp only [evE_tup, evA_cons, evA_nil, evE_var, look_s, look_v, bind_okD, fz_v, List.length_cons, List.length_nil]
    exact if_pos L1
  have s1 : isAl a = true → Wd a → isWd a w = true → evS (callF T (k + 3)) (.frz [0, 1] (.ex (.call cws [(.var 0), (.tup [(.var 1)])]))) [.v (.str a), .v (.str w), .v d, .un, .un, .un] = some (.nx [.v (.str a), .v (.str w), .v d, .un, .un, .un]) := fun h1 h2 h3 => by
    have := (c2 h1 h2).1 (by simp [h3])
    simp only [evS_frz, frzL_cons, frzL_nil, frz1_v, frz1_s, evS_ex, evE_call, evA_cons, evA_nil, z1, evE_var, look_v, bind_okD, fz_v, this, st_ok]
  obtain ⟨l1, l2⟩ := badlen (cf := callF T (k + 3)) (a := a) (ws := t) (d := d) (s1 := .str w) hd hl [.un, .un, .un]
  refine ⟨fun h => ?_, fun h1 h2 => ?_, fun h1 h2 h3 => ?_, fun h1 h2 b h3 h4 h5 => ?_⟩
  · have := c1 h
    show fin (evB (callF T (k + 3)) (_ :: _) [.v (.str a), .v (.str w), .v d, .un, .un, .un]) = _
    rw [evB_cons]
    simp only [evS_frz, frzL_cons, frzL_nil, frz1_v, frz1_s, evS_ex, evE_call, evA_cons, evA_nil, z1, evE_var, look_v, bind_okD, fz_v, this, st_exc, seq_rs, fin_rs]
  · have := (c2 h1.ok h1.wd).2 w (by simp [h2])
    show fin (evB (callF T (k + 3)) (_ :: _) [.v (.str a), .v (.str w), .v d, .un, .un, .un]) = _
    rw [evB_cons]
    simp only [evS_frz, frzL_cons, frzL_nil, frz1_v, frz1_s, evS_ex, evE_call, evA_cons, evA_nil, z1, evE_var, look_v, bind_okD, fz_v, this, st_exc, seq_rs, fin_rs]
  · refine fin_step _ (s1 h1.ok h1.wd h2) ?_
    rw [evB_cons, l1 h3]
    rfl
  · have hon := isWd_mem h2
    refine fin_step _ (s1 h1.ok h1.wd h2) ?_
    refine fin_step _ (l2 h3.len) ?_
    refine fin_step [.v (.str a), .v (.str w), .v d, .own [], .un, .un] (by simp) ?_
    obtain ⟨o4, o5, e1⟩ := rep_loop (k := k + 1) X.si X.sd X.sw X.un h1 h3 h4 hd hon hw
    refine fin_step _ e1 ?_
    obtain ⟨g1, g2⟩ := sub_ok h1 h3 hon
    have ej := join_words (r := .bor (wS (w.map (img a t)))) (ws := w.map (img a t)) rfl (by show (sub a t w).length ≤ lim; omega)
    have es := str_ok (k := k + 1) X.sw X.st g1 (by show _ ≤ 100000; omega)
    have er := ret_v (callF T (k + 3)) [.v (.str a), .v (.str w), .v d, .own (wS (w.map (img a t))), osl o4, osl o5] (e := .call st [(.mth .join (.c (.str [])) [(.var 3)])]) (d := .str (red (sub a t w))) (fun _ z => by cases z) (by
      simp only [evE_call, evA_cons, evA_nil, evE_mth, evE_c, bind_okD, asS_str, evL_cons, evL_nil, evE_var, look_s, look_o, mth_join, ej, fz_v]
      exact es)
    rw [evB_stop er]
    rfl
theorem lrep_fn {ls lu lt : Nat} (hls : T[ls]? = some swF) (hlu : T[lu]? = some (lundF ls)) (hlt : T[lt]? = some (lstrF ls)) (hi : T[i]? = some (lrepF lu lt)) {a w : List Nat} {t : List (List Nat)} {d : D} {b : Nat} (hd : Sq1 d (wS t)) (ha : Al a) (hon : On a w) (ht : Tb a t b) (hb : b ≤ 100000) (hw : w.length ≤ 100000) (hwb : w.length * b ≤ 100000) :
    callF T (k + 3) i [.str a, .str w, d] = .ok (.v (.str (red (sub a t w)))) := by
  rw [callF_go hi rfl]
  have hlim : (100000 : Nat) ≤ lim := by decide
  show fin (evB (callF T (k + 2)) (lrepF lu lt).body [.v (.str a), .v (.str w), .v d, .un, .un, .un]) = _
  refine fin_step [.v (.str a), .v (.str w), .v d, .own [], .un, .un] (by simp) ?_
  obtain ⟨o4, o5, e1⟩ := lrep_loop (k := k) hls hlu ha ht hb hd hon hw
  refine fin_step _ e1 ?_
  obtain ⟨g1, g2⟩ := sub_ok ha ht hon
  have ej := join_words (r := .bor (wS (w.map (img a t)))) (ws := w.map (img a t)) rfl (by show (sub a t w).length ≤ lim; omega)
  have es := lstr_ok (k := k) hls hlt g1 (by show _ ≤ 100000; omega)
  have er := ret_v (callF T (k + 2)) [.v (.str a), .v (.str w), .v d, .own (wS (w.map (img a t))), osl o4, osl o5] (e := .call lt [(.mth .join (.c (.str [])) [(.var 3)])]) (d := .str (red (sub a t w))) (fun _ z => by cases z) (by
    simp only [evE_call, evA_cons, evA_nil, evE_mth, evE_c, bind_okD, asS_str, evL_cons, evL_nil, evE_var, look_s, look_o, mth_join, ej, fz_v]
    exact es)
  rw [evB_stop er]
  rfl
theorem plain_fn (X : Ix T ial iwd cal cwd cws si sd sw_ un st rp) (hi : T[i]? = some (plainF cal)) {a : List Nat} (hl : a.length ≤ 1000) :
    (isAl a = false → callF T (k + 3) i [.str a] = .exc ⟨0, [("alphabet", .str a)]⟩) ∧ (isAl a = true → callF T (k + 3) i [.str a] = .ok (.v (.tup (sL a)))) := by
  rw [callF_go hi rfl]
  have hlim : (100000 : Nat) ≤ lim := by decide
  have h := chkAl_fn (k := k) X.ial X.cal hl
  refine ⟨fun e => ?_, fun e => ?_⟩
  · rw [e] at h
    simp only [Bool.false_eq_true, if_false] at h
    show fin (evB (callF T (k + 2)) (_ :: _) [.v (.str a), .un]) = _
    rw [evB_cons]
    simp only [evS_frz, frzL_cons, frzL_nil, frz1_v, evS_ex, evE_call, evA_cons, evA_nil, evE_var, look_v, bind_okD, fz_v, h, st_exc, seq_rs, fin_rs]
  · rw [e] at h
    simp only [if_true] at h
    show fin (evB (callF T (k + 2)) (plainF cal).body [.v (.str a), .un]) = _
    refine fin_step [.v (.str a), .un] (by simp only [evS_frz, frzL_cons, frzL_nil, frz1_v, evS_ex, evE_call, evA_cons, evA_nil, evE_var, look_v, bind_okD, fz_v, h, st_ok]) ?_
    have e0 : evE (callF T (k + 2)) plainE [.v (.str a), .un] = .ok (.own (sL a)) := by
      unfold plainE
      refine (comp_all (l := a) (s := sD) (g := sD) (fun c => [.v (.str a), .v (sD c)]) ?_ (by omega) ?_ ?_)
      · simp; exact fun _ _ => rfl
      · intro q _; simp
      · intro c _; simp
    have er := ret_v (callF T (k + 2)) [.v (.str a), .un] (e := .blt .tuple [plainE]) (d := .tup (sL a)) (fun _ z => by cases z) (by simp [e0])
    rw [evB_cons, evS_frz]
    simp only [frzL_cons, frzL_nil, frz1_s, frz1_u]
    rw [er]
    rfl
theorem tab_fn (X : Ix T ial iwd cal cwd cws si sd sw_ un st rp) (hi : T[i]? = some (tabF cal cwd rp)) {a : List Nat} {one t : List (List Nat)} {d1 d2 : D} (hd1 : Sq1 d1 (wS one)) (hd2 : Sq1 d2 (wS t)) (hl : a.length ≤ 1000) (hw : ∀ w ∈ one, w.length ≤ 1000) (h1l : one.length ≤ 1000) :
    (isAl a = false → callF T (k + 5) i [.str a, d1, d2] = .exc ⟨0, [("alphabet", .str a)]⟩) ∧
    (Al a → (∀ w, one.find? (fun w => !isWd a w) = some w → callF T (k + 5) i [.str a, d1, d2] = .exc ⟨1, [("word", .str w)]⟩)) ∧
    (Al a → (∀ w ∈ one, isWd a w = true) → t.length ≠ a.length → callF T (k + 5) i [.str a, d1, d2] = .exc ⟨2, [("length", .int t.length)]⟩) ∧
    (Al a → (∀ w ∈ one, isWd a w = true) → ∀ b, Tb a t b → b ≤ 100 → callF T (k + 5) i [.str a, d1, d2] = .ok (.v (.tup (wS (after a t one))))) := by
  rw [callF_go hi rfl]
  have hlim : (100000 : Nat) ≤ lim := by decide
  have h := chkAl_fn (k := k + 2) X.ial X.cal hl
  have s1 : Al a → evS (callF T (k + 4)) (.frz [0] (.ex (.call cal [(.var 0)]))) [.v (.str a), .v d1, .v d2, .un] = some (.nx [.v (.str a), .v d1, .v d2, .un]) := fun e => by
    rw [e.ok] at h
    simp only [if_true] at h
    simp only [evS_frz, frzL_cons, frzL_nil, frz1_v, evS_ex, evE_call, evA_cons, evA_nil, evE_var, look_v, bind_okD, fz_v, h, st_ok]
  have loop := fun (ha : Al a) => forL_raise (f := frB (callF T (k + 4)) (.nm 3) (tabB cwd)) (e := D.str) (fun o => [.v (.str a), .v d1, .v d2, osl o]) (fun w => isWd a w) (fun w => ⟨1, [("word", .str w)]⟩) one none (fun w hm o hp => by
      have hc := chkWd_fn (k := k + 2) X.iwd X.cwd ha.wd hl (v := w) (by have := hw w hm; omega)
      rw [hp] at hc
      simp only [if_true] at hc
      simp only [frB, tgS, tgOk_nm, stOk_s, stOk_os, if_true, tgt_nm, Option.bind_some, tabB, List.set_cons_succ, List.set_cons_zero, evB_cons, evS_frz, frzL_cons, frzL_nil, frz1_v, frz1_s, evS_ex, evE_call, evA_cons, evA_nil, evE_var, look_s, look_v, bind_okD, fz_v, hc, st_ok, seq_nx, evB_nil, osl_some]) (fun w hm o hp => by
      have hc := chkWd_fn (k := k + 2) X.iwd X.cwd ha.wd hl (v := w) (by have := hw w hm; omega)
      rw [hp] at hc
      simp only [Bool.false_eq_true, if_false] at hc
      refine ⟨[.v (.str a), .v d1, .v d2, .v (.str w)], ?_⟩
      simp only [frB, tgS, tgOk_nm, stOk_s, stOk_os, if_true, tgt_nm, Option.bind_some, tabB, List.set_cons_succ, List.set_cons_zero, evB_cons, evS_frz, frzL_cons, frzL_nil, frz1_v, frz1_s, evS_ex, evE_call, evA_cons, evA_nil, evE_var, look_s, look_v, bind_okD, fz_v, hc, st_exc, seq_rs])
  have fr1 := fr_free (cf := callF T (k + 4)) (env := [.v (.str a), .v d1, .v d2, .un]) (t := .nm 3) (it := .seq (.var 1)) (b := tabB cwd) (ds := one.map D.str) (by
    intro i hi xs z
    have hi : i = 1 := List.mem_singleton.mp hi
    subst hi
    cases z) (by simp only [evI_seq, evE_var, look_s, look_v, src_v, bind_okD, hd1.its, ofO_some]; rfl)
  have good : Al a → (∀ w ∈ one, isWd a w = true) → ∃ o', evS (callF T (k + 4)) (.fr (.nm 3) (.seq (.var 1)) (tabB cwd)) [.v (.str a), .v d1, .v d2, .un] = some (.nx [.v (.str a), .v d1, .v d2, osl o']) := fun ha hall => by
    obtain ⟨o', e⟩ := (loop ha).1 (List.find?_eq_none.mpr fun w hm => by simp [hall w hm])
    exact ⟨o', fr1.trans e⟩
  refine ⟨fun e => ?_, fun ha w hf => ?_, fun ha hall hne => ?_, fun ha hall b hb hb2 => ?_⟩
  · rw [e] at h
    simp only [Bool.false_eq_true, if_false] at h
    show fin (evB (callF T (k + 4)) (_ :: _) [.v (.str a), .v d1, .v d2, .un]) = _
    rw [evB_cons]
    simp only [evS_frz, frzL_cons, frzL_nil, frz1_v, evS_ex, evE_call, evA_cons, evA_nil, evE_var, look_v, bind_okD, fz_v, h, st_exc, seq_rs, fin_rs]
  · obtain ⟨env', e⟩ := (loop ha).2 w hf
    refine fin_step _ (s1 ha) ?_
    rw [evB_cons, fr1.trans e]
    rfl
  · obtain ⟨o', e⟩ := good ha hall
    refine fin_step _ (s1 ha) ?_
    refine fin_step _ e ?_
    rw [evB_cons, (badlen (cf := callF T (k + 4)) (s1 := d1) hd2 hl [osl o']).1 hne]
    rfl
  · obtain ⟨o', e⟩ := good ha hall
    refine fin_step _ (s1 ha) ?_
    refine fin_step _ e ?_
    refine fin_step _ ((badlen (cf := callF T (k + 4)) (s1 := d1) hd2 hl [osl o']).2 hb.len) ?_
    have e0 : evE (callF T (k + 4)) (tabE rp) [.v (.str a), .v d1, .v d2, osl o'] = .ok (.own (wS (after a t one))) := by
      unfold tabE
      refine (comp_all (l := one) (s := D.str) (g := fun w => .str (red (sub a t w))) (fun w => [.v (.str a), .v d1, .v d2, .v (.str w)]) ?_ (by omega) ?_ ?_).trans ?_
      · simp only [evI_seq, evE_var, look_s, look_v, src_v, bind_okD, hd1.its, ofO_some]; rfl
      · intro q _; simp
      · intro w hm
        have hwl := hw w hm
        have hmul : w.length * b ≤ 1000 * 100 := Nat.mul_le_mul hwl hb2
        have := (rep_fn (k := k) X hd2 hl (a := a) (w := w) (by omega)).2.2.2 ha (hall w hm) b hb (by omega) (by omega)
        simp only [evE_call, evA_cons, evA_nil, evE_var, look_s, look_v, bind_okD, fz_v, this]
      · rw [wS, after, List.map_map]; rfl
    have er := ret_v (callF T (k + 4)) [.v (.str a), .v d1, .v d2, osl o'] (e := .blt .tuple [tabE rp]) (d := .tup (wS (after a t one))) (fun _ z => by cases z) (by simp [e0])
    rw [evB_cons, evS_frz]
    simp only [frzL_cons, frzL_nil, frz1_s, frz1_v, frz1_os]
    rw [er]
    rfl
end
end Wl
set_option Elab.async false
set_option linter.all false
set_option maxRecDepth 100000
set_option autoImplicit false
set_option maxHeartbeats 4000000
/-! Short rules for expressions whose parts are known. -/
namespace Pd
open PySem L2
section
variable {cf : Nat → List D → Out Rv} {env : Env} {a b c : E} {x y z : D} {R : Out Rv}
theorem lst1 (ha : (evE cf a env).bind Rv.fz = .ok x) : evE cf (.lst [a]) env = .ok (.own [x]) := by
  simp only [evE_lst, evA_cons, evA_nil, ha, bind_okD, List.length_cons, List.length_nil]
  exact if_pos (show (1 : Nat) ≤ lim from by decide)
theorem lst2 (ha : (evE cf a env).bind Rv.fz = .ok x) (hb : (evE cf b env).bind Rv.fz = .ok y) : evE cf (.lst [a, b]) env = .ok (.own [x, y]) := by
  simp only [evE_lst, evA_cons, evA_nil, ha, hb, bind_okD, List.length_cons, List.length_nil]
  exact if_pos (show (2 : Nat) ≤ lim from by decide)
theorem lst3 (ha : (evE cf a env).bind Rv.fz = .ok x) (hb : (evE cf b env).bind Rv.fz = .ok y) (hc : (evE cf c env).bind Rv.fz = .ok z) : evE cf (.lst [a, b, c]) env = .ok (.own [x, y, z]) := by
  simp only [evE_lst, evA_cons, evA_nil, ha, hb, hc, bind_okD, List.length_cons, List.length_nil]
  exact if_pos (show (3 : Nat) ≤ lim from by decide)
theorem fzv (ha : evE cf a env = .ok (.v x)) : (evE cf a env).bind Rv.fz = .ok x := by rw [ha]; rfl
theorem fzo {xs : List D} (ha : evE cf a env = .ok (.own xs)) : (evE cf a env).bind Rv.fz = .ok (.lst xs) := by rw [ha]; rfl
theorem fvar {i : Nat} (h : env[i]? = some (.v x)) : evE cf (.var i) env = .ok (.v x) := by
  rw [evE_var]
  unfold look
  rw [h]
theorem fown {i : Nat} {xs : List D} (h : env[i]? = some (.own xs)) : evE cf (.var i) env = .ok (.bor xs) := by
  rw [evE_var]
  unfold look
  rw [h]
theorem fc (d : D) : evE cf (.c d) env = .ok (.v d) := evE_c cf env d
theorem call1 {f : Nat} (ha : (evE cf a env).bind Rv.fz = .ok x) (h : cf f [x] = R) : evE cf (.call f [a]) env = R := by
  simp only [evE_call, evA_cons, evA_nil, ha, bind_okD, h]
theorem call2 {f : Nat} (ha : (evE cf a env).bind Rv.fz = .ok x) (hb : (evE cf b env).bind Rv.fz = .ok y) (h : cf f [x, y] = R) : evE cf (.call f [a, b]) env = R := by
  simp only [evE_call, evA_cons, evA_nil, ha, hb, bind_okD, h]
theorem call3 {f : Nat} (ha : (evE cf a env).bind Rv.fz = .ok x) (hb : (evE cf b env).bind Rv.fz = .ok y) (hc : (evE cf c env).bind Rv.fz = .ok z) (h : cf f [x, y, z] = R) : evE cf (.call f [a, b, c]) env = R := by
  simp only [evE_call, evA_cons, evA_nil, ha, hb, hc, bind_okD, h]
theorem call4 {f : Nat} {e : E} {u : D} (ha : (evE cf a env).bind Rv.fz = .ok x) (hb : (evE cf b env).bind Rv.fz = .ok y) (hc : (evE cf c env).bind Rv.fz = .ok z) (he : (evE cf e env).bind Rv.fz = .ok u) (h : cf f [x, y, z, u] = R) : evE cf (.call f [a, b, c, e]) env = R := by
  simp only [evE_call, evA_cons, evA_nil, ha, hb, hc, he, bind_okD, h]
theorem bin2 {o : BOp} {r s : Rv} (ha : evE cf a env = .ok r) (hb : evE cf b env = .ok s) (h : bop o r s = R) : evE cf (.bin o a b) env = R := by
  simp only [evE_bin, ha, hb, bind_okD, h]
theorem idx2 {r s : Rv} (ha : evE cf a env = .ok r) (hb : evE cf b env = .ok s) (h : getI r s = R) : evE cf (.idx a b) env = R := by
  simp only [evE_idx, ha, hb, bind_okD, h]
theorem blt1 {f : Blt} {r : Rv} (ha : evE cf a env = .ok r) (h : doBlt f [r] = R) : evE cf (.blt f [a]) env = R := by
  simp only [evE_blt, evL_cons, evL_nil, ha, bind_okD, h]
theorem asg1 {i : Nat} {r : Rv} {s : Sl} (ha : evE cf a env = .ok r) (hs : r.sl = some s) (hk : stOk env i = true) : evS cf (.asg (.nm i) a) env = some (.nx (env.set i s)) := by
  rw [evS_asg, ha, st_ok]
  unfold setO
  rw [if_pos hk, hs]
/-- an if whose texts are the same -/
theorem ne_repr {r s : Rv} {l : List Nat} {L : List S} (ha : evE cf a env = .ok r) (hb : evE cf b env = .ok s) (h1 : doRepr r = .ok (.v (.str l))) (h2 : doRepr s = .ok (.v (.str l))) : evS cf (.ifs (.cmp .ne (.blt .repr [a]) (.blt .repr [b])) L []) env = some (.nx env) := by
  simp only [evS_ifs, evT_cmp, evE_blt, evL_cons, evL_nil, ha, hb, bind_okD, blt_repr, bRepr_1, h1, h2, cop_ne, cEq_ss, decide_true, if_true, Bool.not_true, asB_bl, st_ok, Bool.false_eq_true, if_false, evB_nil]
theorem eq_repr {r s : Rv} {l : List Nat} (ha : evE cf a env = .ok r) (hb : evE cf b env = .ok s) (h1 : doRepr r = .ok (.v (.str l))) (h2 : doRepr s = .ok (.v (.str l))) : evE cf (.cmp .eq (.blt .repr [a]) (.blt .repr [b])) env = .ok (.v (.bl true)) := by
  simp only [evE_cmp, evE_blt, evL_cons, evL_nil, ha, hb, bind_okD, blt_repr, bRepr_1, h1, h2, cop_eq, cEq_ss, decide_true]
  rfl
end
/-! ### short texts and numbers, and lists of them -/
def asc (l : List Nat) : Prop := ∀ c ∈ l, c < 128
/-- small data: numbers, texts, lists and tuples of them (q: how deep) -/
theorem bd_asc {l : List Nat} {n : Nat} (h : asc l) (hl : l.length ≤ n) : Bd (.str l) (4 * n + 2) 0 := by
  refine ⟨?_, ?_, Nat.le_refl _⟩
  · show (l.all fun c => decide (c < 256)) = true
    exact List.all_eq_true.mpr fun c hc => decide_eq_true (Nat.lt_trans (h c hc) (by decide))
  · show 4 * l.length + 2 ≤ 4 * n + 2
    omega
end Pd
set_option Elab.async false
set_option linter.all false
set_option maxRecDepth 100000
set_option autoImplicit false
set_option maxHeartbeats 4000000
namespace K01
open PySem PyProof.Rows L2 TL RZ Pd
def topS (i : Nat) : Stmt := PySem.Challenge.pw_twostoreys_k01_tables.main.body.getD i (.Pass ⟨0, 0, 0, 0⟩)
abbrev d0 : Df := ⟨topS 0, "_wall", ["k"], ["k"]⟩
abbrev d1 : Df := ⟨topS 8, "is_alphabet", ["value", "letter", "index"], ["value"]⟩
abbrev d2 : Df := ⟨topS 9, "is_word", ["alphabet", "value", "signs", "sign"], ["alphabet", "value"]⟩
abbrev d3 : Df := ⟨topS 10, "check_alphabet", ["alphabet"], ["alphabet"]⟩
abbrev d4 : Df := ⟨topS 11, "check_word", ["alphabet", "word"], ["alphabet", "word"]⟩
abbrev d5 : Df := ⟨topS 12, "check_words", ["alphabet", "words", "word"], ["alphabet", "words"]⟩
abbrev d6 : Df := ⟨topS 13, "sign_index", ["alphabet", "sign"], ["alphabet", "sign"]⟩
abbrev d7 : Df := ⟨topS 14, "sign_direction", ["sign"], ["sign"]⟩
abbrev d8 : Df := ⟨topS 16, "swapped", ["sign"], ["sign"]⟩
abbrev d9 : Df := ⟨topS 17, "undone", ["word", "sign"], ["word"]⟩
abbrev d10 : Df := ⟨topS 18, "struck", ["word", "signs", "sign"], ["word"]⟩
abbrev d11 : Df := ⟨topS 20, "replaced", ["alphabet", "word", "table", "parts", "sign", "part"], ["alphabet", "word", "table"]⟩
abbrev d12 : Df := ⟨topS 21, "plain_table", ["alphabet", "letter"], ["alphabet"]⟩
abbrev d13 : Df := ⟨topS 22, "table_after", ["middle", "one", "two", "word"], ["middle", "one", "two"]⟩
abbrev d14 : Df := ⟨topS 24, "_law_cell", ["script", "k", "seed", "cell"], ["script", "k"]⟩
abbrev d15 : Df := ⟨topS 25, "_law_digits", ["cell", "bases", "row", "number", "seed", "k", "base", "twice"], ["cell", "bases"]⟩
abbrev d16 : Df := ⟨topS 26, "_law_word", ["alphabet", "row", "many", "signs", "letter", "k"], ["alphabet", "row", "many"]⟩
abbrev d17 : Df := ⟨topS 27, "_law_swapped", ["sign"], ["sign"]⟩
abbrev d18 : Df := ⟨topS 28, "_law_undone", ["word", "k"], ["word"]⟩
abbrev d19 : Df := ⟨topS 29, "_law_struck", ["word", "kept_signs", "sign"], ["word"]⟩
abbrev d20 : Df := ⟨topS 30, "_law_asked", ["door", "parts", "e", "marks"], ["door", "parts"]⟩
abbrev d21 : Df := ⟨topS 31, "_law_replaced", ["alphabet", "word", "table", "parts", "sign", "part"], ["alphabet", "word", "table"]⟩
abbrev d22 : Df := ⟨topS 32, "_law_four", ["row", "letters", "alphabet", "at", "k"], ["row"]⟩
abbrev d23 : Df := ⟨topS 33, "_law_foreign", ["alphabet", "number", "pool", "letter"], ["alphabet", "number"]⟩
abbrev d24 : Df := ⟨topS 34, "_law_no_alphabet", ["alphabet", "kind", "at", "number", "letters", "place", "mark", "first"], ["alphabet", "kind", "at", "number"]⟩
abbrev d25 : Df := ⟨topS 35, "_law_refused_right", ["first", "second", "word", "table", "other", "row", "bad", "at", "strange", "many", "short", "part", "wrong", "spoilt", "long"], ["first", "second", "word", "table", "other", "row"]⟩
abbrev d26 : Df := ⟨topS 36, "law", ["script", "shape", "first", "second", "sizes", "word", "rows", "table", "other", "due", "after", "passed", "before", "told", "twice", "k", "one", "j", "letter"], ["script"]⟩
def dfs : List Df := [d0, d1, d2, d3, d4, d5, d6, d7, d8, d9, d10, d11, d12, d13, d14, d15, d16, d17, d18, d19, d20, d21, d22, d23, d24, d25, d26]
theorem all_of {P : Df → Prop} (h0 : P d0) (h1 : P d1) (h2 : P d2) (h3 : P d3) (h4 : P d4) (h5 : P d5) (h6 : P d6) (h7 : P d7) (h8 : P d8) (h9 : P d9) (h10 : P d10) (h11 : P d11) (h12 : P d12) (h13 : P d13) (h14 : P d14) (h15 : P d15) (h16 : P d16) (h17 : P d17) (h18 : P d18) (h19 : P d19) (h20 : P d20) (h21 : P d21) (h22 : P d22) (h23 : P d23) (h24 : P d24) (h25 : P d25) (h26 : P d26) : ∀ d ∈ dfs, P d := by
  intro d h
  simp only [dfs, List.mem_cons, List.not_mem_nil, or_false] at h
  rcases h with rfl | rfl | rfl | rfl | rfl | rfl | rfl | rfl | rfl | rfl | rfl | rfl | rfl | rfl | rfl | rfl | rfl | rfl | rfl | rfl | rfl | rfl | rfl | rfl | rfl | rfl | rfl <;> assumption
theorem scopes : ∀ d ∈ dfs, FnScope d.N d.ps (defScope d.st) := by
  apply all_of
  all_goals exact ⟨rfl, rfl, rfl, by decide +kernel, rfl, by decide +kernel, by decide +kernel⟩
theorem b0 : BindsOk d0 := fun _ _ _ _ _ _ us hl => match us, hl with
  | [_], _ => rfl
theorem b1 : BindsOk d1 := fun _ _ _ _ _ _ us hl => match us, hl with
  | [_], _ => rfl
theorem b2 : BindsOk d2 := fun _ _ _ _ _ _ us hl => match us, hl with
  | [_, _], _ => rfl
theorem b3 : BindsOk d3 := fun _ _ _ _ _ _ us hl => match us, hl with
  | [_], _ => rfl
theorem b4 : BindsOk d4 := fun _ _ _ _ _ _ us hl => match us, hl with
  | [_, _], _ => rfl
theorem b5 : BindsOk d5 := fun _ _ _ _ _ _ us hl => match us, hl with
  | [_, _], _ => rfl
theorem b6 : BindsOk d6 := fun _ _ _ _ _ _ us hl => match us, hl with
  | [_, _], _ => rfl
theorem b7 : BindsOk d7 := fun _ _ _ _ _ _ us hl => match us, hl with
  | [_], _ => rfl
theorem b8 : BindsOk d8 := fun _ _ _ _ _ _ us hl => match us, hl with
  | [_], _ => rfl
theorem b9 : BindsOk d9 := fun _ _ _ _ _ _ us hl => match us, hl with
  | [_], _ => rfl
theorem b10 : BindsOk d10 := fun _ _ _ _ _ _ us hl => match us, hl with
  | [_], _ => rfl
theorem b11 : BindsOk d11 := fun _ _ _ _ _ _ us hl => match us, hl with
  | [_, _, _], _ => rfl
theorem b12 : BindsOk d12 := fun _ _ _ _ _ _ us hl => match us, hl with
  | [_], _ => rfl
theorem b13 : BindsOk d13 := fun _ _ _ _ _ _ us hl => match us, hl with
  | [_, _, _], _ => rfl
theorem b14 : BindsOk d14 := fun _ _ _ _ _ _ us hl => match us, hl with
  | [_, _], _ => rfl
theorem b15 : BindsOk d15 := fun _ _ _ _ _ _ us hl => match us, hl with
  | [_, _], _ => rfl
theorem b16 : BindsOk d16 := fun _ _ _ _ _ _ us hl => match us, hl with
  | [_, _, _], _ => rfl
theorem b17 : BindsOk d17 := fun _ _ _ _ _ _ us hl => match us, hl with
  | [_], _ => rfl
theorem b18 : BindsOk d18 := fun _ _ _ _ _ _ us hl => match us, hl with
  | [_], _ => rfl
theorem b19 : BindsOk d19 := fun _ _ _ _ _ _ us hl => match us, hl with
  | [_], _ => rfl
theorem b20 : BindsOk d20 := fun _ _ _ _ _ _ us hl => match us, hl with
  | [_, _], _ => rfl
theorem b21 : BindsOk d21 := fun _ _ _ _ _ _ us hl => match us, hl with
  | [_, _, _], _ => rfl
theorem b22 : BindsOk d22 := fun _ _ _ _ _ _ us hl => match us, hl with
  | [_], _ => rfl
theorem b23 : BindsOk d23 := fun _ _ _ _ _ _ us hl => match us, hl with
  | [_, _], _ => rfl
theorem b24 : BindsOk d24 := fun _ _ _ _ _ _ us hl => match us, hl with
  | [_, _, _, _], _ => rfl
theorem b25 : BindsOk d25 := fun _ _ _ _ _ _ us hl => match us, hl with
  | [_, _, _, _, _, _], _ => rfl
theorem b26 : BindsOk d26 := fun _ _ _ _ _ _ us hl => match us, hl with
  | [_], _ => rfl
theorem binds : ∀ d ∈ dfs, BindsOk d := all_of b0 b1 b2 b3 b4 b5 b6 b7 b8 b9 b10 b11 b12 b13 b14 b15 b16 b17 b18 b19 b20 b21 b22 b23 b24 b25 b26
theorem l0 {K : Fg} {f : Addr} {oc : Value} {od an : Option Addr} {osl : Array (Option Value)} {kV doc pm cdv ct : Value} (h1 : PySem.W.nsIn K mainGlobals "_wall" = some (some (.ref f))) (h2 : K.lookup f = some ⟨oc, od, .func (PySem.W.fnOf "_wall" "_wall" (defArgs (topS 0)) (defBody (topS 0)) (defScope (topS 0)) .none kV doc pm an cdv ct), osl⟩) (h3 : PySem.W.codeIn K cdv "_wall" = true) (h4 : PySem.W.keepIn K (.ref f) = true) : Left K d0 := ⟨f, oc, od, an, osl, kV, doc, pm, cdv, ct, h1, h2, h3, h4⟩
theorem l1 {K : Fg} {f : Addr} {oc : Value} {od an : Option Addr} {osl : Array (Option Value)} {kV doc pm cdv ct : Value} (h1 : PySem.W.nsIn K mainGlobals "is_alphabet" = some (some (.ref f))) (h2 : K.lookup f = some ⟨oc, od, .func (PySem.W.fnOf "is_alphabet" "is_alphabet" (defArgs (topS 8)) (defBody (topS 8)) (defScope (topS 8)) .none kV doc pm an cdv ct), osl⟩) (h3 : PySem.W.codeIn K cdv "is_alphabet" = true) (h4 : PySem.W.keepIn K (.ref f) = true) : Left K d1 := ⟨f, oc, od, an, osl, kV, doc, pm, cdv, ct, h1, h2, h3, h4⟩
theorem l2 {K : Fg} {f : Addr} {oc : Value} {od an : Option Addr} {osl : Array (Option Value)} {kV doc pm cdv ct : Value} (h1 : PySem.W.nsIn K mainGlobals "is_word" = some (some (.ref f))) (h2 : K.lookup f = some ⟨oc, od, .func (PySem.W.fnOf "is_word" "is_word" (defArgs (topS 9)) (defBody (topS 9)) (defScope (topS 9)) .none kV doc pm an cdv ct), osl⟩) (h3 : PySem.W.codeIn K cdv "is_word" = true) (h4 : PySem.W.keepIn K (.ref f) = true) : Left K d2 := ⟨f, oc, od, an, osl, kV, doc, pm, cdv, ct, h1, h2, h3, h4⟩
theorem l3 {K : Fg} {f : Addr} {oc : Value} {od an : Option Addr} {osl : Array (Option Value)} {kV doc pm cdv ct : Value} (h1 : PySem.W.nsIn K mainGlobals "check_alphabet" = some (some (.ref f))) (h2 : K.lookup f = some ⟨oc, od, .func (PySem.W.fnOf "check_alphabet" "check_alphabet" (defArgs (topS 10)) (defBody (topS 10)) (defScope (topS 10)) .none kV doc pm an cdv ct), osl⟩) (h3 : PySem.W.codeIn K cdv "check_alphabet" = true) (h4 : PySem.W.keepIn K (.ref f) = true) : Left K d3 := ⟨f, oc, od, an, osl, kV, doc, pm, cdv, ct, h1, h2, h3, h4⟩
theorem l4 {K : Fg} {f : Addr} {oc : Value} {od an : Option Addr} {osl : Array (Option Value)} {kV doc pm cdv ct : Value} (h1 : PySem.W.nsIn K mainGlobals "check_word" = some (some (.ref f))) (h2 : K.lookup f = some ⟨oc, od, .func (PySem.W.fnOf "check_word" "check_word" (defArgs (topS 11)) (defBody (topS 11)) (defScope (topS 11)) .none kV doc pm an cdv ct), osl⟩) (h3 : PySem.W.codeIn K cdv "check_word" = true) (h4 : PySem.W.keepIn K (.ref f) = true) : Left K d4 := ⟨f, oc, od, an, osl, kV, doc, pm, cdv, ct, h1, h2, h3, h4⟩
theorem l5 {K : Fg} {f : Addr} {oc : Value} {od an : Option Addr} {osl : Array (Option Value)} {kV doc pm cdv ct : Value} (h1 : PySem.W.nsIn K mainGlobals "check_words" = some (some (.ref f))) (h2 : K.lookup f = some ⟨oc, od, .func (PySem.W.fnOf "check_words" "check_words" (defArgs (topS 12)) (defBody (topS 12)) (defScope (topS 12)) .none kV doc pm an cdv ct), osl⟩) (h3 : PySem.W.codeIn K cdv "check_words" = true) (h4 : PySem.W.keepIn K (.ref f) = true) : Left K d5 := ⟨f, oc, od, an, osl, kV, doc, pm, cdv, ct, h1, h2, h3, h4⟩
theorem l6 {K : Fg} {f : Addr} {oc : Value} {od an : Option Addr} {osl : Array (Option Value)} {kV doc pm cdv ct : Value} (h1 : PySem.W.nsIn K mainGlobals "sign_index" = some (some (.ref f))) (h2 : K.lookup f = some ⟨oc, od, .func (PySem.W.fnOf "sign_index" "sign_index" (defArgs (topS 13)) (defBody (topS 13)) (defScope (topS 13)) .none kV doc pm an cdv ct), osl⟩) (h3 : PySem.W.codeIn K cdv "sign_index" = true) (h4 : PySem.W.keepIn K (.ref f) = true) : Left K d6 := ⟨f, oc, od, an, osl, kV, doc, pm, cdv, ct, h1, h2, h3, h4⟩
theorem l7 {K : Fg} {f : Addr} {oc : Value} {od an : Option Addr} {osl : Array (Option Value)} {kV doc pm cdv ct : Value} (h1 : PySem.W.nsIn K mainGlobals "sign_direction" = some (some (.ref f))) (h2 : K.lookup f = some ⟨oc, od, .func (PySem.W.fnOf "sign_direction" "sign_direction" (defArgs (topS 14)) (defBody (topS 14)) (defScope (topS 14)) .none kV doc pm an cdv ct), osl⟩) (h3 : PySem.W.codeIn K cdv "sign_direction" = true) (h4 : PySem.W.keepIn K (.ref f) = true) : Left K d7 := ⟨f, oc, od, an, osl, kV, doc, pm, cdv, ct, h1, h2, h3, h4⟩
theorem l8 {K : Fg} {f : Addr} {oc : Value} {od an : Option Addr} {osl : Array (Option Value)} {kV doc pm cdv ct : Value} (h1 : PySem.W.nsIn K mainGlobals "swapped" = some (some (.ref f))) (h2 : K.lookup f = some ⟨oc, od, .func (PySem.W.fnOf "swapped" "swapped" (defArgs (topS 16)) (defBody (topS 16)) (defScope (topS 16)) .none kV doc pm an cdv ct), osl⟩) (h3 : PySem.W.codeIn K cdv "swapped" = true) (h4 : PySem.W.keepIn K (.ref f) = true) : Left K d8 := ⟨f, oc, od, an, osl, kV, doc, pm, cdv, ct, h1, h2, h3, h4⟩
theorem l9 {K : Fg} {f : Addr} {oc : Value} {od an : Option Addr} {osl : Array (Option Value)} {kV doc pm cdv ct : Value} (h1 : PySem.W.nsIn K mainGlobals "undone" = some (some (.ref f))) (h2 : K.lookup f = some ⟨oc, od, .func (PySem.W.fnOf "undone" "undone" (defArgs (topS 17)) (defBody (topS 17)) (defScope (topS 17)) .none kV doc pm an cdv ct), osl⟩) (h3 : PySem.W.codeIn K cdv "undone" = true) (h4 : PySem.W.keepIn K (.ref f) = true) : Left K d9 := ⟨f, oc, od, an, osl, kV, doc, pm, cdv, ct, h1, h2, h3, h4⟩
theorem l10 {K : Fg} {f : Addr} {oc : Value} {od an : Option Addr} {osl : Array (Option Value)} {kV doc pm cdv ct : Value} (h1 : PySem.W.nsIn K mainGlobals "struck" = some (some (.ref f))) (h2 : K.lookup f = some ⟨oc, od, .func (PySem.W.fnOf "struck" "struck" (defArgs (topS 18)) (defBody (topS 18)) (defScope (topS 18)) .none kV doc pm an cdv ct), osl⟩) (h3 : PySem.W.codeIn K cdv "struck" = true) (h4 : PySem.W.keepIn K (.ref f) = true) : Left K d10 := ⟨f, oc, od, an, osl, kV, doc, pm, cdv, ct, h1, h2, h3, h4⟩
theorem l11 {K : Fg} {f : Addr} {oc : Value} {od an : Option Addr} {osl : Array (Option Value)} {kV doc pm cdv ct : Value} (h1 : PySem.W.nsIn K mainGlobals "replaced" = some (some (.ref f))) (h2 : K.lookup f = some ⟨oc, od, .func (PySem.W.fnOf "replaced" "replaced" (defArgs (topS 20)) (defBody (topS 20)) (defScope (topS 20)) .none kV doc pm an cdv ct), osl⟩) (h3 : PySem.W.codeIn K cdv "replaced" = true) (h4 : PySem.W.keepIn K (.ref f) = true) : Left K d11 := ⟨f, oc, od, an, osl, kV, doc, pm, cdv, ct, h1, h2, h3, h4⟩
theorem l12 {K : Fg} {f : Addr} {oc : Value} {od an : Option Addr} {osl : Array (Option Value)} {kV doc pm cdv ct : Value} (h1 : PySem.W.nsIn K mainGlobals "plain_table" = some (some (.ref f))) (h2 : K.lookup f = some ⟨oc, od, .func (PySem.W.fnOf "plain_table" "plain_table" (defArgs (topS 21)) (defBody (topS 21)) (defScope (topS 21)) .none kV doc pm an cdv ct), osl⟩) (h3 : PySem.W.codeIn K cdv "plain_table" = true) (h4 : PySem.W.keepIn K (.ref f) = true) : Left K d12 := ⟨f, oc, od, an, osl, kV, doc, pm, cdv, ct, h1, h2, h3, h4⟩
theorem l13 {K : Fg} {f : Addr} {oc : Value} {od an : Option Addr} {osl : Array (Option Value)} {kV doc pm cdv ct : Value} (h1 : PySem.W.nsIn K mainGlobals "table_after" = some (some (.ref f))) (h2 : K.lookup f = some ⟨oc, od, .func (PySem.W.fnOf "table_after" "table_after" (defArgs (topS 22)) (defBody (topS 22)) (defScope (topS 22)) .none kV doc pm an cdv ct), osl⟩) (h3 : PySem.W.codeIn K cdv "table_after" = true) (h4 : PySem.W.keepIn K (.ref f) = true) : Left K d13 := ⟨f, oc, od, an, osl, kV, doc, pm, cdv, ct, h1, h2, h3, h4⟩
theorem l14 {K : Fg} {f : Addr} {oc : Value} {od an : Option Addr} {osl : Array (Option Value)} {kV doc pm cdv ct : Value} (h1 : PySem.W.nsIn K mainGlobals "_law_cell" = some (some (.ref f))) (h2 : K.lookup f = some ⟨oc, od, .func (PySem.W.fnOf "_law_cell" "_law_cell" (defArgs (topS 24)) (defBody (topS 24)) (defScope (topS 24)) .none kV doc pm an cdv ct), osl⟩) (h3 : PySem.W.codeIn K cdv "_law_cell" = true) (h4 : PySem.W.keepIn K (.ref f) = true) : Left K d14 := ⟨f, oc, od, an, osl, kV, doc, pm, cdv, ct, h1, h2, h3, h4⟩
theorem l15 {K : Fg} {f : Addr} {oc : Value} {od an : Option Addr} {osl : Array (Option Value)} {kV doc pm cdv ct : Value} (h1 : PySem.W.nsIn K mainGlobals "_law_digits" = some (some (.ref f))) (h2 : K.lookup f = some ⟨oc, od, .func (PySem.W.fnOf "_law_digits" "_law_digits" (defArgs (topS 25)) (defBody (topS 25)) (defScope (topS 25)) .none kV doc pm an cdv ct), osl⟩) (h3 : PySem.W.codeIn K cdv "_law_digits" = true) (h4 : PySem.W.keepIn K (.ref f) = true) : Left K d15 := ⟨f, oc, od, an, osl, kV, doc, pm, cdv, ct, h1, h2, h3, h4⟩
theorem l16 {K : Fg} {f : Addr} {oc : Value} {od an : Option Addr} {osl : Array (Option Value)} {kV doc pm cdv ct : Value} (h1 : PySem.W.nsIn K mainGlobals "_law_word" = some (some (.ref f))) (h2 : K.lookup f = some ⟨oc, od, .func (PySem.W.fnOf "_law_word" "_law_word" (defArgs (topS 26)) (defBody (topS 26)) (defScope (topS 26)) .none kV doc pm an cdv ct), osl⟩) (h3 : PySem.W.codeIn K cdv "_law_word" = true) (h4 : PySem.W.keepIn K (.ref f) = true) : Left K d16 := ⟨f, oc, od, an, osl, kV, doc, pm, cdv, ct, h1, h2, h3, h4⟩
theorem l17 {K : Fg} {f : Addr} {oc : Value} {od an : Option Addr} {osl : Array (Option Value)} {kV doc pm cdv ct : Value} (h1 : PySem.W.nsIn K mainGlobals "_law_swapped" = some (some (.ref f))) (h2 : K.lookup f = some ⟨oc, od, .func (PySem.W.fnOf "_law_swapped" "_law_swapped" (defArgs (topS 27)) (defBody (topS 27)) (defScope (topS 27)) .none kV doc pm an cdv ct), osl⟩) (h3 : PySem.W.codeIn K cdv "_law_swapped" = true) (h4 : PySem.W.keepIn K (.ref f) = true) : Left K d17 := ⟨f, oc, od, an, osl, kV, doc, pm, cdv, ct, h1, h2, h3, h4⟩
theorem l18 {K : Fg} {f : Addr} {oc : Value} {od an : Option Addr} {osl : Array (Option Value)} {kV doc pm cdv ct : Value} (h1 : PySem.W.nsIn K mainGlobals "_law_undone" = some (some (.ref f))) (h2 : K.lookup f = some ⟨oc, od, .func (PySem.W.fnOf "_law_undone" "_law_undone" (defArgs (topS 28)) (defBody (topS 28)) (defScope (topS 28)) .none kV doc pm an cdv ct), osl⟩) (h3 : PySem.W.codeIn K cdv "_law_undone" = true) (h4 : PySem.W.keepIn K (.ref f) = true) : Left K d18 := ⟨f, oc, od, an, osl, kV, doc, pm, cdv, ct, h1, h2, h3, h4⟩
theorem l19 {K : Fg} {f : Addr} {oc : Value} {od an : Option Addr} {osl : Array (Option Value)} {kV doc pm cdv ct : Value} (h1 : PySem.W.nsIn K mainGlobals "_law_struck" = some (some (.ref f))) (h2 : K.lookup f = some ⟨oc, od, .func (PySem.W.fnOf "_law_struck" "_law_struck" (defArgs (topS 29)) (defBody (topS 29)) (defScope (topS 29)) .none kV doc pm an cdv ct), osl⟩) (h3 : PySem.W.codeIn K cdv "_law_struck" = true) (h4 : PySem.W.keepIn K (.ref f) = true) : Left K d19 := ⟨f, oc, od, an, osl, kV, doc, pm, cdv, ct, h1, h2, h3, h4⟩
theorem l20 {K : Fg} {f : Addr} {oc : Value} {od an : Option Addr} {osl : Array (Option Value)} {kV doc pm cdv ct : Value} (h1 : PySem.W.nsIn K mainGlobals "_law_asked" = some (some (.ref f))) (h2 : K.lookup f = some ⟨oc, od, .func (PySem.W.fnOf "_law_asked" "_law_asked" (defArgs (topS 30)) (defBody (topS 30)) (defScope (topS 30)) .none kV doc pm an cdv ct), osl⟩) (h3 : PySem.W.codeIn K cdv "_law_asked" = true) (h4 : PySem.W.keepIn K (.ref f) = true) : Left K d20 := ⟨f, oc, od, an, osl, kV, doc, pm, cdv, ct, h1, h2, h3, h4⟩
theorem l21 {K : Fg} {f : Addr} {oc : Value} {od an : Option Addr} {osl : Array (Option Value)} {kV doc pm cdv ct : Value} (h1 : PySem.W.nsIn K mainGlobals "_law_replaced" = some (some (.ref f))) (h2 : K.lookup f = some ⟨oc, od, .func (PySem.W.fnOf "_law_replaced" "_law_replaced" (defArgs (topS 31)) (defBody (topS 31)) (defScope (topS 31)) .none kV doc pm an cdv ct), osl⟩) (h3 : PySem.W.codeIn K cdv "_law_replaced" = true) (h4 : PySem.W.keepIn K (.ref f) = true) : Left K d21 := ⟨f, oc, od, an, osl, kV, doc, pm, cdv, ct, h1, h2, h3, h4⟩
theorem l22 {K : Fg} {f : Addr} {oc : Value} {od an : Option Addr} {osl : Array (Option Value)} {kV doc pm cdv ct : Value} (h1 : PySem.W.nsIn K mainGlobals "_law_four" = some (some (.ref f))) (h2 : K.lookup f = some ⟨oc, od, .func (PySem.W.fnOf "_law_four" "_law_four" (defArgs (topS 32)) (defBody (topS 32)) (defScope (topS 32)) .none kV doc pm an cdv ct), osl⟩) (h3 : PySem.W.codeIn K cdv "_law_four" = true) (h4 : PySem.W.keepIn K (.ref f) = true) : Left K d22 := ⟨f, oc, od, an, osl, kV, doc, pm, cdv, ct, h1, h2, h3, h4⟩
theorem l23 {K : Fg} {f : Addr} {oc : Value} {od an : Option Addr} {osl : Array (Option Value)} {kV doc pm cdv ct : Value} (h1 : PySem.W.nsIn K mainGlobals "_law_foreign" = some (some (.ref f))) (h2 : K.lookup f = some ⟨oc, od, .func (PySem.W.fnOf "_law_foreign" "_law_foreign" (defArgs (topS 33)) (defBody (topS 33)) (defScope (topS 33)) .none kV doc pm an cdv ct), osl⟩) (h3 : PySem.W.codeIn K cdv "_law_foreign" = true) (h4 : PySem.W.keepIn K (.ref f) = true) : Left K d23 := ⟨f, oc, od, an, osl, kV, doc, pm, cdv, ct, h1, h2, h3, h4⟩
theorem l24 {K : Fg} {f : Addr} {oc : Value} {od an : Option Addr} {osl : Array (Option Value)} {kV doc pm cdv ct : Value} (h1 : PySem.W.nsIn K mainGlobals "_law_no_alphabet" = some (some (.ref f))) (h2 : K.lookup f = some ⟨oc, od, .func (PySem.W.fnOf "_law_no_alphabet" "_law_no_alphabet" (defArgs (topS 34)) (defBody (topS 34)) (defScope (topS 34)) .none kV doc pm an cdv ct), osl⟩) (h3 : PySem.W.codeIn K cdv "_law_no_alphabet" = true) (h4 : PySem.W.keepIn K (.ref f) = true) : Left K d24 := ⟨f, oc, od, an, osl, kV, doc, pm, cdv, ct, h1, h2, h3, h4⟩
theorem l25 {K : Fg} {f : Addr} {oc : Value} {od an : Option Addr} {osl : Array (Option Value)} {kV doc pm cdv ct : Value} (h1 : PySem.W.nsIn K mainGlobals "_law_refused_right" = some (some (.ref f))) (h2 : K.lookup f = some ⟨oc, od, .func (PySem.W.fnOf "_law_refused_right" "_law_refused_right" (defArgs (topS 35)) (defBody (topS 35)) (defScope (topS 35)) .none kV doc pm an cdv ct), osl⟩) (h3 : PySem.W.codeIn K cdv "_law_refused_right" = true) (h4 : PySem.W.keepIn K (.ref f) = true) : Left K d25 := ⟨f, oc, od, an, osl, kV, doc, pm, cdv, ct, h1, h2, h3, h4⟩
theorem l26 {K : Fg} {f : Addr} {oc : Value} {od an : Option Addr} {osl : Array (Option Value)} {kV doc pm cdv ct : Value} (h1 : PySem.W.nsIn K mainGlobals "law" = some (some (.ref f))) (h2 : K.lookup f = some ⟨oc, od, .func (PySem.W.fnOf "law" "law" (defArgs (topS 36)) (defBody (topS 36)) (defScope (topS 36)) .none kV doc pm an cdv ct), osl⟩) (h3 : PySem.W.codeIn K cdv "law" = true) (h4 : PySem.W.keepIn K (.ref f) = true) : Left K d26 := ⟨f, oc, od, an, osl, kV, doc, pm, cdv, ct, h1, h2, h3, h4⟩
theorem free {K : Fg} (z0 : PySem.W.nsIn K mainGlobals "len" = some none) (z1 : PySem.W.nsIn K mainGlobals "int" = some none) (z2 : PySem.W.nsIn K mainGlobals "tuple" = some none) (z3 : PySem.W.nsIn K mainGlobals "list" = some none) (z4 : PySem.W.nsIn K mainGlobals "repr" = some none) (z5 : PySem.W.nsIn K mainGlobals "sum" = some none) (z6 : PySem.W.nsIn K mainGlobals "abs" = some none) (z7 : PySem.W.nsIn K mainGlobals "min" = some none) (z8 : PySem.W.nsIn K mainGlobals "max" = some none) (z9 : PySem.W.nsIn K mainGlobals "str" = some none) (z10 : PySem.W.nsIn K mainGlobals "any" = some none) (z11 : PySem.W.nsIn K mainGlobals "all" = some none) (z12 : PySem.W.nsIn K mainGlobals "bool" = some none) (z13 : PySem.W.nsIn K mainGlobals "range" = some none) (z14 : PySem.W.nsIn K mainGlobals "zip" = some none) (z15 : PySem.W.nsIn K mainGlobals "enumerate" = some none) (z16 : PySem.W.nsIn K mainGlobals "reversed" = some none) (z17 : PySem.W.nsIn K mainGlobals "isinstance" = some none) (z18 : PySem.W.nsIn K mainGlobals "ValueError" = some none) (z19 : PySem.W.nsIn K mainGlobals "Exception" = some none) : Free K bltNames := ⟨z0, z1, z2, z3, z4, z5, z6, z7, z8, z9, z10, z11, z12, z13, z14, z15, z16, z17, z18, z19, trivial⟩
def inBody (s : Stmt) (j : Nat) : Stmt := match s with
  | .ClassDef _ _ _ b _ _ _ _ _ _ _ => b.getD j (.Pass ⟨0, 0, 0, 0⟩)
  | _ => .Pass ⟨0, 0, 0, 0⟩
def xt : XT := { flds := ["alphabet", "word", "length"], cls := [("BadAlphabet", ["alphabet"]), ("BadWord", ["word"]), ("BadTable", ["length"])], ask := [("StoreyError", ([0, 1, 2] : List Nat)), ("BadAlphabet", ([0] : List Nat)), ("BadWord", ([1] : List Nat)), ("BadTable", ([2] : List Nat)), ("ValueError", ([0, 1, 2] : List Nat))], con := [("LETTERS", [97, 98, 99, 100, 101, 102, 103, 104, 105, 106, 107, 108, 109, 110, 111, 112, 113, 114, 115, 116, 117, 118, 119, 120, 121, 122])] }
def iS0 : Stmt := inBody (topS 3) 0
theorem cS0 : FnScope ["self", "alphabet"] ["self", "alphabet"] (defScope iS0) := ⟨rfl, rfl, rfl, by decide +kernel, rfl, by decide +kernel, by decide +kernel⟩
theorem hb0 : initB ["alphabet"] (defBody iS0) = true := by decide +kernel
theorem bd0 : ∀ (kV doc pm : Value) (an : Option Addr) (cdv ct : Value) (us : List Value), us.length = (["self", "alphabet"] : List Str).length → bindArgs (PySem.W.fnOf "__init__" "BadAlphabet.__init__" (defArgs iS0) (defBody iS0) (defScope iS0) .none kV doc pm an cdv ct) ⟨us, []⟩ = pure ((["self", "alphabet"] : List Str).zip us) := fun _ _ _ _ _ _ us hl => match us, hl with
  | [_, _], _ => rfl
def iS1 : Stmt := inBody (topS 4) 0
theorem cS1 : FnScope ["self", "word"] ["self", "word"] (defScope iS1) := ⟨rfl, rfl, rfl, by decide +kernel, rfl, by decide +kernel, by decide +kernel⟩
theorem hb1 : initB ["word"] (defBody iS1) = true := by decide +kernel
theorem bd1 : ∀ (kV doc pm : Value) (an : Option Addr) (cdv ct : Value) (us : List Value), us.length = (["self", "word"] : List Str).length → bindArgs (PySem.W.fnOf "__init__" "BadWord.__init__" (defArgs iS1) (defBody iS1) (defScope iS1) .none kV doc pm an cdv ct) ⟨us, []⟩ = pure ((["self", "word"] : List Str).zip us) := fun _ _ _ _ _ _ us hl => match us, hl with
  | [_, _], _ => rfl
def iS2 : Stmt := inBody (topS 5) 0
theorem cS2 : FnScope ["self", "length"] ["self", "length"] (defScope iS2) := ⟨rfl, rfl, rfl, by decide +kernel, rfl, by decide +kernel, by decide +kernel⟩
theorem hb2 : initB ["length"] (defBody iS2) = true := by decide +kernel
theorem bd2 : ∀ (kV doc pm : Value) (an : Option Addr) (cdv ct : Value) (us : List Value), us.length = (["self", "length"] : List Str).length → bindArgs (PySem.W.fnOf "__init__" "BadTable.__init__" (defArgs iS2) (defBody iS2) (defScope iS2) .none kV doc pm an cdv ct) ⟨us, []⟩ = pure ((["self", "length"] : List Str).zip us) := fun _ _ _ _ _ _ us hl => match us, hl with
  | [_, _], _ => rfl
def tab : List Fn := (tabOf dfs xt dfs).getD []
theorem tab_eq : tabOf dfs xt dfs = some tab := some_getD (by decide +kernel)
end K01
set_option Elab.async false
set_option linter.all false
set_option maxRecDepth 100000
set_option autoImplicit false
set_option maxHeartbeats 4000000
namespace K01
open PySem Pd
def f0b0 : List S := [.skip]
def f0 : Fn := ⟨1, 1, [(.wh (.c (.bl true)) f0b0)]⟩
def f20t0 : List S := [(.ifs (.cmp .eq (.var 0) (.c (.int 0)))
    [(.ret (.lst [(.c (.str [116, 111, 108, 100])), (.call 11 [(.idx (.var 1) (.c (.int 0))), (.idx (.var 1) (.c (.int 1))), (.idx (.var 1) (.c (.int 2)))])]))]
    []),
    (.ifs (.cmp .eq (.var 0) (.c (.int 1)))
    [(.ret (.lst [(.c (.str [116, 111, 108, 100])), (.call 12 [(.idx (.var 1) (.c (.int 0)))])]))]
    []),
    (.ret (.lst [(.c (.str [116, 111, 108, 100])), (.call 13 [(.idx (.var 1) (.c (.int 0))), (.idx (.var 1) (.c (.int 1))), (.idx (.var 1) (.c (.int 2)))])]))]
def f20x1 : List S := [(.asg (.nm 3) (.lst [(.isX 2 [0]), (.isX 2 [1]), (.isX 2 [2]), (.isX 2 [0, 1, 2])])),
    (.ifs (.cmp .eq (.var 3) (.lst [(.c (.bl true)), (.c (.bl false)), (.c (.bl false)), (.c (.bl true))]))
    [(.ret (.lst [(.c (.str [97, 108, 112, 104, 97, 98, 101, 116])), (.fld 2 "alphabet")]))]
    []),
    (.ifs (.cmp .eq (.var 3) (.lst [(.c (.bl false)), (.c (.bl true)), (.c (.bl false)), (.c (.bl true))]))
    [(.ret (.lst [(.c (.str [119, 111, 114, 100])), (.fld 2 "word")]))]
    []),
    (.ifs (.cmp .eq (.var 3) (.lst [(.c (.bl false)), (.c (.bl false)), (.c (.bl true)), (.c (.bl true))]))
    [(.ret (.lst [(.c (.str [116, 97, 98, 108, 101])), (.fld 2 "length")]))]
    []),
    (.ret (.lst [(.c (.str [111, 116, 104, 101, 114]))]))]
def f20 : Fn := ⟨4, 2, [(.tryX [0, 1, 2] (some 2) f20t0 f20x1)]⟩
def f23b0 : List S := [(.ifs (.cmp .notIn (.var 3) (.var 0))
    [(.asg (.nm 2) (.bin .add (.bin .add (.var 2) (.var 3)) (.mth .upper (.var 3) [])))]
    [])]
def f23 : Fn := ⟨4, 2, [(.asg (.nm 2) (.c (.str [32, 33, 34, 35, 36, 38, 39, 40, 41, 42, 43, 44, 45, 46, 47, 48, 49, 50, 51, 52, 53, 54, 55, 56, 57, 58, 59, 60, 61, 62, 63, 64, 91, 92, 93, 94, 95, 96, 123, 124, 125, 126, 10]))),
    (.fr (.nm 3) (.seq (.c (.str [97, 98, 99, 100, 101, 102, 103, 104, 105, 106, 107, 108, 109, 110, 111, 112, 113, 114, 115, 116, 117, 118, 119, 120, 121, 122]))) f23b0),
    (.ret (.idx (.var 2) (.bin .mod (.blt .int [(.var 1)]) (.blt .len [(.var 2)]))))]⟩
def f24 : Fn := ⟨8, 4, [(.asg (.nm 4) (.c (.str [97, 98, 99, 100, 101, 102, 103, 104, 105, 106, 107, 108, 109, 110, 111, 112, 113, 114, 115, 116, 117, 118, 119, 120, 121, 122]))),
    (.asg (.nm 5) (.bin .mod (.blt .int [(.var 2)]) (.blt .len [(.var 0)]))),
    (.ifs (.cmp .eq (.var 1) (.c (.int 0)))
    [(.ret (.c (.str [])))]
    []),
    (.ifs (.cmp .eq (.var 1) (.c (.int 1)))
    [(.ret (.bin .add (.var 0) (.idx (.var 0) (.var 5))))]
    []),
    (.ifs (.cmp .eq (.var 1) (.c (.int 2)))
    [(.asg (.nm 7) (.bin .mod (.blt .int [(.var 3)]) (.c (.int 22)))),
    (.ret (.slc (.var 4) (.var 7) (.bin .add (.var 7) (.c (.int 5)))))]
    []),
    (.ifs (.cmp .eq (.var 1) (.c (.int 3)))
    [(.ret (.bin .add (.bin .add (.slc (.var 0) (.c .non) (.var 5)) (.mth .upper (.idx (.var 0) (.var 5)) [])) (.slc (.var 0) (.bin .add (.var 5) (.c (.int 1))) (.c .non))))]
    []),
    (.asg (.nm 6) (.idx (.c (.str [32, 33, 35, 38, 43, 45, 46, 48, 49, 57, 58, 59, 64, 91, 93, 94, 95, 96, 123, 124, 125, 126])) (.bin .mod (.blt .int [(.var 3)]) (.c (.int 22))))),
    (.ifs (.cmp .eq (.var 1) (.c (.int 4)))
    [(.ret (.bin .add (.bin .add (.slc (.var 0) (.c .non) (.var 5)) (.var 6)) (.slc (.var 0) (.bin .add (.var 5) (.c (.int 1))) (.c .non))))]
    []),
    (.ret (.bin .add (.idx (.var 4) (.bin .add (.c (.int 1)) (.bin .mod (.blt .int [(.var 3)]) (.c (.int 25))))) (.idx (.var 4) (.bin .mod (.blt .int [(.var 2)]) (.bin .add (.c (.int 1)) (.bin .mod (.blt .int [(.var 3)]) (.c (.int 25))))))))]⟩
def f25 : Fn := ⟨15, 6, [(.frz [0] (.asg (.nm 6) (.call 24 [(.var 0), (.idx (.var 5) (.c (.int 0))), (.idx (.var 5) (.c (.int 1))), (.idx (.var 5) (.c (.int 2)))]))),
    (.asg (.nm 7) (.bin .mod (.blt .int [(.idx (.var 5) (.c (.int 3)))]) (.bin .add (.blt .len [(.slc (.var 2) (.c .non) (.c (.int 59)))]) (.c (.int 1))))),
    (.frz [0] (.asg (.nm 8) (.bin .add (.bin .add (.slc (.var 2) (.c .non) (.var 7)) (.call 23 [(.var 0), (.idx (.var 5) (.c (.int 4)))])) (.slc (.var 2) (.var 7) (.c (.int 59)))))),
    (.asg (.nm 9) (.bin .add (.bin .mod (.blt .int [(.idx (.var 5) (.c (.int 5)))]) (.c (.int 8))) (.blt .int [(.cmp .ge (.bin .mod (.blt .int [(.idx (.var 5) (.c (.int 5)))]) (.c (.int 8))) (.blt .len [(.var 0)]))]))),
    (.asg (.nm 10) (.slc (.bin .mul (.var 3) (.c (.int 9))) (.c .non) (.var 9))),
    (.frz [6, 8, 10, 6] (.ifs (.cmp .ne (.blt .repr [(.call 20 [(.c (.int 0)), (.lst [(.var 6), (.var 8), (.var 10)])])]) (.blt .repr [(.lst [(.c (.str [97, 108, 112, 104, 97, 98, 101, 116])), (.var 6)])]))
    [(.ret (.c (.bl false)))]
    [])),
    (.frz [6, 6] (.ifs (.cmp .ne (.blt .repr [(.call 20 [(.c (.int 1)), (.lst [(.var 6)])])]) (.blt .repr [(.lst [(.c (.str [97, 108, 112, 104, 97, 98, 101, 116])), (.var 6)])]))
    [(.ret (.c (.bl false)))]
    [])),
    (.frz [0, 8, 10, 8] (.ifs (.cmp .ne (.blt .repr [(.call 20 [(.c (.int 0)), (.lst [(.var 0), (.var 8), (.var 10)])])]) (.blt .repr [(.lst [(.c (.str [119, 111, 114, 100])), (.var 8)])]))
    [(.ret (.c (.bl false)))]
    [])),
    (.frz [0, 8, 3, 8] (.ifs (.cmp .ne (.blt .repr [(.call 20 [(.c (.int 0)), (.lst [(.var 0), (.var 8), (.var 3)])])]) (.blt .repr [(.lst [(.c (.str [119, 111, 114, 100])), (.var 8)])]))
    [(.ret (.c (.bl false)))]
    [])),
    (.frz [0, 2, 9] (.ifs (.cmp .ne (.blt .repr [(.call 20 [(.c (.int 0)), (.lst [(.var 0), (.var 2), (.blt .tuple [(.var 10)])])])]) (.blt .repr [(.lst [(.c (.str [116, 97, 98, 108, 101])), (.var 9)])]))
    [(.ret (.c (.bl false)))]
    [])),
    (.frz [6, 3, 0, 10, 6, 9] (.ifs (.cmp .ne (.blt .repr [(.lst [(.call 20 [(.c (.int 0)), (.lst [(.var 6), (.c (.str [])), (.var 3)])]), (.call 20 [(.c (.int 0)), (.lst [(.var 0), (.c (.str [])), (.var 10)])])])]) (.blt .repr [(.lst [(.lst [(.c (.str [97, 108, 112, 104, 97, 98, 101, 116])), (.var 6)]), (.lst [(.c (.str [116, 97, 98, 108, 101])), (.var 9)])])]))
    [(.ret (.c (.bl false)))]
    [])),
    (.asg (.nm 11) (.bin .mod (.blt .int [(.idx (.var 5) (.c (.int 6)))]) (.blt .len [(.var 3)]))),
    (.frz [1] (.asg (.nm 12) (.bin .add (.slc (.idx (.var 3) (.var 11)) (.c .non) (.c (.int 20))) (.call 23 [(.var 1), (.idx (.var 5) (.c (.int 7)))])))),
    (.frz [1] (.asg (.nm 13) (.bin .add (.slc (.var 3) (.c .non) (.bin .sub (.blt .len [(.var 3)]) (.c (.int 1)))) (.lst [(.bin .add (.c (.str [95])) (.call 23 [(.var 1), (.idx (.var 5) (.c (.int 4)))]))])))),
    (.frz [12] (.sub 13 (.var 11) (.var 12))),
    (.asg (.nm 14) (.slc (.bin .mul (.var 4) (.c (.int 9))) (.c .non) (.bin .add (.bin .mod (.blt .int [(.idx (.var 5) (.c (.int 8)))]) (.c (.int 8))) (.blt .int [(.cmp .ge (.bin .mod (.blt .int [(.idx (.var 5) (.c (.int 8)))]) (.c (.int 8))) (.blt .len [(.var 1)]))])))),
    (.frz [1] (.asg (.nm 6) (.call 24 [(.var 1), (.idx (.var 5) (.c (.int 9))), (.idx (.var 5) (.c (.int 1))), (.idx (.var 5) (.c (.int 2)))]))),
    (.frz [6, 13, 14, 6] (.ifs (.cmp .ne (.blt .repr [(.call 20 [(.c (.int 2)), (.lst [(.var 6), (.var 13), (.var 14)])])]) (.blt .repr [(.lst [(.c (.str [97, 108, 112, 104, 97, 98, 101, 116])), (.var 6)])]))
    [(.ret (.c (.bl false)))]
    [])),
    (.frz [1, 4, 12] (.ifs (.cmp .ne (.blt .repr [(.call 20 [(.c (.int 2)), (.lst [(.var 1), (.blt .tuple [(.var 13)]), (.var 4)])])]) (.blt .repr [(.lst [(.c (.str [119, 111, 114, 100])), (.var 12)])]))
    [(.ret (.c (.bl false)))]
    [])),
    (.frz [1, 13, 14, 12] (.ifs (.cmp .ne (.blt .repr [(.call 20 [(.c (.int 2)), (.lst [(.var 1), (.var 13), (.var 14)])])]) (.blt .repr [(.lst [(.c (.str [119, 111, 114, 100])), (.var 12)])]))
    [(.ret (.c (.bl false)))]
    [])),
    (.frz [6, 4, 1, 14, 6] (.ifs (.cmp .ne (.blt .repr [(.lst [(.call 20 [(.c (.int 2)), (.lst [(.var 6), (.lst [(.c (.str []))]), (.var 4)])]), (.call 20 [(.c (.int 2)), (.lst [(.var 1), (.lst [(.c (.str []))]), (.var 14)])])])]) (.blt .repr [(.lst [(.lst [(.c (.str [97, 108, 112, 104, 97, 98, 101, 116])), (.var 6)]), (.lst [(.c (.str [116, 97, 98, 108, 101])), (.blt .len [(.var 14)])])])]))
    [(.ret (.c (.bl false)))]
    [])),
    (.frz [1, 3, 14] (.ret (.cmp .eq (.blt .repr [(.call 20 [(.c (.int 2)), (.lst [(.var 1), (.var 3), (.var 14)])])]) (.blt .repr [(.lst [(.c (.str [116, 97, 98, 108, 101])), (.blt .len [(.var 14)])])]))))]⟩
def f26c0 : E := .cmpr (.c (.int 24)) (.nm 15) (.rng [(.c (.int 60))]) [] [15]
def f26c1 : E := .cmpr (.c (.int 24)) (.nm 17) (.rng [(.c (.int 48))]) [] [17]
def f26c2 : E := .cmpr (.call 15 [(.call 14 [(.var 0), (.bin .add (.c (.int 2)) (.var 15))]), (.bin .add (.lst [(.c (.int 25)), (.c (.int 25))]) f26c1)]) (.nm 15) (.rng [(.c (.int 4))]) [] [15]
def f26c3 : E := .cmpr (.call 16 [(.var 3), (.slc (.idx (.var 6) (.var 15)) (.c (.int 2)) (.c (.int 26))), (.bin .mod (.blt .int [(.idx (.idx (.var 6) (.var 15)) (.c (.int 0)))]) (.idx (.var 4) (.c (.int 1))))]) (.nm 15) (.rng [(.blt .len [(.var 2)])]) [] [15]
def f26c4 : E := .cmpr (.call 16 [(.c (.str [112, 113, 120, 122])), (.slc (.idx (.var 6) (.var 15)) (.c (.int 26)) (.c (.int 50))), (.bin .mod (.blt .int [(.idx (.idx (.var 6) (.var 15)) (.c (.int 1)))]) (.idx (.var 4) (.c (.int 2))))]) (.nm 15) (.rng [(.blt .len [(.var 3)])]) [] [15]
def f26c5 : E := .cmpr (.call 21 [(.var 3), (.var 16), (.var 8)]) (.nm 16) (.seq (.var 7)) [] [16]
def f26c6 : E := .cmpr (.var 18) (.nm 18) (.seq (.var 2)) [] [18]
def f26 : Fn := ⟨19, 1, [(.frz [0] (.asg (.nm 1) (.call 15 [(.call 14 [(.var 0), (.c (.int 0))]), (.lst [(.c (.int 4)), (.c (.int 26)), (.c (.int 26)), (.c (.int 26)), (.c (.int 26)), (.c (.int 4)), (.c (.int 26)), (.c (.int 26)), (.c (.int 26)), (.c (.int 26)), (.c (.int 61)), (.c (.int 2)), (.c (.int 4))])]))),
    (.asg (.nm 2) (.call 22 [(.slc (.var 1) (.c (.int 0)) (.c (.int 5)))])),
    (.asg (.nm 3) (.call 22 [(.slc (.var 1) (.c (.int 5)) (.c (.int 10)))])),
    (.asg (.nm 4) (.idx (.lst [(.lst [(.c (.int 15)), (.c (.int 7)), (.c (.int 4))]), (.lst [(.c (.int 15)), (.c (.int 25)), (.c (.int 25))]), (.lst [(.c (.int 15)), (.c (.int 7)), (.c (.int 25))]), (.lst [(.c (.int 61)), (.c (.int 25)), (.c (.int 4))])]) (.idx (.var 1) (.c (.int 12))))),
    (.frz [2, 0] (.asg (.nm 5) (.call 16 [(.var 2), (.call 15 [(.call 14 [(.var 0), (.c (.int 1))]), f26c0]), (.bin .mod (.blt .int [(.idx (.var 1) (.c (.int 10)))]) (.idx (.var 4) (.c (.int 0))))]))),
    (.frz [0] (.asg (.nm 6) f26c2)),
    (.frz [3] (.asg (.nm 7) f26c3)),
    (.asg (.nm 8) f26c4),
    (.frz [2, 5, 7] (.asg (.nm 9) (.call 21 [(.var 2), (.var 5), (.var 7)]))),
    (.frz [3, 16, 8] (.asg (.nm 10) f26c5)),
    (.asg (.nm 11) (.lst [(.blt .list [(.var 7)]), (.blt .list [(.var 8)])])),
    (.ifs (.cmp .eq (.idx (.var 1) (.c (.int 11))) (.c (.int 0)))
    [(.asg (.nm 11) (.lst [(.blt .tuple [(.var 7)]), (.blt .tuple [(.var 8)])]))]
    []),
    (.asg (.nm 12) (.blt .repr [(.var 11)])),
    (.frz [2, 5] (.ifs (.cmp .ne (.blt .repr [(.call 11 [(.var 2), (.var 5), (.idx (.var 11) (.c (.int 0)))])]) (.blt .repr [(.var 9)]))
    [(.ret (.c (.bl false)))]
    [])),
    (.frz [3] (.asg (.nm 13) (.call 13 [(.var 3), (.idx (.var 11) (.c (.int 0))), (.idx (.var 11) (.c (.int 1)))]))),
    (.ifs (.cmp .ne (.blt .repr [(.var 13)]) (.blt .repr [(.blt .tuple [(.var 10)])]))
    [(.ret (.c (.bl false)))]
    []),
    (.frz [3, 9, 8] (.asg (.nm 14) (.blt .repr [(.call 21 [(.var 3), (.var 9), (.var 8)])]))),
    (.frz [3, 9, 2, 5, 13] (.ifs (.or (.cmp .ne (.blt .repr [(.call 11 [(.var 3), (.var 9), (.idx (.var 11) (.c (.int 1)))])]) (.var 14)) (.cmp .ne (.blt .repr [(.call 11 [(.var 2), (.var 5), (.var 13)])]) (.var 14)))
    [(.ret (.c (.bl false)))]
    [])),
    (.frz [2, 18] (.ifs (.cmp .ne (.blt .repr [(.call 12 [(.var 2)])]) (.blt .repr [(.blt .tuple [f26c6])]))
    [(.ret (.c (.bl false)))]
    [])),
    (.frz [2, 5, 2, 5] (.ifs (.cmp .ne (.blt .repr [(.call 11 [(.var 2), (.var 5), (.call 12 [(.var 2)])])]) (.blt .repr [(.call 19 [(.var 5)])]))
    [(.ret (.c (.bl false)))]
    [])),
    (.frz [2, 3, 5, 0] (.ifs (.nt (.call 25 [(.var 2), (.var 3), (.var 5), (.blt .list [(.var 7)]), (.blt .list [(.var 8)]), (.call 15 [(.call 14 [(.var 0), (.c (.int 6))]), (.lst [(.c (.int 6)), (.c (.int 24)), (.c (.int 97)), (.c (.int 61)), (.c (.int 89)), (.c (.int 8)), (.c (.int 24)), (.c (.int 83)), (.c (.int 8)), (.c (.int 6))])])]))
    [(.ret (.c (.bl false)))]
    [])),
    (.frz [2, 5] (.ret (.and (.cmp .eq (.blt .repr [(.call 11 [(.var 2), (.var 5), (.idx (.var 11) (.c (.int 0)))])]) (.blt .repr [(.var 9)])) (.cmp .eq (.blt .repr [(.var 11)]) (.var 12)))))]⟩
def lit : List Fn := [f0, Wl.isAlF, Wl.isWdF, Wl.chkAlF 1, Wl.chkWdF 2, Wl.chkWdsF 3 4, Wl.sgIdxF, Wl.sgDirF, Wl.swF, Wl.undF 8, Wl.strF 8, Wl.repF 5 6 7 9 10, Wl.plainF 3, Wl.tabF 3 4 11, cellF, digF, Wl.lwordF, Wl.swF, Wl.lundF 17, Wl.lstrF 17, f20, Wl.lrepF 18 19, Wl.fourF, f23, f24, f25, f26]
theorem tab_is : tab = lit := by kernel_rfl
theorem X : Wl.Ix tab 1 2 3 4 5 6 7 8 9 10 11 := by
  rw [tab_is]
  exact ⟨rfl, rfl, rfl, rfl, rfl, rfl, rfl, rfl, rfl, rfl, rfl⟩
end K01
set_option Elab.async false
set_option linter.all false
set_option maxRecDepth 100000
set_option autoImplicit false
set_option maxHeartbeats 4000000
namespace K01
open PySem Pd Wl
abbrev W := List Nat
def told : W := [116, 111, 108, 100]
def tAl : W := [97, 108, 112, 104, 97, 98, 101, 116]
def tWd : W := [119, 111, 114, 100]
def tTb : W := [116, 97, 98, 108, 101]
theorem lim2 : (2 : Nat) ≤ lim := by decide
theorem lim4 : (4 : Nat) ≤ lim := by decide
section
variable {k : Nat} {ps : List D} {x y z v : D} {e : Xc}
/-- what is asked of a door -/
def door (k : Nat) (n : Nat) (ps : List D) (R : Out Rv) : Prop :=
  (n = 0 ∧ ∃ x y z, ps = [x, y, z] ∧ callF tab k 11 [x, y, z] = R) ∨ (n = 1 ∧ ∃ x, ps = [x] ∧ callF tab k 12 [x] = R) ∨ (n = 2 ∧ ∃ x y z, ps = [x, y, z] ∧ callF tab k 13 [x, y, z] = R)
theorem suite_ok {n : Nat} (h : door k n ps (.ok (.v v))) : evB (callF tab k) f20t0 [.v (.int n), .v (.lst ps), .un, .un] = some (.rt (.own [.str told, v])) := by
  rcases h with ⟨rfl, x, y, z, rfl, h⟩ | ⟨rfl, x, rfl, h⟩ | ⟨rfl, x, y, z, rfl, h⟩
  · have g0 : getI (.v (.lst [x, y, z])) (.v (.int 0)) = .ok (.v x) := getI_l (j := 0) rfl
    have g1 : getI (.v (.lst [x, y, z])) (.v (.int 1)) = .ok (.v y) := getI_l (j := 1) rfl
    have g2 : getI (.v (.lst [x, y, z])) (.v (.int 2)) = .ok (.v z) := getI_l (j := 2) rfl
    have er := ret_o (callF tab k) [.v (.int 0), .v (.lst [x, y, z]), .un, .un] (e := .lst [(.c (.str [116, 111, 108, 100])), (.call 11 [(.idx (.var 1) (.c (.int 0))), (.idx (.var 1) (.c (.int 1))), (.idx (.var 1) (.c (.int 2)))])]) (d := [.str told, v]) (fun _ z => by cases z) (by simp [g0, g1, g2, h, told, lim2])
    simp [f20t0, er]
  · have g0 : getI (.v (.lst [x])) (.v (.int 0)) = .ok (.v x) := getI_l (j := 0) rfl
    have er := ret_o (callF tab k) [.v (.int 1), .v (.lst [x]), .un, .un] (e := .lst [(.c (.str [116, 111, 108, 100])), (.call 12 [(.idx (.var 1) (.c (.int 0)))])]) (d := [.str told, v]) (fun _ z => by cases z) (by simp [g0, h, told, lim2])
    simp [f20t0, er]
  · have g0 : getI (.v (.lst [x, y, z])) (.v (.int 0)) = .ok (.v x) := getI_l (j := 0) rfl
    have g1 : getI (.v (.lst [x, y, z])) (.v (.int 1)) = .ok (.v y) := getI_l (j := 1) rfl
    have g2 : getI (.v (.lst [x, y, z])) (.v (.int 2)) = .ok (.v z) := getI_l (j := 2) rfl
    have er := ret_o (callF tab k) [.v (.int 2), .v (.lst [x, y, z]), .un, .un] (e := .lst [(.c (.str [116, 111, 108, 100])), (.call 13 [(.idx (.var 1) (.c (.int 0))), (.idx (.var 1) (.c (.int 1))), (.idx (.var 1) (.c (.int 2)))])]) (d := [.str told, v]) (fun _ z => by cases z) (by simp [g0, g1, g2, h, told, lim2])
    simp [f20t0, er]
theorem ret_exc {cf : Nat → List D → Out Rv} {env : Pd.Env} {e : E} {x : Xc} (hn : ∀ i, e ≠ .var i) (h : evE cf e env = .exc x) : evS cf (.ret e) env = some (.rs x env) := by
  rw [evS_rete cf env hn]
  unfold retM
  rw [h]
  rfl
theorem suite_exc {n : Nat} (h : door k n ps (.exc e)) : evB (callF tab k) f20t0 [.v (.int n), .v (.lst ps), .un, .un] = some (.rs e [.v (.int n), .v (.lst ps), .un, .un]) := by
  rcases h with ⟨rfl, x, y, z, rfl, h⟩ | ⟨rfl, x, rfl, h⟩ | ⟨rfl, x, y, z, rfl, h⟩
  · have g0 : getI (.v (.lst [x, y, z])) (.v (.int 0)) = .ok (.v x) := getI_l (j := 0) rfl
    have g1 : getI (.v (.lst [x, y, z])) (.v (.int 1)) = .ok (.v y) := getI_l (j := 1) rfl
    have g2 : getI (.v (.lst [x, y, z])) (.v (.int 2)) = .ok (.v z) := getI_l (j := 2) rfl
    have er := ret_exc (cf := callF tab k) (env := [.v (.int 0), .v (.lst [x, y, z]), .un, .un]) (e := .lst [(.c (.str [116, 111, 108, 100])), (.call 11 [(.idx (.var 1) (.c (.int 0))), (.idx (.var 1) (.c (.int 1))), (.idx (.var 1) (.c (.int 2)))])]) (x := e) (fun _ z => by cases z) (by simp [g0, g1, g2, h])
    simp [f20t0, er]
  · have g0 : getI (.v (.lst [x])) (.v (.int 0)) = .ok (.v x) := getI_l (j := 0) rfl
    have er := ret_exc (cf := callF tab k) (env := [.v (.int 1), .v (.lst [x]), .un, .un]) (e := .lst [(.c (.str [116, 111, 108, 100])), (.call 12 [(.idx (.var 1) (.c (.int 0)))])]) (x := e) (fun _ z => by cases z) (by simp [g0, h])
    simp [f20t0, er]
  · have g0 : getI (.v (.lst [x, y, z])) (.v (.int 0)) = .ok (.v x) := getI_l (j := 0) rfl
    have g1 : getI (.v (.lst [x, y, z])) (.v (.int 1)) = .ok (.v y) := getI_l (j := 1) rfl
    have g2 : getI (.v (.lst [x, y, z])) (.v (.int 2)) = .ok (.v z) := getI_l (j := 2) rfl
    have er := ret_exc (cf := callF tab k) (env := [.v (.int 2), .v (.lst [x, y, z]), .un, .un]) (e := .lst [(.c (.str [116, 111, 108, 100])), (.call 13 [(.idx (.var 1) (.c (.int 0))), (.idx (.var 1) (.c (.int 1))), (.idx (.var 1) (.c (.int 2)))])]) (x := e) (fun _ z => by cases z) (by simp [g0, g1, g2, h])
    simp [f20t0, er]
def mk (a b c : Bool) : List D := [.bl a, .bl b, .bl c, .bl true]
theorem mk_eq {a b c p q r : Bool} : cEq false (.bor (mk a b c)) (.own (mk p q r)) = .ok (.v (.bl ((a == p) && (b == q) && (c == r)))) := by
  cases a <;> cases b <;> cases c <;> cases p <;> cases q <;> cases r <;> kernel_rfl
theorem mk_lst {cf : Nat → List D → Out Rv} {env : Pd.Env} (p q r : Bool) : evE cf (.lst [(.c (.bl p)), (.c (.bl q)), (.c (.bl r)), (.c (.bl true))]) env = .ok (.own (mk p q r)) := by
  simp only [evE_lst, evA_cons, evA_nil, evE_c, bind_okD, fz_v, List.length_cons, List.length_nil]
  exact if_pos lim4
/-- the except suite -/
theorem hand {n : Nat} {x : D} (j : Nat) (hj : (j = 0 ∧ e = ⟨0, [("alphabet", x)]⟩ ∧ v = .str tAl) ∨ (j = 1 ∧ e = ⟨1, [("word", x)]⟩ ∧ v = .str tWd) ∨ (j = 2 ∧ e = ⟨2, [("length", x)]⟩ ∧ v = .str tTb)) :
    evB (callF tab k) f20x1 [.v (.int n), .v (.lst ps), .exc e, .un] = some (.rt (.own [v, x])) := by
  have s1 : evS (callF tab k) (.asg (.nm 3) (.lst [(.isX 2 [0]), (.isX 2 [1]), (.isX 2 [2]), (.isX 2 [0, 1, 2])])) [.v (.int n), .v (.lst ps), .exc e, .un] = some (.nx [.v (.int n), .v (.lst ps), .exc e, .own (mk (j == 0) (j == 1) (j == 2))]) := by
    have q : evE (callF tab k) (.lst [(.isX 2 [0]), (.isX 2 [1]), (.isX 2 [2]), (.isX 2 [0, 1, 2])]) [.v (.int n), .v (.lst ps), .exc e, .un] = .ok (.own (mk (j == 0) (j == 1) (j == 2))) := by
      have i1 : ∀ l, isO [.v (.int n), .v (.lst ps), .exc e, .un] 2 l = .ok (.v (.bl (l.contains e.c))) := fun l => rfl
      simp only [evE_lst, evA_cons, evA_nil, evE_isX, i1, bind_okD, fz_v, List.length_cons, List.length_nil]
      rw [if_pos lim4]
      rcases hj with ⟨rfl, rfl, _⟩ | ⟨rfl, rfl, _⟩ | ⟨rfl, rfl, _⟩ <;> rfl
    rw [evS_asg, q]
    rfl
  have hm : evE (callF tab k) (.var 3) [.v (.int n), .v (.lst ps), .exc e, .own (mk (j == 0) (j == 1) (j == 2))] = .ok (.bor (mk (j == 0) (j == 1) (j == 2))) := by rw [evE_var]; rfl
  have t : ∀ p q r, evT (callF tab k) (.cmp .eq (.var 3) (.lst [(.c (.bl p)), (.c (.bl q)), (.c (.bl r)), (.c (.bl true))])) [.v (.int n), .v (.lst ps), .exc e, .own (mk (j == 0) (j == 1) (j == 2))] = .ok (((j == 0) == p) && ((j == 1) == q) && ((j == 2) == r)) := fun p q r => by
    rw [evT_cmp, hm, mk_lst, bind_okD, bind_okD, cop_eq, mk_eq]
    rfl
  show evB (callF tab k) (_ :: _) _ = _
  rw [evB_cons, s1, seq_nx]
  rcases hj with ⟨rfl, rfl, rfl⟩ | ⟨rfl, rfl, rfl⟩ | ⟨rfl, rfl, rfl⟩
  · have ef : evE (callF tab k) (.fld 2 "alphabet") [.v (.int n), .v (.lst ps), .exc ⟨0, [("alphabet", x)]⟩, .own (mk (0 == 0) (0 == 1) (0 == 2))] = .ok (.v x) := by rw [evE_fld]; kernel_rfl
    have er := ret_o (callF tab k) [.v (.int n), .v (.lst ps), .exc ⟨0, [("alphabet", x)]⟩, .own (mk (0 == 0) (0 == 1) (0 == 2))] (e := .lst [(.c (.str [97, 108, 112, 104, 97, 98, 101, 116])), (.fld 2 "alphabet")]) (d := [.str tAl, x]) (fun _ z => by cases z) (lst2 (fzv (by rw [evE_c]; rfl)) (fzv ef))
    rw [evB_cons, evS_ifs, t]
    simp only [st_ok]
    rw [if_pos (by rfl), evB_cons, er]
    rfl
  · have ef : evE (callF tab k) (.fld 2 "word") [.v (.int n), .v (.lst ps), .exc ⟨1, [("word", x)]⟩, .own (mk (1 == 0) (1 == 1) (1 == 2))] = .ok (.v x) := by rw [evE_fld]; kernel_rfl
    have er := ret_o (callF tab k) [.v (.int n), .v (.lst ps), .exc ⟨1, [("word", x)]⟩, .own (mk (1 == 0) (1 == 1) (1 == 2))] (e := .lst [(.c (.str [119, 111, 114, 100])), (.fld 2 "word")]) (d := [.str tWd, x]) (fun _ z => by cases z) (lst2 (fzv (by rw [evE_c]; rfl)) (fzv ef))
    rw [evB_cons, evS_ifs, t]
    simp only [st_ok]
    rw [if_neg (by decide), evB_nil, seq_nx, evB_cons, evS_ifs, t]
    simp only [st_ok]
    rw [if_pos (by rfl), evB_cons, er]
    rfl
  · have ef : evE (callF tab k) (.fld 2 "length") [.v (.int n), .v (.lst ps), .exc ⟨2, [("length", x)]⟩, .own (mk (2 == 0) (2 == 1) (2 == 2))] = .ok (.v x) := by rw [evE_fld]; kernel_rfl
    have er := ret_o (callF tab k) [.v (.int n), .v (.lst ps), .exc ⟨2, [("length", x)]⟩, .own (mk (2 == 0) (2 == 1) (2 == 2))] (e := .lst [(.c (.str [116, 97, 98, 108, 101])), (.fld 2 "length")]) (d := [.str tTb, x]) (fun _ z => by cases z) (lst2 (fzv (by rw [evE_c]; rfl)) (fzv ef))
    rw [evB_cons, evS_ifs, t]
    simp only [st_ok]
    rw [if_neg (by decide), evB_nil, seq_nx, evB_cons, evS_ifs, t]
    simp only [st_ok]
    rw [if_neg (by decide), evB_nil, seq_nx, evB_cons, evS_ifs, t]
    simp only [st_ok]
    rw [if_pos (by rfl), evB_cons, er]
    rfl
theorem asked_ok {n : Nat} (h : door k n ps (.ok (.v v))) : callF tab (k + 1) 20 [.int n, .lst ps] = .ok (.own [.str told, v]) := by
  rw [callF_go (fn := f20) (by rw [tab_is]; rfl) rfl]
  show fin (evB (callF tab k) [.tryX [0, 1, 2] (some 2) f20t0 f20x1] [.v (.int n), .v (.lst ps), .un, .un]) = _
  rw [evB_cons, evS_try, suite_ok h]
  rfl
theorem asked_exc {n : Nat} {x : D} (j : Nat) (hj : (j = 0 ∧ e = ⟨0, [("alphabet", x)]⟩ ∧ v = .str tAl) ∨ (j = 1 ∧ e = ⟨1, [("word", x)]⟩ ∧ v = .str tWd) ∨ (j = 2 ∧ e = ⟨2, [("length", x)]⟩ ∧ v = .str tTb)) (h : door k n ps (.exc e)) : callF tab (k + 1) 20 [.int n, .lst ps] = .ok (.own [v, x]) := by
  rw [callF_go (fn := f20) (by rw [tab_is]; rfl) rfl]
  show fin (evB (callF tab k) [.tryX [0, 1, 2] (some 2) f20t0 f20x1] [.v (.int n), .v (.lst ps), .un, .un]) = _
  rw [evB_cons, evS_try, suite_exc h]
  have hc : ([0, 1, 2] : List Nat).contains e.c = true := by
    rcases hj with ⟨_, rfl, _⟩ | ⟨_, rfl, _⟩ | ⟨_, rfl, _⟩ <;> rfl
  have q : catX [0, 1, 2] (some 2) (evB (callF tab k) f20x1) (some (.rs e [.v (.int n), .v (.lst ps), .un, .un])) = some (.rt (.own [v, x])) := by
    show (if ([0, 1, 2] : List Nat).contains e.c = true then _ else _) = _
    rw [if_pos hc]
    show endX (some 2) (evB (callF tab k) f20x1 [.v (.int n), .v (.lst ps), .exc e, .un]) = _
    rw [hand j hj]
    rfl
  rw [q]
  rfl
end
end K01
set_option Elab.async false
set_option linter.all false
set_option maxRecDepth 100000
set_option autoImplicit false
set_option maxHeartbeats 4000000
namespace K01
open PySem Pd Wl
def marks : W := [32, 33, 34, 35, 36, 38, 39, 40, 41, 42, 43, 44, 45, 46, 47, 48, 49, 50, 51, 52, 53, 54, 55, 56, 57, 58, 59, 60, 61, 62, 63, 64, 91, 92, 93, 94, 95, 96, 123, 124, 125, 126, 10]
def marks2 : W := [32, 33, 35, 38, 43, 45, 46, 48, 49, 57, 58, 59, 64, 91, 93, 94, 95, 96, 123, 124, 125, 126]
/-- no sign of the alphabet -/
def Out1 (a : W) (c : Nat) : Prop := c ∉ sgs a ∧ c < 128
theorem marks_out {a : W} (ha : Al a) : ∀ c ∈ marks, Out1 a c := fun c hc => by
  have h : marks.all (fun c => !isL c && decide (c < 128)) = true := by decide
  have h := List.all_eq_true.mp h c hc
  rw [Bool.and_eq_true] at h
  refine ⟨fun z => ?_, of_decide_eq_true h.2⟩
  have := sgs_wd ha.wd c z
  rw [this] at h
  cases h.1
theorem marks2_no : ∀ c ∈ marks2, ¬ c ∈ abc ∧ c < 128 := fun c hc => by
  have h : marks2.all (fun c => !isL c && decide (c < 128)) = true := by decide
  have h := List.all_eq_true.mp h c hc
  rw [Bool.and_eq_true] at h
  refine ⟨fun z => ?_, of_decide_eq_true h.2⟩
  have := isL_to (c := c) (.inl (abc_mem.mp z))
  rw [this] at h
  cases h.1
theorem let_out {a : W} (ha : Al a) {c : Nat} (h : c ∈ abc) (hn : c ∉ a) : Out1 a c ∧ Out1 a (up c) := by
  have hc := abc_mem.mp h
  have eu : up c = c - 32 := by unfold up; rw [if_pos hc.1]
  have e1 : c ∉ sgs a := fun z => by
    rcases List.mem_append.mp z with z | z
    · exact hn z
    · obtain ⟨x, hx, e⟩ := List.mem_map.mp z
      have := ha.lo x hx
      unfold up at e
      rw [if_pos this.1] at e
      omega
  have e2 : c - 32 ∉ sgs a := fun z => by
    rcases List.mem_append.mp z with z | z
    · have := ha.lo _ z
      omega
    · obtain ⟨x, hx, e⟩ := List.mem_map.mp z
      have := ha.lo x hx
      unfold up at e
      rw [if_pos this.1] at e
      have : x = c := by omega
      subst this
      exact hn hx
  rw [eu]
  exact ⟨⟨e1, by omega⟩, e2, by omega⟩
section
variable {k : Nat}
theorem foreign_ok {a : W} (ha : Al a) (n : Int) : ∃ c, callF tab (k + 1) 23 [.str a, .int n] = .ok (.v (.str [c])) ∧ Out1 a c := by
  rw [callF_go (fn := f23) (by rw [tab_is]; rfl) rfl]
  show ∃ c, fin (evB (callF tab k) f23.body [.v (.str a), .v (.int n), .un, .un]) = _ ∧ _
  have hlim : (1000 : Nat) ≤ lim := by decide
  let en : W × Option D → Pd.Env := fun s => [.v (.str a), .v (.int n), .v (.str s.1), osl s.2]
  have ef := forL_ix (e := sD) (f := frB (callF tab k) (.nm 3) f23b0) en (fun s c => (if c ∈ a then s.1 else s.1 ++ [c] ++ [up c], some (sD c))) (fun j s => s.1.length ≤ 43 + 2 * j ∧ s.1 ≠ [] ∧ ∀ c ∈ s.1, Out1 a c) abc 0 (marks, none) ⟨by decide, by decide, marks_out ha⟩ fun j s c hj hI => by
    obtain ⟨h1, h2, h3⟩ := hI
    have hjl := (List.getElem?_eq_some_iff.mp hj).1
    have hjl : j < 26 := hjl
    have hc := List.mem_of_getElem? hj
    have hL : isL c = true := isL_to (.inl (abc_mem.mp hc))
    have hu := up_ok hL
    have a1 := bAdd_ss (a := s.1) (b := [c]) (by simp; omega)
    have a2 := bAdd_ss (a := s.1 ++ [c]) (b := [up c]) (by simp; omega)
    have b0 : frB (callF tab k) (.nm 3) f23b0 (sD c) (en s) = evB (callF tab k) f23b0 [.v (.str a), .v (.int n), .v (.str s.1), .v (sD c)] := by
      simp only [frB, tgS, en, tgOk_nm, stOk_s, stOk_os, if_true, tgt_nm, Option.bind_some, List.set_cons_succ, List.set_cons_zero]
    rw [b0]
    by_cases hm : c ∈ a
    · rw [if_pos hm]
      refine ⟨?_, by show s.1.length ≤ 43 + 2 * (0 + j + 1); omega, h2, h3⟩
      simp only [f23b0, evB_cons, evS_ifs, evT_cmp, evE_var, look_s, look_v, bind_okD, cop_notIn, sD, cIn_c, decide_eq_true hm, if_true, Bool.not_true, asB_bl, st_ok, Bool.false_eq_true, if_false, evB_nil, seq_nx]
      rfl
    · rw [if_neg hm]
      obtain ⟨o1, o2⟩ := let_out ha hc hm
      refine ⟨?_, by simp; omega, by simp, fun x hx => ?_⟩
      · simp only [f23b0, evB_cons, evS_ifs, evT_cmp, evE_var, look_s, look_v, bind_okD, cop_notIn, sD, cIn_c, decide_eq_false hm, if_true, Bool.not_false, asB_bl, st_ok, evS_asg, evE_bin, evE_mth, evL_nil, asS_str, mth_upper, hu, bop_add, a1, a2, setO_v, stOk_s, stOk_v, List.set_cons_succ, List.set_cons_zero, evB_nil, seq_nx]
        rfl
      · rcases List.mem_append.mp hx with hx | hx
        · rcases List.mem_append.mp hx with hx | hx
          · exact h3 x hx
          · rw [List.mem_singleton.mp hx]; exact o1
        · rw [List.mem_singleton.mp hx]; exact o2
  obtain ⟨ef, h1, h2, h3⟩ := ef
  have fr1 := fr_free (cf := callF tab k) (env := en (marks, none)) (t := .nm 3) (it := .seq (.c (.str abc))) (b := f23b0) (ds := abc.map sD) (by
    intro i hi xs z
    cases hi) (by simp only [evI_seq, evE_c, src_v, bind_okD, its_str, ofO_some]; rfl)
  rw [ef] at fr1
  generalize abc.foldl (fun (s : W × Option D) c => (if c ∈ a then s.1 else s.1 ++ [c] ++ [up c], some (sD c))) (marks, none) = s at fr1 h1 h2 h3
  have h1 : s.1.length ≤ 95 := h1
  have hp := List.length_pos_iff.mpr h2
  have hlen := bLen_str (l := s.1) (by omega)
  have hm := bMod_of (i := n) (j := (s.1.length : Int)) (by omega)
  have q1 := Int.emod_nonneg n (show (s.1.length : Int) ≠ 0 by omega)
  have q2 := Int.emod_lt_of_pos n (show (0 : Int) < (s.1.length : Int) by omega)
  obtain ⟨j, hj⟩ := Int.eq_ofNat_of_zero_le q1
  have hjl : j < s.1.length := by omega
  have g := getI_str (l := s.1) (by omega) (List.getElem?_eq_getElem hjl)
  have er := ret_v (callF tab k) (en s) (e := .idx (.var 2) (.bin .mod (.blt .int [(.var 1)]) (.blt .len [(.var 2)]))) (d := .str [s.1[j]]) (fun _ z => by cases z) (idx2 (fvar rfl) (bin2 (blt1 (fvar rfl) (by rw [blt_int, bInt_i])) (blt1 (fvar rfl) (by rw [blt_len, hlen])) (by rw [bop_mod, hm, hj])) g)
  refine ⟨s.1[j], ?_, h3 _ (List.getElem_mem hjl)⟩
  show fin (evB (callF tab k) [_, _, _] _) = _
  refine fin_step [.v (.str a), .v (.int n), .v (.str marks), .un] (by simp [marks]) ?_
  refine fin_step _ fr1 ?_
  rw [evB_stop er]
  rfl
end
theorem addS {a b : W} (h : a.length + b.length ≤ lim) : bop .add (.v (.str a)) (.v (.str b)) = .ok (.v (.str (a ++ b))) := bAdd_ss h
/-! ### strings that are no alphabets -/
theorem not_mark {v : W} {c : Nat} (h : c ∈ v) (hc : ¬ c ∈ abc) : isAl v = false := by
  unfold isAl
  have : v.all (fun c => decide (c ∈ abc)) = false := by
    rw [Bool.eq_false_iff]
    intro z
    exact hc (of_decide_eq_true (List.all_eq_true.mp z c h))
  rw [this, Bool.and_false, Bool.false_and]
theorem not_incr {v : W} {i : Nat} {x y : Nat} (h1 : v[i]? = some x) (h2 : v[i + 1]? = some y) (h : y ≤ x) : isAl v = false := by
  unfold isAl
  have : incr v = false := by
    rw [Bool.eq_false_iff]
    intro z
    have hl := (List.getElem?_eq_some_iff.mp h2).1
    have := List.all_eq_true.mp z i (List.mem_range.mpr (by omega))
    have := of_decide_eq_true this
    rw [List.getD_eq_getElem?_getD, List.getD_eq_getElem?_getD, h1, h2] at this
    have : x < y := this
    omega
  rw [this, Bool.and_false]
theorem not_len {v : W} (h : ¬ (1 ≤ v.length ∧ v.length ≤ 4)) : isAl v = false := by
  unfold isAl
  rw [decide_eq_false h, Bool.false_and, Bool.false_and]
theorem le_last {a : W} (ha : Al a) {i : Nat} {x : Nat} (h : a[i]? = some x) : ∃ y, a[a.length - 1]? = some y ∧ x ≤ y := by
  obtain ⟨hi, e⟩ := List.getElem?_eq_some_iff.mp h
  have hl : a.length - 1 < a.length := by omega
  refine ⟨a[a.length - 1], List.getElem?_eq_getElem hl, ?_⟩
  rw [← e]
  by_cases q : i = a.length - 1
  · subst q; exact Nat.le_refl _
  · exact Nat.le_of_lt (List.pairwise_iff_getElem.mp ha.up i (a.length - 1) hi hl (by omega))
section
variable {k : Nat}
theorem noal_ok {a : W} (ha : Al a) {kind : Nat} (hk : kind < 6) (at_ num : Int) : ∃ v, callF tab (k + 1) 24 [.str a, .int kind, .int at_, .int num] = .ok (.v (.str v)) ∧ isAl v = false ∧ v.length ≤ 20 ∧ asc v := by
  rw [callF_go (fn := f24) (by rw [tab_is]; rfl) rfl]
  show ∃ v, fin (evB (callF tab k) f24.body [.v (.str a), .v (.int kind), .v (.int at_), .v (.int num), .un, .un, .un, .un]) = _ ∧ _
  have hlim : (1000 : Nat) ≤ lim := by decide
  have hn := ha.n1
  have hn4 := ha.n4
  have hasc : asc a := fun c hc => by have := ha.lo c hc; omega
  have hlen := bLen_str (l := a) (by omega)
  have hm := bMod_of (i := at_) (j := (a.length : Int)) (by omega)
  have q1 := Int.emod_nonneg at_ (show (a.length : Int) ≠ 0 by omega)
  have q2 := Int.emod_lt_of_pos at_ (show (0 : Int) < (a.length : Int) by omega)
  obtain ⟨p, hp⟩ := Int.eq_ofNat_of_zero_le q1
  have hpl : p < a.length := by omega
  have hxp := ha.lo _ (List.getElem_mem hpl)
  have gp := getI_str (l := a) (by omega) (List.getElem?_eq_getElem hpl)
  have m22 := bMod_of (i := num) (j := 22) (by decide)
  have r1 := Int.emod_nonneg num (show (22 : Int) ≠ 0 by decide)
  have r2 := Int.emod_lt_of_pos num (show (0 : Int) < 22 by decide)
  obtain ⟨f, hf⟩ := Int.eq_ofNat_of_zero_le r1
  have m25 := bMod_of (i := num) (j := 25) (by decide)
  have r3 := Int.emod_nonneg num (show (25 : Int) ≠ 0 by decide)
  have r4 := Int.emod_lt_of_pos num (show (0 : Int) < 25 by decide)
  obtain ⟨g, hg⟩ := Int.eq_ofNat_of_zero_le r3
  rw [hp] at hm
  rw [hf] at m22
  rw [hg] at m25
  have c1 := cut_take a p
  have c2 := cut_drop a (p + 1)
  have e1 : ∀ env : Pd.Env, evE (callF tab k) (.bin .mod (.blt .int [(.var 2)]) (.blt .len [(.var 0)])) (.v (.str a) :: .v (.int kind) :: .v (.int at_) :: env) = .ok (.v (.int (p : Int))) := fun env =>
    bin2 (blt1 (fvar rfl) (by rw [blt_int, bInt_i])) (blt1 (fvar rfl) (by rw [blt_len, hlen])) (by rw [bop_mod, hm])
  let en (x6 x7 : Sl) : Pd.Env := [.v (.str a), .v (.int kind), .v (.int at_), .v (.int num), .v (.str abc), .v (.int (p : Int)), x6, x7]
  -- one question after another
  have no : ∀ (j : Int) (x6 x7 : Sl) (L : List S), (kind : Int) ≠ j → evS (callF tab k) (.ifs (.cmp .eq (.var 1) (.c (.int j))) L []) (en x6 x7) = some (.nx (en x6 x7)) := fun j x6 x7 L hne => by
    have : decide ((kind : Int) = j) = false := decide_eq_false hne
    simp only [en, evS_ifs, evT_cmp, evE_var, look_s, look_v, bind_okD, evE_c, cop_eq, cEq_ii, this, asB_bl, st_ok, Bool.false_eq_true, if_false, evB_nil]
  have yes : ∀ (j : Int) (x6 x7 : Sl) (L : List S), (kind : Int) = j → evS (callF tab k) (.ifs (.cmp .eq (.var 1) (.c (.int j))) L []) (en x6 x7) = evB (callF tab k) L (en x6 x7) := fun j x6 x7 L hne => by
    have : decide ((kind : Int) = j) = true := decide_eq_true hne
    simp only [en, evS_ifs, evT_cmp, evE_var, look_s, look_v, bind_okD, evE_c, cop_eq, cEq_ii, this, asB_bl, st_ok, Bool.false_eq_true, if_false, if_true]
  have start : ∀ {o : Out Rv}, fin (evB (callF tab k) (f24.body.drop 2) (en .un .un)) = o → fin (evB (callF tab k) f24.body [.v (.str a), .v (.int kind), .v (.int at_), .v (.int num), .un, .un, .un, .un]) = o := fun {o} h => by
    show fin (evB (callF tab k) (_ :: _) _) = _
    refine fin_step [.v (.str a), .v (.int kind), .v (.int at_), .v (.int num), .v (.str abc), .un, .un, .un] (by simp [abc]) ?_
    refine fin_step (en .un .un) (asg1 (e1 _) rfl rfl) ?_
    exact h
  have hv5 : ∀ x6 x7, evE (callF tab k) (.var 5) (en x6 x7) = .ok (.v (.int (p : Int))) := fun _ _ => fvar rfl
  have hv0 : ∀ x6 x7, evE (callF tab k) (.var 0) (en x6 x7) = .ok (.v (.str a)) := fun _ _ => fvar rfl
  have hv4 : ∀ x6 x7, evE (callF tab k) (.var 4) (en x6 x7) = .ok (.v (.str abc)) := fun _ _ => fvar rfl
  have sl1 : ∀ x6 x7, evE (callF tab k) (.slc (.var 0) (.c .non) (.var 5)) (en x6 x7) = .ok (.v (.str (a.take p))) := fun x6 x7 => by
    rw [evE_slc, hv0, hv5, partE_n, partE_v, bind_okD, bind_okD, bind_okD, part_i, bind_okD, getS_str (by omega), c1]
  have sl2 : ∀ x6 x7, evE (callF tab k) (.slc (.var 0) (.bin .add (.var 5) (.c (.int 1))) (.c .non)) (en x6 x7) = .ok (.v (.str (a.drop (p + 1)))) := fun x6 x7 => by
    have z : evE (callF tab k) (.bin .add (.var 5) (.c (.int 1))) (en x6 x7) = .ok (.v (.int ((p + 1 : Nat) : Int))) := bin2 (hv5 _ _) (fc _) rfl
    rw [evE_slc, hv0, z, partE_n, partE_b, bind_okD, bind_okD, part_i, bind_okD, bind_okD, getS_str (by omega), c2]
  by_cases k0 : kind = 0
  · refine ⟨[], start ?_, not_len (by simp), by simp, fun c hc => by cases hc⟩
    show fin (evB (callF tab k) (_ :: _) _) = _
    rw [evB_cons, yes 0 _ _ _ (by omega), evB_cons, ret_v _ _ (fun _ z => by cases z) (fc (.str []))]
    rfl
  have t0 := no 0 .un .un [(.ret (.c (.str [])))] (by omega)
  by_cases k1 : kind = 1
  · have hadd := addS (a := a) (b := [a[p]]) (by simp; omega)
    obtain ⟨y, hy, hxy⟩ := le_last ha (List.getElem?_eq_getElem hpl)
    refine ⟨a ++ [a[p]], start ?_, not_incr (i := a.length - 1) (x := y) (y := a[p]) (by rw [List.getElem?_append_left (by omega)]; exact hy) (by rw [show a.length - 1 + 1 = a.length by omega, List.getElem?_append_right (Nat.le_refl _), Nat.sub_self]; rfl) hxy, by simp; omega, fun c hc => ?_⟩
    · show fin (evB (callF tab k) (_ :: _ :: _) _) = _
      refine fin_step _ t0 ?_
      rw [evB_cons, yes 1 _ _ _ (by omega), evB_cons, ret_v _ _ (fun _ z => by cases z) (bin2 (hv0 _ _) (idx2 (hv0 _ _) (hv5 _ _) gp) hadd)]
      rfl
    · rcases List.mem_append.mp hc with hc | hc
      · exact hasc c hc
      · rw [List.mem_singleton.mp hc]; omega
  have t1 := no 1 .un .un [(.ret (.bin .add (.var 0) (.idx (.var 0) (.var 5))))] (by omega)
  by_cases k2 : kind = 2
  · have cc : cut abc (some (f : Int)) (some ((f + 5 : Nat) : Int)) = (abc.drop f).take 5 := by
      rw [cut_nn, show abc.length = 26 from rfl, Nat.min_eq_left (by omega), Nat.min_eq_left (by omega), show f + 5 - f = 5 by omega]
    have hl5 : ((abc.drop f).take 5).length = 5 := by rw [List.length_take, List.length_drop, show abc.length = 26 from rfl]; omega
    refine ⟨(abc.drop f).take 5, start ?_, not_len (by omega), by omega, fun c hc => ?_⟩
    · show fin (evB (callF tab k) (_ :: _ :: _ :: _) _) = _
      refine fin_step _ t0 ?_
      refine fin_step _ t1 ?_
      rw [evB_cons, yes 2 _ _ _ (by omega)]
      have s7 : evS (callF tab k) (.asg (.nm 7) (.bin .mod (.blt .int [(.var 3)]) (.c (.int 22)))) (en .un .un) = some (.nx (en .un (.v (.int (f : Int))))) := asg1 (bin2 (blt1 (fvar rfl) (by rw [blt_int, bInt_i])) (fc _) (by rw [bop_mod, m22])) rfl rfl
      have z1 : evE (callF tab k) (.slc (.var 4) (.var 7) (.bin .add (.var 7) (.c (.int 5)))) (en .un (.v (.int (f : Int)))) = .ok (.v (.str ((abc.drop f).take 5))) := by
        have y1 : evE (callF tab k) (.var 7) (en .un (.v (.int (f : Int)))) = .ok (.v (.int (f : Int))) := fvar rfl
        have y2 : evE (callF tab k) (.bin .add (.var 7) (.c (.int 5))) (en .un (.v (.int (f : Int)))) = .ok (.v (.int ((f + 5 : Nat) : Int))) := bin2 y1 (fc _) rfl
        rw [evE_slc, hv4, y1, y2, partE_v, partE_b, bind_okD, bind_okD, bind_okD, part_i, part_i, bind_okD, bind_okD, getS_str (by decide), cc]
      rw [evB_cons, s7, seq_nx, evB_cons, ret_v _ _ (fun _ z => by cases z) z1]
      rfl
    · have := abc_mem.mp (List.mem_of_mem_drop (List.mem_of_mem_take hc))
      omega
  have t2 := no 2 .un .un [(.asg (.nm 7) (.bin .mod (.blt .int [(.var 3)]) (.c (.int 22)))), (.ret (.slc (.var 4) (.var 7) (.bin .add (.var 7) (.c (.int 5)))))] (by omega)
  have la : (a.take p).length ≤ 4 := by rw [List.length_take]; omega
  have lb : (a.drop (p + 1)).length ≤ 4 := by rw [List.length_drop]; omega
  by_cases k3 : kind = 3
  · have hup := up_ok (c := a[p]) (isL_to (.inl hxp))
    have eu : up a[p] = a[p] - 32 := by unfold up; rw [if_pos hxp.1]
    have h1 := addS (a := a.take p) (b := [up a[p]]) (by simp; omega)
    have h2 := addS (a := a.take p ++ [up a[p]]) (b := a.drop (p + 1)) (by simp; omega)
    refine ⟨a.take p ++ [up a[p]] ++ a.drop (p + 1), start ?_, not_mark (c := up a[p]) (by simp) (fun z => by have := abc_mem.mp z; omega), by simp; omega, fun c hc => ?_⟩
    · show fin (evB (callF tab k) (_ :: _ :: _ :: _ :: _) _) = _
      refine fin_step _ t0 ?_
      refine fin_step _ t1 ?_
      refine fin_step _ t2 ?_
      have zu : evE (callF tab k) (.mth .upper (.idx (.var 0) (.var 5)) []) (en .un .un) = .ok (.v (.str [up a[p]])) := by
        rw [evE_mth, idx2 (hv0 _ _) (hv5 _ _) gp, bind_okD, asS_str, bind_okD, evL_nil, bind_okD, mth_upper, hup]
      rw [evB_cons, yes 3 _ _ _ (by omega), evB_cons, ret_v _ _ (fun _ z => by cases z) (bin2 (bin2 (sl1 _ _) zu h1) (sl2 _ _) h2)]
      rfl
    · rcases List.mem_append.mp hc with hc | hc
      · rcases List.mem_append.mp hc with hc | hc
        · exact hasc c (List.mem_of_mem_take hc)
        · rw [List.mem_singleton.mp hc]; omega
      · exact hasc c (List.mem_of_mem_drop hc)
  have t3 := no 3 .un .un [(.ret (.bin .add (.bin .add (.slc (.var 0) (.c .non) (.var 5)) (.mth .upper (.idx (.var 0) (.var 5)) [])) (.slc (.var 0) (.bin .add (.var 5) (.c (.int 1))) (.c .non))))] (by omega)
  have hf22 : f < marks2.length := by show f < 22; omega
  have gm := getI_str (l := marks2) (by decide) (List.getElem?_eq_getElem hf22)
  obtain ⟨mk1, mk2⟩ := marks2_no _ (List.getElem_mem hf22)
  have s6 : evS (callF tab k) (.asg (.nm 6) (.idx (.c (.str marks2)) (.bin .mod (.blt .int [(.var 3)]) (.c (.int 22))))) (en .un .un) = some (.nx (en (.v (.str [marks2[f]])) .un)) := asg1 (idx2 (fc _) (bin2 (blt1 (fvar rfl) (by rw [blt_int, bInt_i])) (fc _) (by rw [bop_mod, m22])) gm) rfl rfl
  generalize marks2[f] = mm at gm mk1 mk2 s6
  by_cases k4 : kind = 4
  · have h1 := addS (a := a.take p) (b := [mm]) (by simp; omega)
    have h2 := addS (a := a.take p ++ [mm]) (b := a.drop (p + 1)) (by simp; omega)
    refine ⟨a.take p ++ [mm] ++ a.drop (p + 1), start ?_, not_mark (c := mm) (by simp) mk1, by simp; omega, fun c hc => ?_⟩
    · show fin (evB (callF tab k) (_ :: _ :: _ :: _ :: _ :: _ :: _) _) = _
      refine fin_step _ t0 ?_
      refine fin_step _ t1 ?_
      refine fin_step _ t2 ?_
      refine fin_step _ t3 ?_
      refine fin_step _ s6 ?_
      have hv6 : evE (callF tab k) (.var 6) (en (.v (.str [mm])) .un) = .ok (.v (.str [mm])) := fvar rfl
      rw [evB_cons, yes 4 _ _ _ (by omega), evB_cons, ret_v _ _ (fun _ z => by cases z) (bin2 (bin2 (sl1 _ _) hv6 h1) (sl2 _ _) h2)]
      rfl
    · rcases List.mem_append.mp hc with hc | hc
      · rcases List.mem_append.mp hc with hc | hc
        · exact hasc c (List.mem_of_mem_take hc)
        · rw [List.mem_singleton.mp hc]; omega
      · exact hasc c (List.mem_of_mem_drop hc)
  have t4 := no 4 (.v (.str [mm])) .un [(.ret (.bin .add (.bin .add (.slc (.var 0) (.c .non) (.var 5)) (.var 6)) (.slc (.var 0) (.bin .add (.var 5) (.c (.int 1))) (.c .non))))] (by omega)
  have mq := bMod_of (i := at_) (j := 1 + (g : Int)) (by omega)
  have u1 := Int.emod_nonneg at_ (show (1 + (g : Int)) ≠ 0 by omega)
  have u2 := Int.emod_lt_of_pos at_ (show (0 : Int) < 1 + (g : Int) by omega)
  obtain ⟨h, hh⟩ := Int.eq_ofNat_of_zero_le u1
  rw [hh] at mq
  have x1 := getI_str (l := abc) (by decide) (abc_get (i := 1 + g) (by omega))
  have x2 := getI_str (l := abc) (by decide) (abc_get (i := h) (by omega))
  have hadd := addS (a := [97 + (1 + g)]) (b := [97 + h]) (by simp; omega)
  refine ⟨[97 + (1 + g)] ++ [97 + h], start ?_, not_incr (i := 0) (x := 97 + (1 + g)) (y := 97 + h) rfl rfl (by omega), by simp, fun c hc => ?_⟩
  · show fin (evB (callF tab k) (_ :: _ :: _ :: _ :: _ :: _ :: _ :: _) _) = _
    refine fin_step _ t0 ?_
    refine fin_step _ t1 ?_
    refine fin_step _ t2 ?_
    refine fin_step _ t3 ?_
    refine fin_step _ s6 ?_
    refine fin_step _ t4 ?_
    have z25 : evE (callF tab k) (.bin .add (.c (.int 1)) (.bin .mod (.blt .int [(.var 3)]) (.c (.int 25)))) (en (.v (.str [mm])) .un) = .ok (.v (.int (1 + (g : Int)))) := bin2 (fc _) (bin2 (blt1 (fvar rfl) (by rw [blt_int, bInt_i])) (fc _) (by rw [bop_mod, m25])) rfl
    have er := ret_v (callF tab k) (en (.v (.str [mm])) .un) (e := .bin .add (.idx (.var 4) (.bin .add (.c (.int 1)) (.bin .mod (.blt .int [(.var 3)]) (.c (.int 25))))) (.idx (.var 4) (.bin .mod (.blt .int [(.var 2)]) (.bin .add (.c (.int 1)) (.bin .mod (.blt .int [(.var 3)]) (.c (.int 25))))))) (d := .str ([97 + (1 + g)] ++ [97 + h])) (fun _ z => by cases z)
      (bin2 (idx2 (hv4 _ _) z25 (by rw [show (1 + (g : Int)) = ((1 + g : Nat) : Int) by omega]; exact x1)) (idx2 (hv4 _ _) (bin2 (blt1 (fvar rfl) (by rw [blt_int, bInt_i])) z25 (by rw [bop_mod, mq])) x2) hadd)
    rw [evB_stop er]
    rfl
  · rcases List.mem_append.mp hc with hc | hc
    · rw [List.mem_singleton.mp hc]; omega
    · rw [List.mem_singleton.mp hc]; omega
end
end K01
set_option Elab.async false
set_option linter.all false
set_option maxRecDepth 100000
set_option autoImplicit false
set_option maxHeartbeats 4000000
namespace K01
open PySem Pd Wl
/-- what is told beside a word: a short text or a number -/
def Small : D → Prop
  | .str l => asc l ∧ l.length ≤ 1000
  | .int i => i.natAbs < 1000
  | _ => False
theorem bd_small {d : D} (h : Small d) : Bd d 4002 0 := by
  cases d with
  | str l =>
    obtain ⟨h1, h2⟩ := h
    exact bd_asc h1 h2
  | int i =>
    have h : i.natAbs < 1000 := h
    exact (Bd.int (by omega)).mono (by decide) (Nat.le_refl _)
  | _ => exact h.elim
theorem bd_pair {a b : D} (ha : Small a) (hb : Small b) : Bd (.lst [a, b]) 8011 1 := Bd.lst (xs := [a, b]) (w := 4002) (q := 0) (n := 2) (fun d hd => by
    simp only [List.mem_cons, List.not_mem_nil, or_false] at hd
    rcases hd with rfl | rfl
    · exact bd_small ha
    · exact bd_small hb) (by simp)
theorem repr_pair {a b : D} (ha : Small a) (hb : Small b) : doRepr (.own [a, b]) = .ok (.v (.str (reprT (.lst [a, b])))) := Bd.repr (r := .own [a, b]) (bd_pair ha hb) (by decide) (by decide)
theorem repr_two {a b c d : D} (ha : Small a) (hb : Small b) (hc : Small c) (hd : Small d) : doRepr (.own [.lst [a, b], .lst [c, d]]) = .ok (.v (.str (reprT (.lst [.lst [a, b], .lst [c, d]])))) :=
  Bd.repr (r := .own [.lst [a, b], .lst [c, d]]) (Bd.lst (xs := [.lst [a, b], .lst [c, d]]) (n := 2) (w := 8011) (q := 1) (fun x hx => by
    simp only [List.mem_cons, List.not_mem_nil, or_false] at hx
    rcases hx with rfl | rfl
    · exact bd_pair ha hb
    · exact bd_pair hc hd) (by simp)) (by decide) (by decide)
theorem asc_of {l : W} (h : (l.all fun c => decide (c < 128)) = true) : asc l := fun c hc => of_decide_eq_true (List.all_eq_true.mp h c hc)
theorem sm_tAl : Small (.str tAl) := ⟨asc_of (by decide), by decide⟩
theorem sm_tWd : Small (.str tWd) := ⟨asc_of (by decide), by decide⟩
theorem sm_tTb : Small (.str tTb) := ⟨asc_of (by decide), by decide⟩
theorem sm_told : Small (.str told) := ⟨asc_of (by decide), by decide⟩
theorem sm_int {n : Nat} (h : n < 1000) : Small (.int n) := by show (n : Int).natAbs < 1000; omega
theorem asc_wd {l : W} (h : Wd l) : asc l := fun c hc => isL_lt (h c hc)
theorem asc_app {l k : W} (h : asc l) (g : asc k) : asc (l ++ k) := fun c hc => (List.mem_append.mp hc).elim (h c) (g c)
/-! ### what is asked -/
section
variable {a b w : W} {t one : List W} {d d1 d2 : D}
theorem A0 (hb : isAl a = false) (hl : a.length ≤ 1000) (hw : w.length ≤ 1000) (hd : Sq1 d (wS t)) : callF tab 10 20 [.int 0, .lst [.str a, .str w, d]] = .ok (.own [.str tAl, .str a]) :=
  asked_exc (k := 9) (n := 0) 0 (.inl ⟨rfl, rfl, rfl⟩) (.inl ⟨rfl, _, _, _, rfl, (rep_fn (k := 5) X hd hl (by omega)).1 hb⟩)
theorem A1 (hb : isAl a = false) (hl : a.length ≤ 1000) : callF tab 10 20 [.int 1, .lst [.str a]] = .ok (.own [.str tAl, .str a]) :=
  asked_exc (k := 9) (n := 1) 0 (.inl ⟨rfl, rfl, rfl⟩) (.inr (.inl ⟨rfl, _, rfl, (plain_fn (k := 6) (i := 12) X (by rw [tab_is]; rfl) hl).1 hb⟩))
theorem A2 (hb : isAl a = false) (hl : a.length ≤ 1000) (hd1 : Sq1 d1 (wS one)) (hd2 : Sq1 d2 (wS t)) (hw : ∀ w ∈ one, w.length ≤ 1000) (h1l : one.length ≤ 1000) : callF tab 10 20 [.int 2, .lst [.str a, d1, d2]] = .ok (.own [.str tAl, .str a]) :=
  asked_exc (k := 9) (n := 2) 0 (.inl ⟨rfl, rfl, rfl⟩) (.inr (.inr ⟨rfl, _, _, _, rfl, (tab_fn (k := 4) (i := 13) X (by rw [tab_is]; rfl) hd1 hd2 hl hw h1l).1 hb⟩))
theorem W0 (ha : Al a) (hb : isWd a w = false) (hw : w.length ≤ 1000) (hd : Sq1 d (wS t)) : callF tab 10 20 [.int 0, .lst [.str a, .str w, d]] = .ok (.own [.str tWd, .str w]) :=
  asked_exc (k := 9) (n := 0) 1 (.inr (.inl ⟨rfl, rfl, rfl⟩)) (.inl ⟨rfl, _, _, _, rfl, (rep_fn (k := 5) X hd (by have := ha.n4; omega) (by omega)).2.1 ha hb⟩)
theorem W2 (ha : Al a) (hf : one.find? (fun w => !isWd a w) = some w) (hd1 : Sq1 d1 (wS one)) (hd2 : Sq1 d2 (wS t)) (hw : ∀ w ∈ one, w.length ≤ 1000) (h1l : one.length ≤ 1000) : callF tab 10 20 [.int 2, .lst [.str a, d1, d2]] = .ok (.own [.str tWd, .str w]) :=
  asked_exc (k := 9) (n := 2) 1 (.inr (.inl ⟨rfl, rfl, rfl⟩)) (.inr (.inr ⟨rfl, _, _, _, rfl, (tab_fn (k := 4) (i := 13) X (by rw [tab_is]; rfl) hd1 hd2 (by have := ha.n4; omega) hw h1l).2.1 ha w hf⟩))
theorem T0 (ha : Al a) (hb : isWd a w = true) (hne : t.length ≠ a.length) (hw : w.length ≤ 1000) (hd : Sq1 d (wS t)) : callF tab 10 20 [.int 0, .lst [.str a, .str w, d]] = .ok (.own [.str tTb, .int t.length]) :=
  asked_exc (k := 9) (n := 0) 2 (.inr (.inr ⟨rfl, rfl, rfl⟩)) (.inl ⟨rfl, _, _, _, rfl, (rep_fn (k := 5) X hd (by have := ha.n4; omega) (by omega)).2.2.1 ha hb hne⟩)
theorem T2 (ha : Al a) (hall : ∀ w ∈ one, isWd a w = true) (hne : t.length ≠ a.length) (hd1 : Sq1 d1 (wS one)) (hd2 : Sq1 d2 (wS t)) (hw : ∀ w ∈ one, w.length ≤ 1000) (h1l : one.length ≤ 1000) : callF tab 10 20 [.int 2, .lst [.str a, d1, d2]] = .ok (.own [.str tTb, .int t.length]) :=
  asked_exc (k := 9) (n := 2) 2 (.inr (.inr ⟨rfl, rfl, rfl⟩)) (.inr (.inr ⟨rfl, _, _, _, rfl, (tab_fn (k := 4) (i := 13) X (by rw [tab_is]; rfl) hd1 hd2 (by have := ha.n4; omega) hw h1l).2.2.1 ha hall hne⟩))
end
theorem find_set {α : Type} {p : α → Bool} {x : α} : ∀ (l : List α) (i : Nat), i < l.length → (∀ (j : Nat) (y : α), j < i → l[j]? = some y → p y = false) → p x = true → (l.set i x).find? p = some x
  | [], i, h, _, _ => by simp at h
  | y :: l, 0, _, _, hx => by rw [List.set_cons_zero, List.find?_cons, hx]
  | y :: l, i + 1, h, hj, hx => by
    rw [List.set_cons_succ, List.find?_cons, hj 0 y (by omega) rfl]
    exact find_set l i (by simpa using h) (fun j z hji hz => hj (j + 1) z (by omega) (by simpa using hz)) hx
theorem bMul_l9 {xs : List D} (h : xs.length ≤ 1000) : bMul (.v (.lst xs)) (.v (.int 9)) = .ok (.own (List.replicate 9 xs).flatten) := by
  have hlim : (100000 : Nat) ≤ lim := by decide
  show (if decide (-(2 ^ 62) < (9 : Int)) && decide ((9 : Int) < 2 ^ 62) && decide (xs.length * (9 : Int).toNat ≤ lim) then Out.ok (Rv.own (List.replicate (9 : Int).toNat xs).flatten) else .stk) = _
  have e : decide (xs.length * (9 : Int).toNat ≤ lim) = true := decide_eq_true (by show xs.length * 9 ≤ lim; omega)
  rw [e, if_pos (by decide)]
  rfl
theorem rep9_S (t : List W) : (List.replicate 9 (wS t)).flatten = wS (List.replicate 9 t).flatten := by
  simp [wS, List.replicate]
theorem rep9_len (t : List W) : (List.replicate 9 t).flatten.length = 9 * t.length := by
  simp [List.replicate]
  omega
theorem rep9_mem {t : List W} {w : W} (h : w ∈ (List.replicate 9 t).flatten) : w ∈ t := by
  obtain ⟨l, hl, hw⟩ := List.mem_flatten.mp h
  rw [List.eq_of_mem_replicate hl] at hw
  exact hw
theorem wS_take (t : List W) (n : Nat) : cut (wS t) none (some (n : Int)) = wS (t.take n) := by
  rw [cut_take]
  unfold wS
  rw [List.map_take]
end K01
set_option Elab.async false
set_option linter.all false
set_option maxRecDepth 100000
set_option autoImplicit false
set_option maxHeartbeats 4000000
namespace K01
open PySem Pd Wl
theorem cut_mem {w : W} {x y : Option Int} {c : Nat} (h : c ∈ cut w x y) : c ∈ w := List.mem_of_mem_drop (List.mem_of_mem_take h)
theorem cut_len {w : W} {x y : Option Int} : (cut w x y).length ≤ w.length := by
  unfold cut
  rw [List.length_take, List.length_drop]
  omega
section
variable {cf : Nat → List D → Out Rv} {env : Pd.Env}
theorem many_ok {i : Int} {j : Nat} {r : Int} {a : W} (h1 : evE cf (.idx (.var 5) (.c (.int i))) env = .ok (.v (.int r))) (h2 : evE cf (.var j) env = .ok (.v (.str a))) (hl : a.length ≤ 1000) :
    ∃ mm : Nat, evE cf (.bin .add (.bin .mod (.blt .int [(.idx (.var 5) (.c (.int i)))]) (.c (.int 8))) (.blt .int [(.cmp .ge (.bin .mod (.blt .int [(.idx (.var 5) (.c (.int i)))]) (.c (.int 8))) (.blt .len [(.var j)]))])) env = .ok (.v (.int (mm : Int))) ∧ mm ≤ 8 ∧ mm ≠ a.length := by
  have hlim : (1000 : Nat) ≤ lim := by decide
  have hm := bMod_of (i := r) (j := 8) (by decide)
  have q1 := Int.emod_nonneg r (show (8 : Int) ≠ 0 by decide)
  have q2 := Int.emod_lt_of_pos r (show (0 : Int) < 8 by decide)
  obtain ⟨m, e⟩ := Int.eq_ofNat_of_zero_le q1
  rw [e] at hm
  have z1 : evE cf (.bin .mod (.blt .int [(.idx (.var 5) (.c (.int i)))]) (.c (.int 8))) env = .ok (.v (.int (m : Int))) := bin2 (blt1 h1 (by rw [blt_int, bInt_i])) (fc _) (by rw [bop_mod, hm])
  have z2 : evE cf (.blt .len [(.var j)]) env = .ok (.v (.int (a.length : Int))) := blt1 h2 (by rw [blt_len, bLen_str (by omega)])
  have z3 : evE cf (.blt .int [(.cmp .ge (.bin .mod (.blt .int [(.idx (.var 5) (.c (.int i)))]) (.c (.int 8))) (.blt .len [(.var j)]))]) env = .ok (.v (.int (if a.length ≤ m then 1 else 0))) := by
    have : evE cf (.cmp .ge (.bin .mod (.blt .int [(.idx (.var 5) (.c (.int i)))]) (.c (.int 8))) (.blt .len [(.var j)])) env = .ok (.v (.bl (decide (a.length ≤ m)))) := by
      rw [evE_cmp, z1, z2, bind_okD, bind_okD, cop_ge, cLe_ii]
      congr 3
      exact decide_eq_decide.mpr (by omega)
    refine blt1 this ?_
    rw [blt_int, bInt_b]
    by_cases h : a.length ≤ m
    · rw [decide_eq_true h, if_pos rfl, if_pos h]
    · rw [decide_eq_false h, if_neg Bool.false_ne_true, if_neg h]
  by_cases h : a.length ≤ m
  · rw [if_pos h] at z3
    exact ⟨m + 1, bin2 z1 z3 (by rw [bop_add, bAdd_ii]; try rfl), by omega, by omega⟩
  · rw [if_neg h] at z3
    exact ⟨m, bin2 z1 z3 (by rw [bop_add, bAdd_ii]; congr 3), by omega, by omega⟩
end
theorem nil_find {a : W} : ∀ w ∈ ([[]] : List W), isWd a w = true := fun w hw => by rw [List.mem_singleton.mp hw]; rfl
theorem refused_ok {a b w : W} {t o : List W} {k0 k9 : Nat} {r1 r2 r3 r4 r5 r6 r7 r8 : Int} (ha : Al a) (hb : Al b) (hw : On a w) (hwl : w.length ≤ 60) (ht : Tb a t 24) (hto : ∀ v ∈ t, On b v) (ho : Tb b o 24) (h0 : k0 < 6) (h9 : k9 < 6) :
    callF tab 11 25 [.str a, .str b, .str w, .lst (wS t), .lst (wS o), .lst [.int k0, .int r1, .int r2, .int r3, .int r4, .int r5, .int r6, .int r7, .int r8, .int k9]] = .ok (.v (.bl true)) := by
  rw [callF_go (fn := f25) (by rw [tab_is]; rfl) rfl]
  have hlim : (100000 : Nat) ≤ lim := by decide
  have hn := ha.n1
  have hn4 := ha.n4
  have hm1 := hb.n1
  have hm4 := hb.n4
  let rw_ : List D := [.int k0, .int r1, .int r2, .int r3, .int r4, .int r5, .int r6, .int r7, .int r8, .int k9]
  let en (x6 x7 x8 x9 x10 x11 x12 x13 x14 : Sl) : Pd.Env := [.v (.str a), .v (.str b), .v (.str w), .v (.lst (wS t)), .v (.lst (wS o)), .v (.lst rw_), x6, x7, x8, x9, x10, x11, x12, x13, x14]
  show fin (evB (callF tab 10) f25.body (en .un .un .un .un .un .un .un .un .un)) = _
  have tl : t.length = a.length := ht.len
  have ol : o.length = b.length := ho.len
  have v0 : ∀ x6 x7 x8 x9 x10 x11 x12 x13 x14, evE (callF tab 10) (.var 0) (en x6 x7 x8 x9 x10 x11 x12 x13 x14) = .ok (.v (.str a)) := fun _ _ _ _ _ _ _ _ _ => fvar rfl
  have v1 : ∀ x6 x7 x8 x9 x10 x11 x12 x13 x14, evE (callF tab 10) (.var 1) (en x6 x7 x8 x9 x10 x11 x12 x13 x14) = .ok (.v (.str b)) := fun _ _ _ _ _ _ _ _ _ => fvar rfl
  have v2 : ∀ x6 x7 x8 x9 x10 x11 x12 x13 x14, evE (callF tab 10) (.var 2) (en x6 x7 x8 x9 x10 x11 x12 x13 x14) = .ok (.v (.str w)) := fun _ _ _ _ _ _ _ _ _ => fvar rfl
  have v3 : ∀ x6 x7 x8 x9 x10 x11 x12 x13 x14, evE (callF tab 10) (.var 3) (en x6 x7 x8 x9 x10 x11 x12 x13 x14) = .ok (.v (.lst (wS t))) := fun _ _ _ _ _ _ _ _ _ => fvar rfl
  have v4 : ∀ x6 x7 x8 x9 x10 x11 x12 x13 x14, evE (callF tab 10) (.var 4) (en x6 x7 x8 x9 x10 x11 x12 x13 x14) = .ok (.v (.lst (wS o))) := fun _ _ _ _ _ _ _ _ _ => fvar rfl
  have v5 : ∀ x6 x7 x8 x9 x10 x11 x12 x13 x14, evE (callF tab 10) (.var 5) (en x6 x7 x8 x9 x10 x11 x12 x13 x14) = .ok (.v (.lst rw_)) := fun _ _ _ _ _ _ _ _ _ => fvar rfl
  have g : ∀ (i : Nat) (r : Int), rw_[i]? = some (.int r) → ∀ x6 x7 x8 x9 x10 x11 x12 x13 x14, evE (callF tab 10) (.idx (.var 5) (.c (.int (i : Int)))) (en x6 x7 x8 x9 x10 x11 x12 x13 x14) = .ok (.v (.int r)) := fun i r h _ _ _ _ _ _ _ _ _ => idx2 (v5 _ _ _ _ _ _ _ _ _) (fc _) (getI_l h)
  have g0 := g 0 k0 rfl
  have g1 := g 1 r1 rfl
  have g2 := g 2 r2 rfl
  have g3 := g 3 r3 rfl
  have g4 := g 4 r4 rfl
  have g5 := g 5 r5 rfl
  have g6 := g 6 r6 rfl
  have g7 := g 7 r7 rfl
  have g8 := g 8 r8 rfl
  have g9 := g 9 k9 rfl
  clear g
  have fz : ∀ (f : Rv → Out D), True := fun _ => trivial
  -- a string that is no alphabet
  obtain ⟨bad, e1, hbad, hbl, hba⟩ := noal_ok (k := 9) ha h0 r1 r2
  have f0 : ∀ (is : List Nat) x6 x7 x8 x9 x10 x11 x12 x13 x14, is = [0] ∨ is = [1] → frzL is (en x6 x7 x8 x9 x10 x11 x12 x13 x14) = en x6 x7 x8 x9 x10 x11 x12 x13 x14 := fun is _ _ _ _ _ _ _ _ _ h => by rcases h with rfl | rfl <;> rfl
  show fin (evB (callF tab 10) [_, _, _, _, _, _, _, _, _, _, _, _, _, _, _, _, _, _, _, _, _, _] _) = _
  refine fin_step (en (.v (.str bad)) .un .un .un .un .un .un .un .un) (by
    rw [evS_frz, f0 _ _ _ _ _ _ _ _ _ _ (.inl rfl)]
    exact asg1 (call4 (fzv (v0 _ _ _ _ _ _ _ _ _)) (fzv (g0 _ _ _ _ _ _ _ _ _)) (fzv (g1 _ _ _ _ _ _ _ _ _)) (fzv (g2 _ _ _ _ _ _ _ _ _)) e1) rfl rfl) ?_
  -- a place
  have s59 : ∀ x6 x7 x8 x9 x10 x11 x12 x13 x14, evE (callF tab 10) (.slc (.var 2) (.c .non) (.c (.int 59))) (en x6 x7 x8 x9 x10 x11 x12 x13 x14) = .ok (.v (.str (w.take 59))) := fun _ _ _ _ _ _ _ _ _ => by
    have := cut_take w 59
    rw [evE_slc, v2, evE_c, evE_c, partE_n, partE_ci, bind_okD, bind_okD, bind_okD, part_i, bind_okD, getS_str (by omega)]
    rw [show ((59 : Nat) : Int) = 59 from rfl] at this
    rw [this]
  have l59 : (w.take 59).length ≤ 59 := by rw [List.length_take]; omega
  have hq := bMod_of (i := r3) (j := ((w.take 59).length : Int) + 1) (by omega)
  have q1 := Int.emod_nonneg r3 (show ((w.take 59).length : Int) + 1 ≠ 0 by omega)
  obtain ⟨q, eq⟩ := Int.eq_ofNat_of_zero_le q1
  rw [eq] at hq
  refine fin_step (en (.v (.str bad)) (.v (.int (q : Int))) .un .un .un .un .un .un .un) (asg1 (bin2 (blt1 (g3 _ _ _ _ _ _ _ _ _) (by rw [blt_int, bInt_i])) (bin2 (blt1 (s59 _ _ _ _ _ _ _ _ _) (by rw [blt_len, bLen_str (by omega)])) (fc _) (by rw [bop_add, bAdd_ii])) (by rw [bop_mod, hq])) rfl rfl) ?_
  -- a word with a foreign sign
  obtain ⟨c, e2, hc1, hc2⟩ := foreign_ok (k := 9) ha r4
  let strange : W := w.take q ++ [c] ++ cut w (some (q : Int)) (some 59)
  have xl := cut_len (w := w) (x := some (q : Int)) (y := some 59)
  have tql : (w.take q).length ≤ 60 := by rw [List.length_take]; omega
  have hs1 : isWd a strange = false := by
    rw [Bool.eq_false_iff]
    intro z
    exact hc1 (isWd_mem z c (by simp [strange]))
  have hwa : asc w := asc_wd (hw.wd ha)
  have hs2 : asc strange := fun x hx => by
    rcases List.mem_append.mp hx with hx | hx
    · rcases List.mem_append.mp hx with hx | hx
      · exact hwa x (List.mem_of_mem_take hx)
      · rw [List.mem_singleton.mp hx]; exact hc2
    · exact hwa x (cut_mem hx)
  have hs3 : strange.length ≤ 200 := by
    show (w.take q ++ [c] ++ cut w (some (q : Int)) (some 59)).length ≤ 200
    rw [List.length_append, List.length_append]
    simp only [List.length_singleton]
    omega
  have v7 : ∀ x6 x8 x9 x10 x11 x12 x13 x14, evE (callF tab 10) (.var 7) (en x6 (.v (.int (q : Int))) x8 x9 x10 x11 x12 x13 x14) = .ok (.v (.int (q : Int))) := fun _ _ _ _ _ _ _ _ => fvar rfl
  refine fin_step (en (.v (.str bad)) (.v (.int (q : Int))) (.v (.str strange)) .un .un .un .un .un .un) (by
    rw [evS_frz, f0 _ _ _ _ _ _ _ _ _ _ (.inl rfl)]
    have y1 : evE (callF tab 10) (.slc (.var 2) (.c .non) (.var 7)) (en (.v (.str bad)) (.v (.int (q : Int))) .un .un .un .un .un .un .un) = .ok (.v (.str (w.take q))) := by
      rw [evE_slc, v2, v7, partE_n, partE_v, bind_okD, bind_okD, bind_okD, part_i, bind_okD, getS_str (by omega), cut_take]
    have y2 : evE (callF tab 10) (.slc (.var 2) (.var 7) (.c (.int 59))) (en (.v (.str bad)) (.v (.int (q : Int))) .un .un .un .un .un .un .un) = .ok (.v (.str (cut w (some (q : Int)) (some 59)))) := by
      rw [evE_slc, v2, v7, evE_c, partE_v, partE_ci, bind_okD, bind_okD, bind_okD, part_i, part_i, bind_okD, bind_okD, getS_str (by omega)]
    exact asg1 (bin2 (bin2 y1 (call2 (fzv (v0 _ _ _ _ _ _ _ _ _)) (fzv (g4 _ _ _ _ _ _ _ _ _)) e2) (addS (by simp; omega))) y2 (addS (by simp; omega))) rfl rfl) ?_
  clear_value strange
  -- a table that is too short or too long
  obtain ⟨mm, em, hmm, hne⟩ := many_ok (cf := callF tab 10) (i := 5) (j := 0) (g5 (.v (.str bad)) (.v (.int (q : Int))) (.v (.str strange)) .un .un .un .un .un .un) (v0 _ _ _ _ _ _ _ _ _) (by omega)
  refine fin_step (en (.v (.str bad)) (.v (.int (q : Int))) (.v (.str strange)) (.v (.int (mm : Int))) .un .un .un .un .un) (asg1 em rfl rfl) ?_
  let short : List W := ((List.replicate 9 t).flatten).take mm
  have shl : short.length = mm := by
    show (((List.replicate 9 t).flatten).take mm).length = mm
    rw [List.length_take, rep9_len]
    omega
  have shm : ∀ v ∈ short, v ∈ t := fun v hv => rep9_mem (List.mem_of_mem_take hv)
  have shw : ∀ v ∈ short, v.length ≤ 1000 := fun v hv => by have := (ht.wd v (shm v hv)).2; omega
  refine fin_step (en (.v (.str bad)) (.v (.int (q : Int))) (.v (.str strange)) (.v (.int (mm : Int))) (.own (wS short)) .un .un .un .un) (by
    have y1 : evE (callF tab 10) (.bin .mul (.var 3) (.c (.int 9))) (en (.v (.str bad)) (.v (.int (q : Int))) (.v (.str strange)) (.v (.int (mm : Int))) .un .un .un .un .un) = .ok (.own (wS (List.replicate 9 t).flatten)) := bin2 (v3 _ _ _ _ _ _ _ _ _) (fc _) (by rw [bop_mul, bMul_l9 (by rw [wS_len]; omega), rep9_S])
    have y2 : evE (callF tab 10) (.var 9) (en (.v (.str bad)) (.v (.int (q : Int))) (.v (.str strange)) (.v (.int (mm : Int))) .un .un .un .un .un) = .ok (.v (.int (mm : Int))) := fvar rfl
    have y3 : evE (callF tab 10) (.slc (.bin .mul (.var 3) (.c (.int 9))) (.c .non) (.var 9)) (en (.v (.str bad)) (.v (.int (q : Int))) (.v (.str strange)) (.v (.int (mm : Int))) .un .un .un .un .un) = .ok (.own (wS short)) := by
      rw [evE_slc, y1, y2, partE_n, partE_v, bind_okD, bind_okD, bind_okD, part_i, bind_okD, getS_o, wS_take]
    exact asg1 y3 rfl rfl) ?_
  have sq1 : Sq1 (.lst (wS short)) (wS short) := .inl rfl
  have sqT : Sq1 (.lst (wS t)) (wS t) := .inl rfl
  have sqO : Sq1 (.lst (wS o)) (wS o) := .inl rfl
  have twl : ∀ v ∈ t, v.length ≤ 1000 := fun v hv => by have := (ht.wd v hv).2; omega
  clear_value short
  have smB : Small (.str bad) := ⟨hba, by omega⟩
  have smS : Small (.str strange) := ⟨hs2, by omega⟩
  have smM : Small (.int (mm : Int)) := sm_int (by omega)
  have tC : ∀ env, evE (callF tab 10) (.c (.str [97, 108, 112, 104, 97, 98, 101, 116])) env = .ok (.v (.str tAl)) := fun _ => fc _
  have tW : ∀ env, evE (callF tab 10) (.c (.str [119, 111, 114, 100])) env = .ok (.v (.str tWd)) := fun _ => fc _
  have tT : ∀ env, evE (callF tab 10) (.c (.str [116, 97, 98, 108, 101])) env = .ok (.v (.str tTb)) := fun _ => fc _
  let E1 : Pd.Env := en (.v (.str bad)) (.v (.int (q : Int))) (.v (.str strange)) (.v (.int (mm : Int))) (.v (.lst (wS short))) .un .un .un .un
  have u6 : evE (callF tab 10) (.var 6) E1 = .ok (.v (.str bad)) := fvar rfl
  have u8 : evE (callF tab 10) (.var 8) E1 = .ok (.v (.str strange)) := fvar rfl
  have u9 : evE (callF tab 10) (.var 9) E1 = .ok (.v (.int (mm : Int))) := fvar rfl
  have u10 : evE (callF tab 10) (.var 10) E1 = .ok (.v (.lst (wS short))) := fvar rfl
  have w0 : evE (callF tab 10) (.var 0) E1 = .ok (.v (.str a)) := fvar rfl
  have w2 : evE (callF tab 10) (.var 2) E1 = .ok (.v (.str w)) := fvar rfl
  have w3 : evE (callF tab 10) (.var 3) E1 = .ok (.v (.lst (wS t))) := fvar rfl
  have isW : isWd a w = true := isWd_of hw
  refine fin_step E1 (by
    rw [evS_frz, show frzL [6, 8, 10, 6] _ = E1 from rfl]
    exact ne_repr (call2 (fzv (fc _)) (fzo (lst3 (fzv u6) (fzv u8) (fzv u10))) (A0 hbad (by omega) (by omega) sq1)) (lst2 (fzv (tC _)) (fzv u6)) (repr_pair sm_tAl smB) (repr_pair sm_tAl smB)) ?_
  refine fin_step E1 (by
    rw [evS_frz, show frzL [6, 6] E1 = E1 from rfl]
    exact ne_repr (call2 (fzv (fc _)) (fzo (lst1 (fzv u6))) (A1 hbad (by omega))) (lst2 (fzv (tC _)) (fzv u6)) (repr_pair sm_tAl smB) (repr_pair sm_tAl smB)) ?_
  refine fin_step E1 (by
    rw [evS_frz, show frzL [0, 8, 10, 8] E1 = E1 from rfl]
    exact ne_repr (call2 (fzv (fc _)) (fzo (lst3 (fzv w0) (fzv u8) (fzv u10))) (W0 ha hs1 (by omega) sq1)) (lst2 (fzv (tW _)) (fzv u8)) (repr_pair sm_tWd smS) (repr_pair sm_tWd smS)) ?_
  refine fin_step E1 (by
    rw [evS_frz, show frzL [0, 8, 3, 8] E1 = E1 from rfl]
    exact ne_repr (call2 (fzv (fc _)) (fzo (lst3 (fzv w0) (fzv u8) (fzv w3))) (W0 ha hs1 (by omega) sqT)) (lst2 (fzv (tW _)) (fzv u8)) (repr_pair sm_tWd smS) (repr_pair sm_tWd smS)) ?_
  have sqU : Sq1 (.tup (wS short)) (wS short) := .inr rfl
  have T0a := T0 (d := .tup (wS short)) ha isW (by rw [shl]; exact hne) (by omega) sqU
  rw [shl] at T0a
  refine fin_step E1 (by
    rw [evS_frz, show frzL [0, 2, 9] E1 = E1 from rfl]
    exact ne_repr (call2 (fzv (fc _)) (fzo (lst3 (fzv w0) (fzv w2) (fzv (blt1 u10 (by rw [blt_tuple, bTuple_l]))))) T0a) (lst2 (fzv (tT _)) (fzv u9)) (repr_pair sm_tTb smM) (repr_pair sm_tTb smM)) ?_
  have T0b := T0 (w := []) ha rfl (by rw [shl]; exact hne) (by simp) sq1
  rw [shl] at T0b
  refine fin_step E1 (by
    rw [evS_frz, show frzL [6, 3, 0, 10, 6, 9] E1 = E1 from rfl]
    exact ne_repr (lst2 (fzo (call2 (fzv (fc _)) (fzo (lst3 (fzv u6) (fzv (fc _)) (fzv w3))) (A0 (w := []) hbad (by omega) (by simp) sqT))) (fzo (call2 (fzv (fc _)) (fzo (lst3 (fzv w0) (fzv (fc _)) (fzv u10))) T0b))) (lst2 (fzo (lst2 (fzv (tC _)) (fzv u6))) (fzo (lst2 (fzv (tT _)) (fzv u9)))) (repr_two sm_tAl smB sm_tTb smM) (repr_two sm_tAl smB sm_tTb smM)) ?_
  -- a bad word in a table
  have hp := bMod_of (i := r6) (j := (t.length : Int)) (by omega)
  have p1 := Int.emod_nonneg r6 (show (t.length : Int) ≠ 0 by omega)
  have p2 := Int.emod_lt_of_pos r6 (show (0 : Int) < (t.length : Int) by omega)
  obtain ⟨p, ep⟩ := Int.eq_ofNat_of_zero_le p1
  rw [ep] at hp
  have hpl : p < t.length := by omega
  let F (x6 x11 x12 x13 x14 : Sl) : Pd.Env := en x6 (.v (.int (q : Int))) (.v (.str strange)) (.v (.int (mm : Int))) (.v (.lst (wS short))) x11 x12 x13 x14
  refine fin_step (F (.v (.str bad)) (.v (.int (p : Int))) .un .un .un) (asg1 (bin2 (blt1 (g6 _ _ _ _ _ _ _ _ _) (by rw [blt_int, bInt_i])) (blt1 w3 (by rw [blt_len, bLen_l, wS_len])) (by rw [bop_mod, hp])) rfl rfl) ?_
  obtain ⟨c', e3, hc3, hc4⟩ := foreign_ok (k := 9) hb r7
  let wrong : W := (t[p]).take 20 ++ [c']
  have hwp := ht.wd _ (List.getElem_mem hpl)
  have tpl : ((t[p]).take 20).length ≤ 20 := by rw [List.length_take]; omega
  have hw1 : isWd b wrong = false := by
    rw [Bool.eq_false_iff]
    intro z
    exact hc3 (isWd_mem z c' (by simp [wrong]))
  have hw2 : asc wrong := asc_app (fun x hx => asc_wd hwp.1 x (List.mem_of_mem_take hx)) (fun x hx => by rw [List.mem_singleton.mp hx]; exact hc4)
  have hw3 : wrong.length ≤ 30 := by
    show ((t[p]).take 20 ++ [c']).length ≤ 30
    rw [List.length_append]
    simp only [List.length_singleton]
    omega
  refine fin_step (F (.v (.str bad)) (.v (.int (p : Int))) (.v (.str wrong)) .un .un) (by
    rw [evS_frz, show frzL [1] (F (.v (.str bad)) (.v (.int (p : Int))) .un .un .un) = F (.v (.str bad)) (.v (.int (p : Int))) .un .un .un from rfl]
    have y1 : evE (callF tab 10) (.idx (.var 3) (.var 11)) (F (.v (.str bad)) (.v (.int (p : Int))) .un .un .un) = .ok (.v (.str t[p])) := idx2 (fvar (i := 3) rfl) (fvar (i := 11) rfl) (getI_l (wS_get (List.getElem?_eq_getElem hpl)))
    have y2 : evE (callF tab 10) (.slc (.idx (.var 3) (.var 11)) (.c .non) (.c (.int 20))) (F (.v (.str bad)) (.v (.int (p : Int))) .un .un .un) = .ok (.v (.str ((t[p]).take 20))) := by
      have := cut_take (t[p]) 20
      rw [evE_slc, y1, evE_c, evE_c, partE_n, partE_ci, bind_okD, bind_okD, bind_okD, part_i, bind_okD, getS_str (by omega)]
      rw [show ((20 : Nat) : Int) = 20 from rfl] at this
      rw [this]
    exact asg1 (bin2 y2 (call2 (fzv (fvar (i := 1) rfl)) (fzv (g7 _ _ _ _ _ _ _ _ _)) e3) (addS (by simp; omega))) rfl rfl) ?_
  clear_value wrong
  obtain ⟨c2, e4, hc5, hc6⟩ := foreign_ok (k := 9) hb r4
  let sp0 : List W := t.take (t.length - 1) ++ [[95] ++ [c2]]
  have sp0l : sp0.length = t.length := by
    show (t.take (t.length - 1) ++ [[95] ++ [c2]]).length = t.length
    rw [List.length_append, List.length_take]
    simp only [List.length_singleton]
    omega
  refine fin_step (F (.v (.str bad)) (.v (.int (p : Int))) (.v (.str wrong)) (.own (wS sp0)) .un) (by
    rw [evS_frz, show frzL [1] (F (.v (.str bad)) (.v (.int (p : Int))) (.v (.str wrong)) .un .un) = F (.v (.str bad)) (.v (.int (p : Int))) (.v (.str wrong)) .un .un from rfl]
    have y0 : evE (callF tab 10) (.bin .sub (.blt .len [(.var 3)]) (.c (.int 1))) (F (.v (.str bad)) (.v (.int (p : Int))) (.v (.str wrong)) .un .un) = .ok (.v (.int ((t.length - 1 : Nat) : Int))) := bin2 (blt1 (fvar (i := 3) rfl) (by rw [blt_len, bLen_l, wS_len])) (fc _) (by rw [bop_sub, bSub_ii]; congr 3; omega)
    have y1 : evE (callF tab 10) (.slc (.var 3) (.c .non) (.bin .sub (.blt .len [(.var 3)]) (.c (.int 1)))) (F (.v (.str bad)) (.v (.int (p : Int))) (.v (.str wrong)) .un .un) = .ok (.own (wS (t.take (t.length - 1)))) := by
      rw [evE_slc, fvar (i := 3) (x := .lst (wS t)) rfl, y0, partE_n, partE_b, bind_okD, bind_okD, bind_okD, part_i, bind_okD, getS_l, wS_take]
    have y2 : evE (callF tab 10) (.lst [(.bin .add (.c (.str [95])) (.call 23 [(.var 1), (.idx (.var 5) (.c (.int 4)))]))]) (F (.v (.str bad)) (.v (.int (p : Int))) (.v (.str wrong)) .un .un) = .ok (.own [.str ([95] ++ [c2])]) := lst1 (fzv (bin2 (fc _) (call2 (fzv (fvar (i := 1) rfl)) (fzv (g4 _ _ _ _ _ _ _ _ _)) e4) (addS (by simp; omega))))
    refine asg1 (bin2 y1 y2 (R := .ok (.own (wS sp0))) ?_) rfl rfl
    rw [bop_add, bAdd_oo (by simp; omega), wS_snoc]) ?_
  let sp : List W := sp0.set p wrong
  have spl : sp.length = t.length := by show (sp0.set p wrong).length = _; rw [List.length_set, sp0l]
  refine fin_step (F (.v (.str bad)) (.v (.int (p : Int))) (.v (.str wrong)) (.own (wS sp)) .un) (by
    rw [evS_frz, show frzL [12] (F (.v (.str bad)) (.v (.int (p : Int))) (.v (.str wrong)) (.own (wS sp0)) .un) = F (.v (.str bad)) (.v (.int (p : Int))) (.v (.str wrong)) (.own (wS sp0)) .un from rfl]
    have y1 : evE (callF tab 10) (.var 12) (F (.v (.str bad)) (.v (.int (p : Int))) (.v (.str wrong)) (.own (wS sp0)) .un) = .ok (.v (.str wrong)) := fvar rfl
    have y2 : evE (callF tab 10) (.var 11) (F (.v (.str bad)) (.v (.int (p : Int))) (.v (.str wrong)) (.own (wS sp0)) .un) = .ok (.v (.int (p : Int))) := fvar rfl
    have hix : L2.ixN (wS sp0).length (p : Int) = some p := Evl.ixN_nat (by rw [wS_len, sp0l]; exact hpl)
    have e13 : (F (.v (.str bad)) (.v (.int (p : Int))) (.v (.str wrong)) (.own (wS sp0)) .un)[13]? = some (.own (wS sp0)) := rfl
    have ew : (wS sp0).set p (.str wrong) = wS sp := by unfold wS; rw [← List.map_set]
    simp only [evS]
    rw [e13]
    simp only [y1, y2, bind_okD, fz_v, st_ok, hix, ew]
    rfl) ?_
  have hfind : sp.find? (fun v => !isWd b v) = some wrong := by
    refine find_set sp0 p (by rw [sp0l]; exact hpl) (fun j y hj hy => ?_) (by rw [hw1]; rfl)
    have : (t.take (t.length - 1))[j]? = some y := by
      rw [List.getElem?_append_left (by rw [List.length_take]; omega)] at hy
      exact hy
    have hm := List.mem_of_mem_take (List.mem_of_getElem? this)
    rw [isWd_of (hto y hm)]
    rfl
  have spw : ∀ v ∈ sp, v.length ≤ 1000 := fun v hv => by
    rcases List.mem_or_eq_of_mem_set hv with h | h
    · rcases List.mem_append.mp h with h | h
      · exact twl v (List.mem_of_mem_take h)
      · rw [List.mem_singleton.mp h]; simp
    · rw [h]; omega
  clear_value sp sp0
  -- a second table of a wrong length
  obtain ⟨m2, em2, hm2, hne2⟩ := many_ok (cf := callF tab 10) (i := 8) (j := 1) (g8 (.v (.str bad)) (.v (.int (q : Int))) (.v (.str strange)) (.v (.int (mm : Int))) (.v (.lst (wS short))) (.v (.int (p : Int))) (.v (.str wrong)) (.own (wS sp)) .un) (v1 _ _ _ _ _ _ _ _ _) (by omega)
  let long : List W := ((List.replicate 9 o).flatten).take m2
  have lol : long.length = m2 := by
    show (((List.replicate 9 o).flatten).take m2).length = m2
    rw [List.length_take, rep9_len]
    omega
  refine fin_step (F (.v (.str bad)) (.v (.int (p : Int))) (.v (.str wrong)) (.own (wS sp)) (.own (wS long))) (by
    have y1 : evE (callF tab 10) (.bin .mul (.var 4) (.c (.int 9))) (F (.v (.str bad)) (.v (.int (p : Int))) (.v (.str wrong)) (.own (wS sp)) .un) = .ok (.own (wS (List.replicate 9 o).flatten)) := bin2 (v4 _ _ _ _ _ _ _ _ _) (fc _) (by rw [bop_mul, bMul_l9 (by rw [wS_len]; omega), rep9_S])
    refine asg1 (r := .own (wS long)) ?_ rfl rfl
    rw [evE_slc, y1]
    rw [show evE (callF tab 10) (.bin .add (.bin .mod (.blt .int [(.idx (.var 5) (.c (.int 8)))]) (.c (.int 8))) (.blt .int [(.cmp .ge (.bin .mod (.blt .int [(.idx (.var 5) (.c (.int 8)))]) (.c (.int 8))) (.blt .len [(.var 1)]))])) (F (.v (.str bad)) (.v (.int (p : Int))) (.v (.str wrong)) (.own (wS sp)) .un) = .ok (.v (.int (m2 : Int))) from em2]
    rw [partE_n, partE_b, bind_okD, bind_okD, bind_okD, part_i, bind_okD, getS_o, wS_take]) ?_
  clear_value long
  obtain ⟨bad2, e5, hbad2, hbl2, hba2⟩ := noal_ok (k := 9) hb h9 r1 r2
  have smB2 : Small (.str bad2) := ⟨hba2, by omega⟩
  have smW : Small (.str wrong) := ⟨hw2, by omega⟩
  have smN : Small (.int (m2 : Int)) := sm_int (by omega)
  refine fin_step (F (.v (.str bad2)) (.v (.int (p : Int))) (.v (.str wrong)) (.own (wS sp)) (.own (wS long))) (by
    rw [evS_frz, show frzL [1] (F (.v (.str bad)) (.v (.int (p : Int))) (.v (.str wrong)) (.own (wS sp)) (.own (wS long))) = F (.v (.str bad)) (.v (.int (p : Int))) (.v (.str wrong)) (.own (wS sp)) (.own (wS long)) from rfl]
    exact asg1 (call4 (fzv (fvar (i := 1) rfl)) (fzv (g9 _ _ _ _ _ _ _ _ _)) (fzv (g1 _ _ _ _ _ _ _ _ _)) (fzv (g2 _ _ _ _ _ _ _ _ _)) e5) rfl rfl) ?_
  let E2 : Pd.Env := F (.v (.str bad2)) (.v (.int (p : Int))) (.v (.str wrong)) (.v (.lst (wS sp))) (.v (.lst (wS long)))
  have y6 : evE (callF tab 10) (.var 6) E2 = .ok (.v (.str bad2)) := fvar rfl
  have y1 : evE (callF tab 10) (.var 1) E2 = .ok (.v (.str b)) := fvar rfl
  have y3 : evE (callF tab 10) (.var 3) E2 = .ok (.v (.lst (wS t))) := fvar rfl
  have y4 : evE (callF tab 10) (.var 4) E2 = .ok (.v (.lst (wS o))) := fvar rfl
  have y12 : evE (callF tab 10) (.var 12) E2 = .ok (.v (.str wrong)) := fvar rfl
  have y13 : evE (callF tab 10) (.var 13) E2 = .ok (.v (.lst (wS sp))) := fvar rfl
  have y14 : evE (callF tab 10) (.var 14) E2 = .ok (.v (.lst (wS long))) := fvar rfl
  have sqL : Sq1 (.lst (wS long)) (wS long) := .inl rfl
  have sqS : Sq1 (.lst (wS sp)) (wS sp) := .inl rfl
  have sqSt : Sq1 (.tup (wS sp)) (wS sp) := .inr rfl
  have sqN : Sq1 (.lst [.str []]) (wS [[]]) := .inl rfl
  have nl : ∀ v ∈ ([[]] : List W), v.length ≤ 1000 := fun v hv => by rw [List.mem_singleton.mp hv]; simp
  have spl2 : sp.length ≤ 1000 := by omega
  refine fin_step E2 (by
    rw [evS_frz, show frzL [6, 13, 14, 6] _ = E2 from rfl]
    exact ne_repr (call2 (fzv (fc _)) (fzo (lst3 (fzv y6) (fzv y13) (fzv y14))) (A2 hbad2 (by omega) sqS sqL spw spl2)) (lst2 (fzv (tC _)) (fzv y6)) (repr_pair sm_tAl smB2) (repr_pair sm_tAl smB2)) ?_
  refine fin_step E2 (by
    rw [evS_frz, show frzL [1, 4, 12] E2 = E2 from rfl]
    exact ne_repr (call2 (fzv (fc _)) (fzo (lst3 (fzv y1) (fzv (blt1 y13 (by rw [blt_tuple, bTuple_l]))) (fzv y4))) (W2 hb hfind sqSt sqO spw spl2)) (lst2 (fzv (tW _)) (fzv y12)) (repr_pair sm_tWd smW) (repr_pair sm_tWd smW)) ?_
  refine fin_step E2 (by
    rw [evS_frz, show frzL [1, 13, 14, 12] E2 = E2 from rfl]
    exact ne_repr (call2 (fzv (fc _)) (fzo (lst3 (fzv y1) (fzv y13) (fzv y14))) (W2 hb hfind sqS sqL spw spl2)) (lst2 (fzv (tW _)) (fzv y12)) (repr_pair sm_tWd smW) (repr_pair sm_tWd smW)) ?_
  have T2a := T2 (one := [[]]) hb nil_find (by rw [lol]; exact hne2) sqN sqL nl (by simp)
  rw [lol] at T2a
  have zl : evE (callF tab 10) (.blt .len [(.var 14)]) E2 = .ok (.v (.int (m2 : Int))) := blt1 y14 (by rw [blt_len, bLen_l, wS_len, lol])
  refine fin_step E2 (by
    rw [evS_frz, show frzL [6, 4, 1, 14, 6] E2 = E2 from rfl]
    exact ne_repr (lst2 (fzo (call2 (fzv (fc _)) (fzo (lst3 (fzv y6) (fzo (lst1 (fzv (fc _)))) (fzv y4))) (A2 (one := [[]]) hbad2 (by omega) sqN sqO nl (by simp)))) (fzo (call2 (fzv (fc _)) (fzo (lst3 (fzv y1) (fzo (lst1 (fzv (fc _)))) (fzv y14))) T2a))) (lst2 (fzo (lst2 (fzv (tC _)) (fzv y6))) (fzo (lst2 (fzv (tT _)) (fzv zl)))) (repr_two sm_tAl smB2 sm_tTb smN) (repr_two sm_tAl smB2 sm_tTb smN)) ?_
  have T2b := T2 (one := t) hb (fun v hv => isWd_of (hto v hv)) (by rw [lol]; exact hne2) sqT sqL twl (by omega)
  rw [lol] at T2b
  have er := ret_v (callF tab 10) E2 (fun _ z => by cases z) (eq_repr (call2 (fzv (fc (.int 2))) (fzo (lst3 (fzv y1) (fzv y3) (fzv y14))) T2b) (lst2 (fzv (tT _)) (fzv zl)) (repr_pair sm_tTb smN) (repr_pair sm_tTb smN))
  rw [evB_cons, evS_frz, show frzL [1, 3, 14] E2 = E2 from rfl]
  rw [show evS (callF tab 10) (.ret (.cmp .eq (.blt .repr [(.call 20 [(.c (.int 2)), (.lst [(.var 1), (.var 3), (.var 14)])])]) (.blt .repr [(.lst [(.c (.str [116, 97, 98, 108, 101])), (.blt .len [(.var 14)])])]))) E2 = some (.rt (.v (.bl true))) from er]
  rfl
end K01
set_option Elab.async false
set_option linter.all false
set_option maxRecDepth 100000
set_option autoImplicit false
set_option maxHeartbeats 4000000
namespace K01
open PySem Pd Wl
/-- [v for k in range(n)] -/
theorem const_comp {cf : Nat → List D → Out Rv} {env : Pd.Env} {i n : Nat} {v : Int} (hn : n ≤ 1000) : evE cf (.cmpr (.c (.int v)) (.nm i) (.rng [.c (.int (n : Int))]) [] [i]) env = .ok (.own (iL (List.replicate n v))) := by
  have hlim : (1000 : Nat) ≤ lim := by decide
  refine (comp_all (l := List.range n) (s := fun (j : Nat) => .int j) (g := fun _ => .int v) (fun j => (wip env [i]).set i (.v (.int j))) ?_ ?_ ?_ ?_).trans ?_
  · have e1 : evL cf [(.c (.int (n : Int)))] env = .ok [.v (.int (n : Int))] := by simp only [evL_cons, evL_nil, evE_c, bind_okD]
    rw [evI_rng, e1, bind_okD]
    exact doRng_1 (by omega)
  · rw [List.length_range]; omega
  · intro q _; rfl
  · intro q _; rw [evE_c]; rfl
  · rw [iL_map, List.map_const', List.length_range]
theorem bAdd_iL {a b : List Int} (h : a.length + b.length ≤ 1000) : bAdd (.own (iL a)) (.own (iL b)) = .ok (.own (iL (a ++ b))) := by
  have hlim : (1000 : Nat) ≤ lim := by decide
  rw [bAdd_oo (by rw [List.length_append, iL_len, iL_len]; omega), iL_app]
def sgsQ : W := [112, 113, 120, 122]
theorem al_q : Al sgsQ := ⟨by decide, by decide, by decide, by decide⟩
theorem digits_of (c : Int) (bases : List Int) (hl : bases.length ≤ 1000) (hb : ∀ b ∈ bases, 0 < b ∧ b < 2 ^ 60) : ∃ r, callF tab 11 15 [.int c, .lst (iL bases)] = .ok (.own (iL r)) ∧ Below r bases :=
  digits_ok (k := 10) (T := tab) (i := 15) (by rw [tab_is]; rfl) c bases (Nat.lt_of_le_of_lt hl (by decide)) hb
theorem cell_of (ns : List Int) (j : Nat) (hj : j < 2 ^ 60) : ∃ c, callF tab 11 14 [.scr ns, .int j] = .ok (.v (.int c)) := cell_ok (k := 10) (by rw [tab_is]; rfl) ns j hj
def bases50 : List Int := [25, 25] ++ List.replicate 48 24
theorem b50_len : bases50.length = 50 := rfl
/-- long texts -/
theorem bd_long {l : W} (h : Wd l) (hl : l.length ≤ 40000) : Bd (.str l) 160002 0 := bd_asc (n := 40000) (asc_wd h) hl
theorem repr_long {l : W} (h : Wd l) (hl : l.length ≤ 40000) : doRepr (.v (.str l)) = .ok (.v (.str (reprT (.str l)))) := Bd.repr (r := .v (.str l)) (bd_long h hl) (by decide) (by decide)
def OkW (b : Nat) (ws : List W) : Prop := ∀ w ∈ ws, Wd w ∧ w.length ≤ b
theorem bd_ws {ws : List W} (ok : OkW 1000 ws) : ∀ d ∈ wS ws, Bd d 4002 0 := fun d hd => by
  obtain ⟨w, hw, rfl⟩ := List.mem_map.mp hd
  exact bd_asc (asc_wd (ok w hw).1) (ok w hw).2
theorem bd_seq {ws : List W} {d : D} (hd : Sq1 d (wS ws)) (ok : OkW 1000 ws) (hl : ws.length ≤ 10) : Bd d 40043 1 := by
  rcases hd with rfl | rfl
  · exact Bd.lst (xs := wS ws) (w := 4002) (q := 0) (n := 10) (bd_ws ok) (by rw [wS_len]; exact hl)
  · exact Bd.tup (xs := wS ws) (w := 4002) (q := 0) (n := 10) (bd_ws ok) (by rw [wS_len]; exact hl)
theorem repr_seq {ws : List W} {d : D} (hd : Sq1 d (wS ws)) (ok : OkW 1000 ws) (hl : ws.length ≤ 10) : doRepr (.v d) = .ok (.v (.str (reprT d))) := Bd.repr (r := .v d) (bd_seq hd ok hl) (by decide) (by decide)
theorem repr_passed {d1 d2 : D} {r : Rv} (hr : r = .own [d1, d2] ∨ r = .bor [d1, d2]) {t o : List W} (h1 : Sq1 d1 (wS t)) (h2 : Sq1 d2 (wS o)) (okt : OkW 1000 t) (oko : OkW 1000 o) (lt : t.length ≤ 10) (lo : o.length ≤ 10) : doRepr r = .ok (.v (.str (reprT (.lst [d1, d2])))) := by
  have h : Bd (.lst [d1, d2]) (2 * (40043 + 2) + 3) 2 := Bd.lst (xs := [d1, d2]) (w := 40043) (q := 1) (n := 2) (fun x hx => by
    simp only [List.mem_cons, List.not_mem_nil, or_false] at hx
    rcases hx with rfl | rfl
    · exact bd_seq h1 okt lt
    · exact bd_seq h2 oko lo) (by simp)
  rcases hr with rfl | rfl
  · exact Bd.repr (r := .own [d1, d2]) h (by decide) (by decide)
  · exact Bd.repr (r := .bor [d1, d2]) h (by decide) (by decide)
/-- the drawn table -/
def tbl (b : W) (R : Nat → List Int) (lo hi : Nat) (at_ : Nat) (m : Int) (n : Nat) : List W := (List.range n).map fun k => lword b (((R k).drop lo).take (hi - lo)) (((R k).getD at_ 0) % m).toNat
theorem tbl_len {b : W} {R : Nat → List Int} {lo hi at_ n : Nat} {m : Int} : (tbl b R lo hi at_ m n).length = n := by unfold tbl; rw [List.length_map, List.length_range]
theorem tbl_on {b : W} (hb : Al b) {R : Nat → List Int} {lo hi at_ n : Nat} {m : Int} : ∀ w ∈ tbl b R lo hi at_ m n, On b w := fun w hw => by
  obtain ⟨k, _, rfl⟩ := List.mem_map.mp hw
  exact lword_mem (fun z => by have := hb.n1; rw [z] at this; cases this)
theorem tbl_ok {b : W} (hb : Al b) {R : Nat → List Int} {lo hi at_ n : Nat} {m : Int} (hm : 0 < m) (hm2 : m ≤ 25) : OkW 24 (tbl b R lo hi at_ m n) := fun w hw => by
  refine ⟨(tbl_on hb w hw).wd hb, ?_⟩
  obtain ⟨k, _, rfl⟩ := List.mem_map.mp hw
  rw [lword_len]
  have h1 := Int.emod_lt_of_pos ((R k).getD at_ 0) hm
  have h2 := Int.emod_nonneg ((R k).getD at_ 0) (show m ≠ 0 by omega)
  omega
/-- one word of a table -/
theorem word_of {b : W} (hb : Al b) {r : List Int} {lo hi at_ : Nat} {m : Int} (hr : r.length = 50) (hlo : lo ≤ hi) (hhi : hi ≤ 50) (h24 : hi - lo = 24) (hat : at_ < 50) (hm : 0 < m) (hm2 : m ≤ 25) :
    getS (.v (.lst (iL r))) (some (lo : Int)) (some (hi : Int)) = .ok (.own (iL ((r.drop lo).take (hi - lo)))) ∧ getI (.v (.lst (iL r))) (.v (.int (at_ : Int))) = .ok (.v (.int (r.getD at_ 0))) ∧
    (∃ j : Nat, bMod (.v (.int (r.getD at_ 0))) (.v (.int m)) = .ok (.v (.int (j : Int))) ∧ (r.getD at_ 0 % m).toNat = j ∧ callF tab 11 16 [.str b, .lst (iL ((r.drop lo).take (hi - lo))), .int (j : Int)] = .ok (.v (.str (lword b ((r.drop lo).take (hi - lo)) j)))) := by
  refine ⟨?_, ?_, ?_⟩
  · rw [getS_l, cut_iL, cut_nn, hr, Nat.min_eq_left (by omega), Nat.min_eq_left (by omega)]
  · have hx : at_ < r.length := by omega
    rw [List.getD_eq_getElem?_getD, List.getElem?_eq_getElem hx]
    exact getI_l (iL_get (List.getElem?_eq_getElem hx))
  · have h1 := Int.emod_lt_of_pos (r.getD at_ 0) hm
    have h2 := Int.emod_nonneg (r.getD at_ 0) (show m ≠ 0 by omega)
    have h3 := bMod_of (i := r.getD at_ 0) hm
    obtain ⟨j, hj⟩ := Int.eq_ofNat_of_zero_le h2
    rw [hj] at h3
    refine ⟨j, h3, by omega, ?_⟩
    exact lword_ok (k := 10) (T := tab) (i := 16) (by rw [tab_is]; rfl) hb.wd (fun z => by have := hb.n1; rw [z] at this; cases this) (by have := hb.n4; omega) (by rw [List.length_take, List.length_drop]; omega) (by omega)
end K01
set_option Elab.async false
set_option linter.all false
set_option maxRecDepth 100000
set_option autoImplicit false
set_option maxHeartbeats 4000000
namespace K01
open PySem Pd Wl
def en (ns : List Int) (x1 x2 x3 x4 x5 x6 x7 x8 x9 x10 x11 x12 x13 x14 : Sl) : Pd.Env := [.v (.scr ns), x1, x2, x3, x4, x5, x6, x7, x8, x9, x10, x11, x12, x13, x14, .un, .un, .un, .un]
theorem ok_of {a : W} {t : List W} (ht : Tb a t 24) : OkW 1000 t := fun w hw => ⟨(ht.wd w hw).1, by have := (ht.wd w hw).2; omega⟩
section
variable {ns : List Int} {a b w : W} {t o : List W} {d1 d2 : D}
/-- [letter for letter in first] -/
theorem letters_ok {x1 x3 x4 x5 x6 x7 x8 x9 x10 x11 x12 x13 x14 : Sl} (ha : Al a) : evE (callF tab 11) f26c6 (en ns x1 (.v (.str a)) x3 x4 x5 x6 x7 x8 x9 x10 x11 x12 x13 x14) = .ok (.own (sL a)) := by
  have hlim : (1000 : Nat) ≤ lim := by decide
  have := ha.n4
  unfold f26c6
  refine (comp_all (l := a) (s := sD) (g := sD) (fun c => (wip (en ns x1 (.v (.str a)) x3 x4 x5 x6 x7 x8 x9 x10 x11 x12 x13 x14) [18]).set 18 (.v (sD c))) ?_ (by omega) ?_ ?_)
  · rw [evI_seq, fvar (x := .str a) rfl, src_v, bind_okD, its_str, ofO_some]
    rfl
  · intro q _; rfl
  · intro c _
    rw [fvar (x := sD c) rfl]
    rfl
/-- the second half of the law -/
theorem last_ok {X1 X4 X6 : Sl} {rw_ : List Int} {c6 : Int} (ha : Al a) (hb : Al b) (hw : On a w) (hwl : w.length ≤ 60) (ht : Tb a t 24) (hto : ∀ v ∈ t, On b v) (ho : Tb b o 24) (h1 : Sq1 d1 (wS t)) (h2 : Sq1 d2 (wS o))
    (hc : callF tab 11 14 [.scr ns, .int 6] = .ok (.v (.int c6))) (hr : callF tab 11 15 [.int c6, .lst [.int 6, .int 24, .int 97, .int 61, .int 89, .int 8, .int 24, .int 83, .int 8, .int 6]] = .ok (.own (iL rw_))) (hbl : Below rw_ [6, 24, 97, 61, 89, 8, 24, 83, 8, 6]) :
    fin (evB (callF tab 11) (f26.body.drop 12) (en ns X1 (.v (.str a)) (.v (.str b)) X4 (.v (.str w)) X6 (.v (.lst (wS t))) (.v (.lst (wS o))) (.v (.str (red (sub a t w)))) (.own (wS (after b o t))) (.own [d1, d2]) .un .un .un)) = .ok (.v (.bl true)) := by
  have hlim : (100000 : Nat) ≤ lim := by decide
  have hn4 := ha.n4
  have hm4 := hb.n4
  have tl : t.length = a.length := ht.len
  have ol : o.length = b.length := ho.len
  let due := red (sub a t w)
  let tw := red (sub b o due)
  have duOn : On b due := (sub_on ha hb ht hto hw).red
  have duW : Wd due := duOn.wd hb
  have duL : due.length ≤ 1440 := by
    have q1 := (sub_ok ha ht hw).2
    have q2 := red_len (w := sub a t w)
    have q3 : w.length * 24 ≤ 60 * 24 := Nat.mul_le_mul_right 24 hwl
    show (red (sub a t w)).length ≤ 1440
    omega
  have twW : Wd tw := red_Wd (sub_ok hb ho duOn).1
  have twL : tw.length ≤ 40000 := by
    have q1 := (sub_ok hb ho duOn).2
    have q2 := red_len (w := sub b o due)
    have q3 : due.length * 24 ≤ 1440 * 24 := Nat.mul_le_mul_right 24 duL
    show (red (sub b o due)).length ≤ 40000
    omega
  have aft := after_tb (a := a) hb ho ht hto
  have afW : OkW 1000 (after b o t) := fun v hv => ⟨(aft.wd v hv).1, by have := (aft.wd v hv).2; omega⟩
  have isW : isWd a w = true := isWd_of hw
  have isD : isWd b due = true := isWd_of duOn
  have twl : ∀ v ∈ t, v.length ≤ 1000 := fun v hv => by have := (ht.wd v hv).2; omega
  let dA : D := .tup (wS (after b o t))
  have hA : Sq1 dA (wS (after b o t)) := .inr rfl
  have R1 : callF tab 11 11 [.str a, .str w, d1] = .ok (.v (.str due)) := (rep_fn (k := 7) X h1 (by omega) (by omega)).2.2.2 ha isW 24 ht (by omega) (by omega)
  have R2 : callF tab 11 11 [.str b, .str due, d2] = .ok (.v (.str tw)) := (rep_fn (k := 7) X h2 (by omega) (by omega)).2.2.2 hb isD 24 ho (by omega) (by omega)
  have R3 : callF tab 11 11 [.str a, .str w, dA] = .ok (.v (.str tw)) := by
    have := (rep_fn (k := 7) X hA (by omega) (by omega)).2.2.2 ha isW _ aft (by omega) (by omega)
    rw [← twice ha hb ho ht hto hw] at this
    exact this
  have R4 : callF tab 11 13 [.str b, d1, d2] = .ok (.v dA) := (tab_fn (k := 6) (i := 13) X (by rw [tab_is]; rfl) h1 h2 (by omega) twl (by omega)).2.2.2 hb (fun v hv => isWd_of (hto v hv)) 24 ho (by omega)
  have R5 : callF tab 11 12 [.str a] = .ok (.v (.tup (sL a))) := (plain_fn (k := 8) (i := 12) X (by rw [tab_is]; rfl) (by omega)).2 ha.ok
  have R6 : callF tab 11 11 [.str a, .str w, .tup (sL a)] = .ok (.v (.str (red w))) := by
    have := (rep_fn (k := 7) (d := .tup (sL a)) X (.inr (by rw [plain_S])) (by omega) (by omega)).2.2.2 ha isW 1 (plain_tb ha) (by omega) (by omega)
    rw [plain_sub ha hw] at this
    exact this
  have R7 : callF tab 11 19 [.str w] = .ok (.v (.str (red w))) := lstr_ok (k := 9) (T := tab) (s := 17) (i := 19) (by rw [tab_is]; rfl) (by rw [tab_is]; rfl) (hw.wd ha) (by show _ ≤ 100000; omega)
  have R8 : callF tab 11 21 [.str b, .str due, .lst (wS o)] = .ok (.v (.str tw)) := lrep_fn (k := 8) (T := tab) (i := 21) (ls := 17) (lu := 18) (lt := 19) (by rw [tab_is]; rfl) (by rw [tab_is]; rfl) (by rw [tab_is]; rfl) (by rw [tab_is]; rfl) (.inl rfl) hb duOn ho (by omega) (by omega) (by omega)
  have T1 := repr_long duW (by omega)
  have T2 := repr_long twW twL
  have T3 := repr_seq hA afW (by have := aft.len; omega)
  have T4 := repr_seq (d := .tup (sL a)) (ws := plain a) (.inr (by rw [plain_S])) (fun v hv => ⟨((plain_tb ha).wd v hv).1, by have := ((plain_tb ha).wd v hv).2; omega⟩) (by have := (plain_tb ha).len; omega)
  have rwW : Wd (red w) := red_Wd (hw.wd ha)
  have rwL : (red w).length ≤ 60 := by have := red_len (w := w); omega
  have T5 := repr_long rwW (by omega)
  have T6 := repr_passed (r := .bor [d1, d2]) (.inr rfl) h1 h2 (ok_of ht) (ok_of ho) (by omega) (by omega)
  have isTw : red (sub b o (red (sub a t w))) = tw := rfl
  -- the digits for the errors
  obtain ⟨x0, x1, x2, x3, x4, x5, x6, x7, x8, x9, rfl⟩ : ∃ x0 x1 x2 x3 x4 x5 x6 x7 x8 x9, rw_ = [x0, x1, x2, x3, x4, x5, x6, x7, x8, x9] := by
    obtain ⟨l, _⟩ := hbl
    match rw_, l with
    | [x0, x1, x2, x3, x4, x5, x6, x7, x8, x9], _ => exact ⟨x0, x1, x2, x3, x4, x5, x6, x7, x8, x9, rfl⟩
  have b0 := hbl.2 0 x0 6 rfl rfl
  have b9 := hbl.2 9 x9 6 rfl rfl
  obtain ⟨n0, rfl⟩ := Int.eq_ofNat_of_zero_le b0.1
  obtain ⟨n9, rfl⟩ := Int.eq_ofNat_of_zero_le b9.1
  have R9 := refused_ok (r1 := x1) (r2 := x2) (r3 := x3) (r4 := x4) (r5 := x5) (r6 := x6) (r7 := x7) (r8 := x8) ha hb hw hwl ht hto ho (show n0 < 6 by omega) (show n9 < 6 by omega)
  let E0 (x12 x13 x14 : Sl) : Pd.Env := en ns X1 (.v (.str a)) (.v (.str b)) X4 (.v (.str w)) X6 (.v (.lst (wS t))) (.v (.lst (wS o))) (.v (.str due)) (.own (wS (after b o t))) (.own [d1, d2]) x12 x13 x14
  show fin (evB (callF tab 11) [_, _, _, _, _, _, _, _, _, _] (E0 .un .un .un)) = _
  clear_value due
  clear_value tw
  have v2 : ∀ x12 x13 x14, evE (callF tab 11) (.var 2) (E0 x12 x13 x14) = .ok (.v (.str a)) := fun _ _ _ => fvar rfl
  have v3 : ∀ x12 x13 x14, evE (callF tab 11) (.var 3) (E0 x12 x13 x14) = .ok (.v (.str b)) := fun _ _ _ => fvar rfl
  have v5 : ∀ x12 x13 x14, evE (callF tab 11) (.var 5) (E0 x12 x13 x14) = .ok (.v (.str w)) := fun _ _ _ => fvar rfl
  have v7 : ∀ x12 x13 x14, evE (callF tab 11) (.var 7) (E0 x12 x13 x14) = .ok (.v (.lst (wS t))) := fun _ _ _ => fvar rfl
  have v8 : ∀ x12 x13 x14, evE (callF tab 11) (.var 8) (E0 x12 x13 x14) = .ok (.v (.lst (wS o))) := fun _ _ _ => fvar rfl
  have v9 : ∀ x12 x13 x14, evE (callF tab 11) (.var 9) (E0 x12 x13 x14) = .ok (.v (.str due)) := fun _ _ _ => fvar rfl
  have v10 : ∀ x12 x13 x14, evE (callF tab 11) (.var 10) (E0 x12 x13 x14) = .ok (.bor (wS (after b o t))) := fun _ _ _ => fown rfl
  have v11 : ∀ x12 x13 x14, evE (callF tab 11) (.var 11) (E0 x12 x13 x14) = .ok (.bor [d1, d2]) := fun _ _ _ => fown rfl
  have p0 : ∀ x12 x13 x14, evE (callF tab 11) (.idx (.var 11) (.c (.int 0))) (E0 x12 x13 x14) = .ok (.v d1) := fun _ _ _ => idx2 (v11 _ _ _) (fc _) (getI_b (j := 0) rfl)
  have p1 : ∀ x12 x13 x14, evE (callF tab 11) (.idx (.var 11) (.c (.int 1))) (E0 x12 x13 x14) = .ok (.v d2) := fun _ _ _ => idx2 (v11 _ _ _) (fc _) (getI_b (j := 1) rfl)
  refine fin_step (E0 (.v (.str (reprT (.lst [d1, d2])))) .un .un) (asg1 (blt1 (v11 _ _ _) (by rw [blt_repr, bRepr_1, T6])) rfl rfl) ?_
  let A12 : Sl := .v (.str (reprT (.lst [d1, d2])))
  refine fin_step (E0 A12 .un .un) (by
    rw [evS_frz, show frzL [2, 5] (E0 A12 .un .un) = E0 A12 .un .un from rfl]
    exact ne_repr (call3 (fzv (v2 _ _ _)) (fzv (v5 _ _ _)) (fzv (p0 _ _ _)) R1) (v9 _ _ _) T1 T1) ?_
  refine fin_step (E0 A12 (.v dA) .un) (by
    rw [evS_frz, show frzL [3] (E0 A12 .un .un) = E0 A12 .un .un from rfl]
    exact asg1 (call3 (fzv (v3 _ _ _)) (fzv (p0 _ _ _)) (fzv (p1 _ _ _)) R4) rfl rfl) ?_
  have v13 : ∀ x14, evE (callF tab 11) (.var 13) (E0 A12 (.v dA) x14) = .ok (.v dA) := fun _ => fvar rfl
  refine fin_step (E0 A12 (.v dA) .un) (ne_repr (v13 _) (blt1 (v10 _ _ _) (by rw [blt_tuple]; rfl)) T3 T3) ?_
  have z14 : ∀ x14, evE (callF tab 11) (.blt .repr [(.call 21 [(.var 3), (.var 9), (.var 8)])]) (E0 A12 (.v dA) x14) = .ok (.v (.str (reprT (.str tw)))) := fun _ => blt1 (call3 (fzv (v3 _ _ _)) (fzv (v9 _ _ _)) (fzv (v8 _ _ _)) R8) (by rw [blt_repr, bRepr_1, T2])
  refine fin_step (E0 A12 (.v dA) (.v (.str (reprT (.str tw))))) (by
    rw [evS_frz, show frzL [3, 9, 8] (E0 A12 (.v dA) .un) = E0 A12 (.v dA) .un from rfl]
    exact asg1 (z14 _) rfl rfl) ?_
  let E : Pd.Env := E0 A12 (.v dA) (.v (.str (reprT (.str tw))))
  have e14 : evE (callF tab 11) (.var 14) E = .ok (.v (.str (reprT (.str tw)))) := fvar rfl
  refine fin_step E (by
    rw [evS_frz, show frzL [3, 9, 2, 5, 13] E = E from rfl]
    have y1 : evE (callF tab 11) (.blt .repr [(.call 11 [(.var 3), (.var 9), (.idx (.var 11) (.c (.int 1)))])]) E = .ok (.v (.str (reprT (.str tw)))) := blt1 (call3 (fzv (v3 _ _ _)) (fzv (v9 _ _ _)) (fzv (p1 _ _ _)) R2) (by rw [blt_repr, bRepr_1, T2])
    have y2 : evE (callF tab 11) (.blt .repr [(.call 11 [(.var 2), (.var 5), (.var 13)])]) E = .ok (.v (.str (reprT (.str tw)))) := blt1 (call3 (fzv (v2 _ _ _)) (fzv (v5 _ _ _)) (fzv (v13 _)) R3) (by rw [blt_repr, bRepr_1, T2])
    rw [evS_ifs, evT_or, evT_cmp, evT_cmp, y1, y2, e14]
    simp only [bind_okD, cop_ne, cEq_ss, decide_true, if_true, Bool.not_true, asB_bl, st_ok, Bool.false_eq_true, if_false, evB_nil]) ?_
  refine fin_step E (by
    rw [evS_frz, show frzL [2, 18] E = E from rfl]
    exact ne_repr (call1 (fzv (v2 _ _ _)) R5) (blt1 (letters_ok ha) (by rw [blt_tuple]; rfl)) T4 T4) ?_
  refine fin_step E (by
    rw [evS_frz, show frzL [2, 5, 2, 5] E = E from rfl]
    exact ne_repr (call3 (fzv (v2 _ _ _)) (fzv (v5 _ _ _)) (fzv (call1 (fzv (v2 _ _ _)) R5)) R6) (call1 (fzv (v5 _ _ _)) R7) T5 T5) ?_
  refine fin_step E (by
    rw [evS_frz, show frzL [2, 3, 5, 0] E = E from rfl]
    have y0 : evE (callF tab 11) (.var 0) E = .ok (.v (.scr ns)) := fvar rfl
    have y1 : evE (callF tab 11) (.blt .list [(.var 7)]) E = .ok (.own (wS t)) := blt1 (v7 _ _ _) (by rw [blt_list]; rfl)
    have y2 : evE (callF tab 11) (.blt .list [(.var 8)]) E = .ok (.own (wS o)) := blt1 (v8 _ _ _) (by rw [blt_list]; rfl)
    have y3 : evE (callF tab 11) (.lst [(.c (.int 6)), (.c (.int 24)), (.c (.int 97)), (.c (.int 61)), (.c (.int 89)), (.c (.int 8)), (.c (.int 24)), (.c (.int 83)), (.c (.int 8)), (.c (.int 6))]) E = .ok (.own [.int 6, .int 24, .int 97, .int 61, .int 89, .int 8, .int 24, .int 83, .int 8, .int 6]) := by
      simp only [evE_lst, evA_cons, evA_nil, evE_c, bind_okD, fz_v, List.length_cons, List.length_nil]
      exact if_pos (show (10 : Nat) ≤ lim by decide)
    have y4 : evE (callF tab 11) (.call 15 [(.call 14 [(.var 0), (.c (.int 6))]), (.lst [(.c (.int 6)), (.c (.int 24)), (.c (.int 97)), (.c (.int 61)), (.c (.int 89)), (.c (.int 8)), (.c (.int 24)), (.c (.int 83)), (.c (.int 8)), (.c (.int 6))])]) E = _ := call2 (fzv (call2 (fzv y0) (fzv (fc _)) hc)) (fzo y3) hr
    have f2 := fzv (v2 A12 (.v dA) (.v (.str (reprT (.str tw)))))
    have f3 := fzv (v3 A12 (.v dA) (.v (.str (reprT (.str tw)))))
    have f5 := fzv (v5 A12 (.v dA) (.v (.str (reprT (.str tw)))))
    have f7 := fzo y1
    have f8 := fzo y2
    have f9 := fzo y4
    simp only [evS_ifs, evT_nt, evT_call, evA_cons, evA_nil]
    rw [f2, f3, f5, f7, f8, f9]
    simp only [bind_okD]
    rw [show callF tab 11 25 [.str a, .str b, .str w, .lst (wS t), .lst (wS o), .lst (iL [(n0 : Int), x1, x2, x3, x4, x5, x6, x7, x8, (n9 : Int)])] = .ok (.v (.bl true)) from R9]
    rfl) ?_
  have er := ret_v (callF tab 11) E (e := .and (.cmp .eq (.blt .repr [(.call 11 [(.var 2), (.var 5), (.idx (.var 11) (.c (.int 0)))])]) (.blt .repr [(.var 9)])) (.cmp .eq (.blt .repr [(.var 11)]) (.var 12))) (d := .bl true) (fun _ z => by cases z) (by
    have y1 : evE (callF tab 11) (.cmp .eq (.blt .repr [(.call 11 [(.var 2), (.var 5), (.idx (.var 11) (.c (.int 0)))])]) (.blt .repr [(.var 9)])) E = .ok (.v (.bl true)) := eq_repr (call3 (fzv (v2 _ _ _)) (fzv (v5 _ _ _)) (fzv (p0 _ _ _)) R1) (v9 _ _ _) T1 T1
    have y2 : evE (callF tab 11) (.blt .repr [(.var 11)]) E = .ok (.v (.str (reprT (.lst [d1, d2])))) := blt1 (v11 _ _ _) (by rw [blt_repr, bRepr_1, T6])
    have y3 : evE (callF tab 11) (.var 12) E = .ok (.v (.str (reprT (.lst [d1, d2])))) := fvar rfl
    rw [evE_and, y1, evE_cmp, y2, y3]
    simp only [bind_okD, asB_bl, if_true, cop_eq, cEq_ss, decide_true]
    rfl)
  rw [evB_cons, evS_frz, show frzL [2, 5] E = E from rfl, er]
  rfl
end
end K01
set_option Elab.async false
set_option linter.all false
set_option maxRecDepth 100000
set_option autoImplicit false
set_option maxHeartbeats 4000000
namespace K01
open PySem Pd Wl
theorem sizes_ok {n : Nat} (hn : n < 4) : ∃ s0 s1 s2 : Nat, getI (.own [.lst [.int 15, .int 7, .int 4], .lst [.int 15, .int 25, .int 25], .lst [.int 15, .int 7, .int 25], .lst [.int 61, .int 25, .int 4]]) (.v (.int (n : Int))) = .ok (.v (.lst [.int s0, .int s1, .int s2])) ∧ (0 < s0 ∧ s0 ≤ 61) ∧ (0 < s1 ∧ s1 ≤ 25) ∧ (0 < s2 ∧ s2 ≤ 25) := by
  match n, hn with
  | 0, _ => exact ⟨15, 7, 4, getI_o (j := 0) rfl, by omega⟩
  | 1, _ => exact ⟨15, 25, 25, getI_o (j := 1) rfl, by omega⟩
  | 2, _ => exact ⟨15, 7, 25, getI_o (j := 2) rfl, by omega⟩
  | 3, _ => exact ⟨61, 25, 4, getI_o (j := 3) rfl, by omega⟩
section
variable {ns : List Int} {x1 x2 x3 x4 x5 x6 x7 x8 x9 x10 x11 x12 x13 x14 : Sl}
theorem rows_ok {R : Nat → List Int} (hR : ∀ k, k < 4 → ∃ c, callF tab 11 14 [.scr ns, .int ((2 + k : Nat) : Int)] = .ok (.v (.int c)) ∧ callF tab 11 15 [.int c, .lst (iL bases50)] = .ok (.own (iL (R k)))) :
    evE (callF tab 11) f26c2 (en ns x1 x2 x3 x4 x5 x6 x7 x8 x9 x10 x11 x12 x13 x14) = .ok (.own ((List.range 4).map fun k => .lst (iL (R k)))) := by
  unfold f26c2
  refine comp_all (l := List.range 4) (s := fun (j : Nat) => .int j) (g := fun k => .lst (iL (R k))) (fun j => (wip (en ns x1 x2 x3 x4 x5 x6 x7 x8 x9 x10 x11 x12 x13 x14) [15]).set 15 (.v (.int (j : Int)))) ?_ (by decide) ?_ ?_
  · have e1 : evL (callF tab 11) [(.c (.int 4))] (en ns x1 x2 x3 x4 x5 x6 x7 x8 x9 x10 x11 x12 x13 x14) = .ok [.v (.int ((4 : Nat) : Int))] := by simp only [evL_cons, evL_nil, evE_c, bind_okD]; rfl
    rw [evI_rng, e1, bind_okD]
    exact doRng_1 (by decide)
  · intro q _; rfl
  · intro k hk
    obtain ⟨c, h1, h2⟩ := hR k (List.mem_range.mp hk)
    have y0 : evE (callF tab 11) (.var 0) ((wip (en ns x1 x2 x3 x4 x5 x6 x7 x8 x9 x10 x11 x12 x13 x14) [15]).set 15 (.v (.int (k : Int)))) = .ok (.v (.scr ns)) := fvar rfl
    have y1 : evE (callF tab 11) (.bin .add (.c (.int 2)) (.var 15)) ((wip (en ns x1 x2 x3 x4 x5 x6 x7 x8 x9 x10 x11 x12 x13 x14) [15]).set 15 (.v (.int (k : Int)))) = .ok (.v (.int ((2 + k : Nat) : Int))) := bin2 (fc _) (fvar rfl) (by rw [bop_add, bAdd_ii]; congr 3)
    have y2 : evE (callF tab 11) f26c1 ((wip (en ns x1 x2 x3 x4 x5 x6 x7 x8 x9 x10 x11 x12 x13 x14) [15]).set 15 (.v (.int (k : Int)))) = .ok (.own (iL (List.replicate 48 24))) := const_comp (n := 48) (by decide)
    have y3 : evE (callF tab 11) (.lst [(.c (.int 25)), (.c (.int 25))]) ((wip (en ns x1 x2 x3 x4 x5 x6 x7 x8 x9 x10 x11 x12 x13 x14) [15]).set 15 (.v (.int (k : Int)))) = .ok (.own (iL [25, 25])) := lst2 (fzv (fc _)) (fzv (fc _))
    have y4 : evE (callF tab 11) (.bin .add (.lst [(.c (.int 25)), (.c (.int 25))]) f26c1) ((wip (en ns x1 x2 x3 x4 x5 x6 x7 x8 x9 x10 x11 x12 x13 x14) [15]).set 15 (.v (.int (k : Int)))) = .ok (.own (iL bases50)) := bin2 y3 y2 (by rw [bop_add, bAdd_iL (by decide)]; rfl)
    exact fzo (call2 (fzv (call2 (fzv y0) (fzv y1) h1)) (fzo y4) h2)
theorem table_ok {a b : W} {R : Nat → List Int} {s0 s1 s2 : Nat} (ha : Al a) (hb : Al b) (hl : ∀ k, k < 4 → (R k).length = 50) (h1 : 0 < s1 ∧ s1 ≤ 25) :
    evE (callF tab 11) f26c3 (en ns x1 (.v (.str a)) (.v (.str b)) (.v (.lst [.int s0, .int s1, .int s2])) x5 (.own ((List.range 4).map fun k => .lst (iL (R k)))) x7 x8 x9 x10 x11 x12 x13 x14) = .ok (.own (wS (tbl b R 2 26 0 s1 a.length))) := by
  have hlim : (1000 : Nat) ≤ lim := by decide
  have hn := ha.n4
  unfold f26c3
  let E := en ns x1 (.v (.str a)) (.v (.str b)) (.v (.lst [.int s0, .int s1, .int s2])) x5 (.own ((List.range 4).map fun k => .lst (iL (R k)))) x7 x8 x9 x10 x11 x12 x13 x14
  refine (comp_all (l := List.range a.length) (s := fun (j : Nat) => .int j) (g := fun k => .str (lword b (((R k).drop 2).take (26 - 2)) (((R k).getD 0 0) % (s1 : Int)).toNat)) (fun j => (wip E [15]).set 15 (.v (.int (j : Int)))) ?_ (by rw [List.length_range]; omega) ?_ ?_).trans ?_
  · have e1 : evL (callF tab 11) [(.blt .len [(.var 2)])] E = .ok [.v (.int (a.length : Int))] := by
      have : evE (callF tab 11) (.blt .len [(.var 2)]) E = .ok (.v (.int (a.length : Int))) := blt1 (fvar (x := .str a) rfl) (by rw [blt_len, bLen_str (by omega)])
      rw [evL_cons, this, bind_okD, evL_nil, bind_okD]
    rw [evI_rng, e1, bind_okD]
    exact doRng_1 (by omega)
  · intro q _; rfl
  · intro k hk
    have hk4 : k < 4 := by have := List.mem_range.mp hk; omega
    obtain ⟨w1, w2, j, w3, w4, w5⟩ := word_of hb (r := R k) (lo := 2) (hi := 26) (at_ := 0) (m := (s1 : Int)) (hl k hk4) (by decide) (by decide) rfl (by decide) (by omega) (by omega)
    let F := (wip E [15]).set 15 (.v (.int (k : Int)))
    have y6 : evE (callF tab 11) (.var 6) F = .ok (.bor ((List.range 4).map fun k => .lst (iL (R k)))) := fown rfl
    have y15 : evE (callF tab 11) (.var 15) F = .ok (.v (.int (k : Int))) := fvar rfl
    have y3 : evE (callF tab 11) (.var 3) F = .ok (.v (.str b)) := fvar rfl
    have y4 : evE (callF tab 11) (.idx (.var 4) (.c (.int 1))) F = .ok (.v (.int s1)) := idx2 (fvar (x := .lst [.int s0, .int s1, .int s2]) rfl) (fc _) (getI_l (j := 1) rfl)
    have z1 : evE (callF tab 11) (.idx (.var 6) (.var 15)) F = .ok (.v (.lst (iL (R k)))) := idx2 y6 y15 (getI_b (by rw [List.getElem?_map, List.getElem?_range hk4]; rfl))
    have z2 : evE (callF tab 11) (.slc (.idx (.var 6) (.var 15)) (.c (.int 2)) (.c (.int 26))) F = .ok (.own (iL (((R k).drop 2).take (26 - 2)))) := by
      rw [evE_slc, z1, evE_c, evE_c, partE_ci, partE_ci, bind_okD, bind_okD, bind_okD, part_i, part_i, bind_okD, bind_okD]
      exact w1
    have z3 : evE (callF tab 11) (.bin .mod (.blt .int [(.idx (.idx (.var 6) (.var 15)) (.c (.int 0)))]) (.idx (.var 4) (.c (.int 1)))) F = .ok (.v (.int (j : Int))) := bin2 (blt1 (idx2 z1 (fc _) w2) (by rw [blt_int, bInt_i])) y4 (by rw [bop_mod]; exact w3)
    show (evE (callF tab 11) _ F).bind Rv.fz = _
    rw [w4]
    exact fzv (call3 (fzv y3) (fzo z2) (fzv z3) w5)
  · unfold tbl wS
    rw [List.map_map]
    rfl
theorem other_ok {a b : W} {R : Nat → List Int} {s0 s1 s2 : Nat} (hb : Al b) (hl : ∀ k, k < 4 → (R k).length = 50) (h1 : 0 < s2 ∧ s2 ≤ 25) :
    evE (callF tab 11) f26c4 (en ns x1 (.v (.str a)) (.v (.str b)) (.v (.lst [.int s0, .int s1, .int s2])) x5 (.own ((List.range 4).map fun k => .lst (iL (R k)))) x7 x8 x9 x10 x11 x12 x13 x14) = .ok (.own (wS (tbl sgsQ R 26 50 1 s2 b.length))) := by
  have hlim : (1000 : Nat) ≤ lim := by decide
  have hn := hb.n4
  unfold f26c4
  let E := en ns x1 (.v (.str a)) (.v (.str b)) (.v (.lst [.int s0, .int s1, .int s2])) x5 (.own ((List.range 4).map fun k => .lst (iL (R k)))) x7 x8 x9 x10 x11 x12 x13 x14
  refine (comp_all (l := List.range b.length) (s := fun (j : Nat) => .int j) (g := fun k => .str (lword sgsQ (((R k).drop 26).take (50 - 26)) (((R k).getD 1 0) % (s2 : Int)).toNat)) (fun j => (wip E [15]).set 15 (.v (.int (j : Int)))) ?_ (by rw [List.length_range]; omega) ?_ ?_).trans ?_
  · have e1 : evL (callF tab 11) [(.blt .len [(.var 3)])] E = .ok [.v (.int (b.length : Int))] := by
      have : evE (callF tab 11) (.blt .len [(.var 3)]) E = .ok (.v (.int (b.length : Int))) := blt1 (fvar (x := .str b) rfl) (by rw [blt_len, bLen_str (by omega)])
      rw [evL_cons, this, bind_okD, evL_nil, bind_okD]
    rw [evI_rng, e1, bind_okD]
    exact doRng_1 (by omega)
  · intro q _; rfl
  · intro k hk
    have hk4 : k < 4 := by have := List.mem_range.mp hk; omega
    obtain ⟨w1, w2, j, w3, w4, w5⟩ := word_of al_q (r := R k) (lo := 26) (hi := 50) (at_ := 1) (m := (s2 : Int)) (hl k hk4) (by decide) (by decide) rfl (by decide) (by omega) (by omega)
    let F := (wip E [15]).set 15 (.v (.int (k : Int)))
    have y6 : evE (callF tab 11) (.var 6) F = .ok (.bor ((List.range 4).map fun k => .lst (iL (R k)))) := fown rfl
    have y15 : evE (callF tab 11) (.var 15) F = .ok (.v (.int (k : Int))) := fvar rfl
    have y4 : evE (callF tab 11) (.idx (.var 4) (.c (.int 2))) F = .ok (.v (.int s2)) := idx2 (fvar (x := .lst [.int s0, .int s1, .int s2]) rfl) (fc _) (getI_l (j := 2) rfl)
    have z1 : evE (callF tab 11) (.idx (.var 6) (.var 15)) F = .ok (.v (.lst (iL (R k)))) := idx2 y6 y15 (getI_b (by rw [List.getElem?_map, List.getElem?_range hk4]; rfl))
    have z2 : evE (callF tab 11) (.slc (.idx (.var 6) (.var 15)) (.c (.int 26)) (.c (.int 50))) F = .ok (.own (iL (((R k).drop 26).take (50 - 26)))) := by
      rw [evE_slc, z1, evE_c, evE_c, partE_ci, partE_ci, bind_okD, bind_okD, bind_okD, part_i, part_i, bind_okD, bind_okD]
      exact w1
    have z3 : evE (callF tab 11) (.bin .mod (.blt .int [(.idx (.idx (.var 6) (.var 15)) (.c (.int 1)))]) (.idx (.var 4) (.c (.int 2)))) F = .ok (.v (.int (j : Int))) := bin2 (blt1 (idx2 z1 (fc _) w2) (by rw [blt_int, bInt_i])) y4 (by rw [bop_mod]; exact w3)
    show (evE (callF tab 11) _ F).bind Rv.fz = _
    rw [w4]
    exact fzv (call3 (fzv (fc _)) (fzo z2) (fzv z3) w5)
  · unfold tbl wS
    rw [List.map_map]
    rfl
theorem after_ok {b : W} {t o : List W} (hb : Al b) (hto : ∀ v ∈ t, On b v) (ho : Tb b o 24) (htl : t.length ≤ 10) (ht : ∀ v ∈ t, v.length ≤ 24) :
    evE (callF tab 11) f26c5 (en ns x1 x2 (.v (.str b)) x4 x5 x6 (.v (.lst (wS t))) (.v (.lst (wS o))) x9 x10 x11 x12 x13 x14) = .ok (.own (wS (after b o t))) := by
  have hlim : (1000 : Nat) ≤ lim := by decide
  unfold f26c5
  let E := en ns x1 x2 (.v (.str b)) x4 x5 x6 (.v (.lst (wS t))) (.v (.lst (wS o))) x9 x10 x11 x12 x13 x14
  refine (comp_all (l := t) (s := D.str) (g := fun v => .str (red (sub b o v))) (fun v => (wip E [16]).set 16 (.v (.str v))) ?_ (by omega) ?_ ?_).trans ?_
  · rw [evI_seq, fvar (x := .lst (wS t)) rfl, src_v, bind_okD, its_v, ofO_some]
    rfl
  · intro q _; rfl
  · intro v hv
    have := ht v hv
    have q3 : v.length * 24 ≤ 24 * 24 := Nat.mul_le_mul_right 24 this
    let F := (wip E [16]).set 16 (.v (.str v))
    have y3 : evE (callF tab 11) (.var 3) F = .ok (.v (.str b)) := fvar rfl
    have y16 : evE (callF tab 11) (.var 16) F = .ok (.v (.str v)) := fvar rfl
    have y8 : evE (callF tab 11) (.var 8) F = .ok (.v (.lst (wS o))) := fvar rfl
    exact fzv (call3 (fzv y3) (fzv y16) (fzv y8) (lrep_fn (k := 8) (T := tab) (i := 21) (ls := 17) (lu := 18) (lt := 19) (by rw [tab_is]; rfl) (by rw [tab_is]; rfl) (by rw [tab_is]; rfl) (by rw [tab_is]; rfl) (.inl rfl) hb (hto v hv) ho (by omega) (by omega) (by omega)))
  · unfold after wS
    rw [List.map_map]
    rfl
end
end K01
set_option Elab.async false
set_option linter.all false
set_option maxRecDepth 100000
set_option autoImplicit false
set_option maxHeartbeats 4000000
namespace K01
open PySem Pd Wl
theorem keeps : ∀ ns : List Int, ns.length ≤ 63 → (∀ i ∈ ns, Builtin.Int.intBits i ≤ 1048576) → callF tab 12 26 [.scr ns] = .ok (.v (.bl true)) := by
  intro ns _ _
  have hlim : (100000 : Nat) ≤ lim := by decide
  obtain ⟨c0, hc0⟩ := cell_of ns 0 (by decide)
  obtain ⟨c1, hc1⟩ := cell_of ns 1 (by decide)
  obtain ⟨c6, hc6⟩ := cell_of ns 6 (by decide)
  obtain ⟨sh, hsh, shB⟩ := digits_of c0 [4, 26, 26, 26, 26, 4, 26, 26, 26, 26, 61, 2, 4] (by decide) (by decide)
  obtain ⟨wr, hwr, wrB⟩ := digits_of c1 (List.replicate 60 24) (by decide) (by decide)
  obtain ⟨er, her, erB⟩ := digits_of c6 [6, 24, 97, 61, 89, 8, 24, 83, 8, 6] (by decide) (by decide)
  have hex : ∀ k : Nat, ∃ r : List Int, k < 4 → (∃ c, callF tab 11 14 [.scr ns, .int ((2 + k : Nat) : Int)] = .ok (.v (.int c)) ∧ callF tab 11 15 [.int c, .lst (iL bases50)] = .ok (.own (iL r))) ∧ r.length = 50 := fun k => by
    by_cases h : k < 4
    · obtain ⟨c, hc⟩ := cell_of ns (2 + k) (by have : (4 : Nat) < 2 ^ 60 - 2 := by decide
                                               omega)
      obtain ⟨r, hr, rB⟩ := digits_of c bases50 (by decide) (by decide)
      exact ⟨r, fun _ => ⟨⟨c, hc, hr⟩, rB.1⟩⟩
    · exact ⟨[], fun z => absurd z h⟩
  let R : Nat → List Int := fun k => Classical.choose (hex k)
  have hR : ∀ k, k < 4 → (∃ c, callF tab 11 14 [.scr ns, .int ((2 + k : Nat) : Int)] = .ok (.v (.int c)) ∧ callF tab 11 15 [.int c, .lst (iL bases50)] = .ok (.own (iL (R k)))) ∧ (R k).length = 50 := fun k => Classical.choose_spec (hex k)
  clear_value R
  obtain ⟨dg0, dg1, dg2, dg3, dg4, dg5, dg6, dg7, dg8, dg9, dg10, dg11, dg12, rfl⟩ : ∃ dg0 dg1 dg2 dg3 dg4 dg5 dg6 dg7 dg8 dg9 dg10 dg11 dg12, sh = [dg0, dg1, dg2, dg3, dg4, dg5, dg6, dg7, dg8, dg9, dg10, dg11, dg12] := by
    obtain ⟨l, _⟩ := shB
    match sh, l with
    | [dg0, dg1, dg2, dg3, dg4, dg5, dg6, dg7, dg8, dg9, dg10, dg11, dg12], _ => exact ⟨dg0, dg1, dg2, dg3, dg4, dg5, dg6, dg7, dg8, dg9, dg10, dg11, dg12, rfl⟩
  have b0 := shB.2 0 dg0 4 rfl rfl
  have b5 := shB.2 5 dg5 4 rfl rfl
  have b12 := shB.2 12 dg12 4 rfl rfl
  obtain ⟨n0, rfl⟩ := Int.eq_ofNat_of_zero_le b0.1
  obtain ⟨n5, rfl⟩ := Int.eq_ofNat_of_zero_le b5.1
  obtain ⟨n12, rfl⟩ := Int.eq_ofNat_of_zero_le b12.1
  obtain ⟨a, ea, ha, _⟩ := four_ok (k := 10) (T := tab) (i := 22) (by rw [tab_is]; rfl) (row := [(n0 : Int), dg1, dg2, dg3, dg4]) (r0 := n0) rfl (by omega) (by simp; omega)
  obtain ⟨b, eb, hb, _⟩ := four_ok (k := 10) (T := tab) (i := 22) (by rw [tab_is]; rfl) (row := [(n5 : Int), dg6, dg7, dg8, dg9]) (r0 := n5) rfl (by omega) (by simp; omega)
  obtain ⟨s0, s1, s2, es, hs0, hs1, hs2⟩ := sizes_ok (n := n12) (by omega)
  rw [callF_go (fn := f26) (by rw [tab_is]; rfl) rfl]
  let SH : List D := iL [(n0 : Int), dg1, dg2, dg3, dg4, (n5 : Int), dg6, dg7, dg8, dg9, dg10, dg11, (n12 : Int)]
  show fin (evB (callF tab 11) [_, _, _, _, _, _, _, _, _, _, _, _, _, _, _, _, _, _, _, _, _, _] (en ns .un .un .un .un .un .un .un .un .un .un .un .un .un .un)) = _
  have y3 : ∀ env, evE (callF tab 11) (.lst [(.c (.int 4)), (.c (.int 26)), (.c (.int 26)), (.c (.int 26)), (.c (.int 26)), (.c (.int 4)), (.c (.int 26)), (.c (.int 26)), (.c (.int 26)), (.c (.int 26)), (.c (.int 61)), (.c (.int 2)), (.c (.int 4))]) env = .ok (.own [.int 4, .int 26, .int 26, .int 26, .int 26, .int 4, .int 26, .int 26, .int 26, .int 26, .int 61, .int 2, .int 4]) := fun env => by
    simp only [evE_lst, evA_cons, evA_nil, evE_c, bind_okD, fz_v, List.length_cons, List.length_nil]
    exact if_pos (show (13 : Nat) ≤ lim by decide)
  -- the shape
  refine fin_step (en ns (.own SH) .un .un .un .un .un .un .un .un .un .un .un .un .un) (by
    rw [evS_frz, show frzL [0] (en ns .un .un .un .un .un .un .un .un .un .un .un .un .un .un) = en ns .un .un .un .un .un .un .un .un .un .un .un .un .un .un from rfl]
    exact asg1 (call2 (fzv (call2 (fzv (fvar (x := .scr ns) rfl)) (fzv (fc _)) hc0)) (fzo (y3 _)) hsh) rfl rfl) ?_
  have v1 : ∀ x2 x3 x4 x5 x6 x7 x8 x9 x10 x11 x12 x13 x14, evE (callF tab 11) (.var 1) (en ns (.own SH) x2 x3 x4 x5 x6 x7 x8 x9 x10 x11 x12 x13 x14) = .ok (.bor SH) := fun _ _ _ _ _ _ _ _ _ _ _ _ _ => fown rfl
  have i10 : ∀ x2 x3 x4 x5 x6 x7 x8 x9 x10_ x11 x12 x13 x14, evE (callF tab 11) (.idx (.var 1) (.c (.int 10))) (en ns (.own SH) x2 x3 x4 x5 x6 x7 x8 x9 x10_ x11 x12 x13 x14) = .ok (.v (.int dg10)) := fun _ _ _ _ _ _ _ _ _ _ _ _ _ => idx2 (v1 _ _ _ _ _ _ _ _ _ _ _ _ _) (fc _) (getI_b (j := 10) rfl)
  have i11 : ∀ x2 x3 x4 x5 x6 x7 x8 x9 x10_ x11_ x12 x13 x14, evE (callF tab 11) (.idx (.var 1) (.c (.int 11))) (en ns (.own SH) x2 x3 x4 x5 x6 x7 x8 x9 x10_ x11_ x12 x13 x14) = .ok (.v (.int dg11)) := fun _ _ _ _ _ _ _ _ _ _ _ _ _ => idx2 (v1 _ _ _ _ _ _ _ _ _ _ _ _ _) (fc _) (getI_b (j := 11) rfl)
  have i12 : ∀ x2 x3 x4 x5 x6 x7 x8 x9 x10_ x11_ x12 x13 x14, evE (callF tab 11) (.idx (.var 1) (.c (.int 12))) (en ns (.own SH) x2 x3 x4 x5 x6 x7 x8 x9 x10_ x11_ x12 x13 x14) = .ok (.v (.int (n12 : Int))) := fun _ _ _ _ _ _ _ _ _ _ _ _ _ => idx2 (v1 _ _ _ _ _ _ _ _ _ _ _ _ _) (fc _) (getI_b (j := 12) rfl)
  -- the alphabets
  have c1 : ∀ x2 x3 x4 x5 x6 x7 x8 x9 x10_ x11_ x12 x13 x14, evE (callF tab 11) (.slc (.var 1) (.c (.int 0)) (.c (.int 5))) (en ns (.own SH) x2 x3 x4 x5 x6 x7 x8 x9 x10_ x11_ x12 x13 x14) = .ok (.own (iL [(n0 : Int), dg1, dg2, dg3, dg4])) := fun _ _ _ _ _ _ _ _ _ _ _ _ _ => by
    rw [evE_slc, v1, evE_c, evE_c, partE_ci, partE_ci, bind_okD, bind_okD, bind_okD, part_i, part_i, bind_okD, bind_okD, getS_b]
    rfl
  have c2 : ∀ x2 x3 x4 x5 x6 x7 x8 x9 x10_ x11_ x12 x13 x14, evE (callF tab 11) (.slc (.var 1) (.c (.int 5)) (.c (.int 10))) (en ns (.own SH) x2 x3 x4 x5 x6 x7 x8 x9 x10_ x11_ x12 x13 x14) = .ok (.own (iL [(n5 : Int), dg6, dg7, dg8, dg9])) := fun _ _ _ _ _ _ _ _ _ _ _ _ _ => by
    rw [evE_slc, v1, evE_c, evE_c, partE_ci, partE_ci, bind_okD, bind_okD, bind_okD, part_i, part_i, bind_okD, bind_okD, getS_b]
    rfl
  refine fin_step (en ns (.own SH) (.v (.str a)) .un .un .un .un .un .un .un .un .un .un .un .un) (asg1 (call1 (fzo (c1 _ _ _ _ _ _ _ _ _ _ _ _ _)) ea) rfl rfl) ?_
  refine fin_step (en ns (.own SH) (.v (.str a)) (.v (.str b)) .un .un .un .un .un .un .un .un .un .un .un) (asg1 (call1 (fzo (c2 _ _ _ _ _ _ _ _ _ _ _ _ _)) eb) rfl rfl) ?_
  -- the sizes
  let SZ : D := .lst [.int s0, .int s1, .int s2]
  refine fin_step (en ns (.own SH) (.v (.str a)) (.v (.str b)) (.v SZ) .un .un .un .un .un .un .un .un .un .un) (by
    have l4 : ∀ env, evE (callF tab 11) (.lst [(.lst [(.c (.int 15)), (.c (.int 7)), (.c (.int 4))]), (.lst [(.c (.int 15)), (.c (.int 25)), (.c (.int 25))]), (.lst [(.c (.int 15)), (.c (.int 7)), (.c (.int 25))]), (.lst [(.c (.int 61)), (.c (.int 25)), (.c (.int 4))])]) env = .ok (.own [.lst [.int 15, .int 7, .int 4], .lst [.int 15, .int 25, .int 25], .lst [.int 15, .int 7, .int 25], .lst [.int 61, .int 25, .int 4]]) := fun env => by
      have q : ∀ x y z : Int, (evE (callF tab 11) (.lst [(.c (.int x)), (.c (.int y)), (.c (.int z))]) env).bind Rv.fz = .ok (.lst [.int x, .int y, .int z]) := fun x y z => fzo (lst3 (fzv (fc _)) (fzv (fc _)) (fzv (fc _)))
      rw [evE_lst]
      simp only [evA_cons, evA_nil, q, bind_okD, List.length_cons, List.length_nil]
      exact if_pos (show (4 : Nat) ≤ lim by decide)
    exact asg1 (idx2 (l4 _) (i12 _ _ _ _ _ _ _ _ _ _ _ _ _) es) rfl rfl) ?_
  -- the word
  have e0 : ∀ x5 x6 x7 x8 x9 x10 x11 x12 x13 x14, evE (callF tab 11) (.idx (.var 4) (.c (.int 0))) (en ns (.own SH) (.v (.str a)) (.v (.str b)) (.v SZ) x5 x6 x7 x8 x9 x10 x11 x12 x13 x14) = .ok (.v (.int s0)) := fun _ _ _ _ _ _ _ _ _ _ => idx2 (fvar (x := SZ) rfl) (fc _) (getI_l (j := 0) rfl)
  have hm := bMod_of (i := dg10) (j := (s0 : Int)) (by omega)
  have q1 := Int.emod_nonneg dg10 (show (s0 : Int) ≠ 0 by omega)
  have q2 := Int.emod_lt_of_pos dg10 (show (0 : Int) < s0 by omega)
  obtain ⟨m, em⟩ := Int.eq_ofNat_of_zero_le q1
  rw [em] at hm
  have ane : a ≠ [] := fun z => by have := ha.n1; rw [z] at this; cases this
  have hwd := lword_ok (k := 10) (T := tab) (i := 16) (by rw [tab_is]; rfl) ha.wd ane (by have := ha.n4; omega) (row := wr) (many := m) (by rw [wrB.1, List.length_replicate]; omega) (by omega)
  let w : W := lword a wr m
  have hw : On a w := lword_mem ane
  have hwl : w.length ≤ 60 := by show (lword a wr m).length ≤ 60; rw [lword_len]; omega
  refine fin_step (en ns (.own SH) (.v (.str a)) (.v (.str b)) (.v SZ) (.v (.str w)) .un .un .un .un .un .un .un .un .un) (by
    rw [evS_frz, show frzL [2, 0] (en ns (.own SH) (.v (.str a)) (.v (.str b)) (.v SZ) .un .un .un .un .un .un .un .un .un .un) = en ns (.own SH) (.v (.str a)) (.v (.str b)) (.v SZ) .un .un .un .un .un .un .un .un .un .un from rfl]
    have z1 : evE (callF tab 11) f26c0 (en ns (.own SH) (.v (.str a)) (.v (.str b)) (.v SZ) .un .un .un .un .un .un .un .un .un .un) = .ok (.own (iL (List.replicate 60 24))) := const_comp (n := 60) (by decide)
    have z2 := call2 (fzv (call2 (fzv (fvar (x := .scr ns) (i := 0) rfl)) (fzv (fc _)) hc1)) (fzo z1) hwr
    exact asg1 (call3 (fzv (fvar (x := .str a) rfl)) (fzo z2) (fzv (bin2 (blt1 (i10 _ _ _ _ _ _ _ _ _ _ _ _ _) (by rw [blt_int, bInt_i])) (e0 _ _ _ _ _ _ _ _ _ _) (by rw [bop_mod]; exact hm))) hwd) rfl rfl) ?_
  clear_value w
  -- the tables
  let RW : Sl := .own ((List.range 4).map fun k => .lst (iL (R k)))
  refine fin_step (en ns (.own SH) (.v (.str a)) (.v (.str b)) (.v SZ) (.v (.str w)) RW .un .un .un .un .un .un .un .un) (by
    rw [evS_frz, show frzL [0] (en ns (.own SH) (.v (.str a)) (.v (.str b)) (.v SZ) (.v (.str w)) .un .un .un .un .un .un .un .un .un) = en ns (.own SH) (.v (.str a)) (.v (.str b)) (.v SZ) (.v (.str w)) .un .un .un .un .un .un .un .un .un from rfl]
    exact asg1 (rows_ok fun k hk => (hR k hk).1) rfl rfl) ?_
  let t : List W := tbl b R 2 26 0 s1 a.length
  let o : List W := tbl sgsQ R 26 50 1 s2 b.length
  have tok : OkW 24 t := tbl_ok hb (by omega) (by omega)
  have ook : OkW 24 o := tbl_ok al_q (by omega) (by omega)
  have ht : Tb a t 24 := ⟨tbl_len, fun v hv => tok v hv⟩
  have ho : Tb b o 24 := ⟨tbl_len, fun v hv => ook v hv⟩
  have hto : ∀ v ∈ t, On b v := tbl_on hb
  refine fin_step (en ns (.own SH) (.v (.str a)) (.v (.str b)) (.v SZ) (.v (.str w)) RW (.own (wS t)) .un .un .un .un .un .un .un) (by
    rw [evS_frz, show frzL [3] (en ns (.own SH) (.v (.str a)) (.v (.str b)) (.v SZ) (.v (.str w)) RW .un .un .un .un .un .un .un .un) = en ns (.own SH) (.v (.str a)) (.v (.str b)) (.v SZ) (.v (.str w)) RW .un .un .un .un .un .un .un .un from rfl]
    exact asg1 (table_ok ha hb (fun k hk => (hR k hk).2) hs1) rfl rfl) ?_
  refine fin_step (en ns (.own SH) (.v (.str a)) (.v (.str b)) (.v SZ) (.v (.str w)) RW (.own (wS t)) (.own (wS o)) .un .un .un .un .un .un) (asg1 (other_ok hb (fun k hk => (hR k hk).2) hs2) rfl rfl) ?_
  clear_value t o RW
  have hn4 := ha.n4
  have hm4 := hb.n4
  have tl : t.length = a.length := ht.len
  -- what is due
  refine fin_step (en ns (.own SH) (.v (.str a)) (.v (.str b)) (.v SZ) (.v (.str w)) RW (.v (.lst (wS t))) (.own (wS o)) (.v (.str (red (sub a t w)))) .un .un .un .un .un) (by
    rw [evS_frz, show frzL [2, 5, 7] (en ns (.own SH) (.v (.str a)) (.v (.str b)) (.v SZ) (.v (.str w)) RW (.own (wS t)) (.own (wS o)) .un .un .un .un .un .un) = en ns (.own SH) (.v (.str a)) (.v (.str b)) (.v SZ) (.v (.str w)) RW (.v (.lst (wS t))) (.own (wS o)) .un .un .un .un .un .un from rfl]
    exact asg1 (call3 (fzv (fvar (x := .str a) rfl)) (fzv (fvar (x := .str w) rfl)) (fzv (fvar (x := .lst (wS t)) rfl)) (lrep_fn (k := 8) (T := tab) (i := 21) (ls := 17) (lu := 18) (lt := 19) (by rw [tab_is]; rfl) (by rw [tab_is]; rfl) (by rw [tab_is]; rfl) (by rw [tab_is]; rfl) (.inl rfl) ha hw ht (by omega) (by omega) (by omega))) rfl rfl) ?_
  refine fin_step (en ns (.own SH) (.v (.str a)) (.v (.str b)) (.v SZ) (.v (.str w)) RW (.v (.lst (wS t))) (.v (.lst (wS o))) (.v (.str (red (sub a t w)))) (.own (wS (after b o t))) .un .un .un .un) (by
    rw [evS_frz, show frzL [3, 16, 8] (en ns (.own SH) (.v (.str a)) (.v (.str b)) (.v SZ) (.v (.str w)) RW (.v (.lst (wS t))) (.own (wS o)) (.v (.str (red (sub a t w)))) .un .un .un .un .un) = en ns (.own SH) (.v (.str a)) (.v (.str b)) (.v SZ) (.v (.str w)) RW (.v (.lst (wS t))) (.v (.lst (wS o))) (.v (.str (red (sub a t w)))) .un .un .un .un .un from rfl]
    exact asg1 (after_ok hb hto ho (by omega) (fun v hv => (ht.wd v hv).2)) rfl rfl) ?_
  -- lists or tuples
  let E (x11 : Sl) : Pd.Env := en ns (.own SH) (.v (.str a)) (.v (.str b)) (.v SZ) (.v (.str w)) RW (.v (.lst (wS t))) (.v (.lst (wS o))) (.v (.str (red (sub a t w)))) (.own (wS (after b o t))) x11 .un .un .un
  have v7 : ∀ x, evE (callF tab 11) (.var 7) (E x) = .ok (.v (.lst (wS t))) := fun _ => fvar rfl
  have v8 : ∀ x, evE (callF tab 11) (.var 8) (E x) = .ok (.v (.lst (wS o))) := fun _ => fvar rfl
  refine fin_step (E (.own [.lst (wS t), .lst (wS o)])) (asg1 (lst2 (fzo (blt1 (v7 _) (by rw [blt_list]; rfl))) (fzo (blt1 (v8 _) (by rw [blt_list]; rfl)))) rfl rfl) ?_
  have i11' := i11 (.v (.str a)) (.v (.str b)) (.v SZ) (.v (.str w)) RW (.v (.lst (wS t))) (.v (.lst (wS o))) (.v (.str (red (sub a t w)))) (.own (wS (after b o t))) (.own [.lst (wS t), .lst (wS o)]) .un .un .un
  have i11' : evE (callF tab 11) (.idx (.var 1) (.c (.int 11))) (E (.own [.lst (wS t), .lst (wS o)])) = .ok (.v (.int dg11)) := i11'
  by_cases h11 : dg11 = 0
  · refine fin_step (E (.own [.tup (wS t), .tup (wS o)])) (by
      have hcond : evT (callF tab 11) (.cmp .eq (.idx (.var 1) (.c (.int 11))) (.c (.int 0))) (E (.own [.lst (wS t), .lst (wS o)])) = .ok true := by
        rw [evT_cmp, i11', evE_c, bind_okD, bind_okD, cop_eq, cEq_ii, h11]
        rfl
      rw [evS_ifs, hcond, st_ok, if_pos rfl]
      exact evB_step (asg1 (lst2 (fzv (blt1 (v7 _) (by rw [blt_tuple]; rfl))) (fzv (blt1 (v8 _) (by rw [blt_tuple]; rfl)))) rfl rfl)) ?_
    exact last_ok ha hb hw hwl ht hto ho (.inr rfl) (.inr rfl) hc6 her erB
  · refine fin_step (E (.own [.lst (wS t), .lst (wS o)])) (by
      have hcond : evT (callF tab 11) (.cmp .eq (.idx (.var 1) (.c (.int 11))) (.c (.int 0))) (E (.own [.lst (wS t), .lst (wS o)])) = .ok false := by
        rw [evT_cmp, i11', evE_c, bind_okD, bind_okD, cop_eq, cEq_ii, decide_eq_false h11]
        rfl
      rw [evS_ifs, hcond, st_ok, if_neg Bool.false_ne_true, evB_nil]) ?_
    exact last_ok ha hb hw hwl ht hto ho (.inl rfl) (.inl rfl) hc6 her erB
end K01
set_option Elab.async false
set_option linter.all false
set_option maxRecDepth 100000
set_option autoImplicit false
open PySem PySem.W PyProof.Rows
set_option maxHeartbeats 0 in
theorem PySem.Challenge.cw_twostoreys_k01_tables_holds : PySem.Challenge.rw_twostoreys_k01_tables.Holds := by
  w_on; o_law; k_head; (case hw => w_witness2)
  k_fill
  refine Pd.walk_G (l := PySem.Challenge.rw_twostoreys_k01_tables) (n := 63) (k := 14) (x := "script") (m := Pd.callF K01.tab 12 26) rfl (by decide) rfl ⟨rfl, by decide, by decide⟩ (fun w h Y => PySem.W.kIn_of Y) ?F K01.keeps
  case F =>
    intro w mg fa h KX N hmg
    refine' Pd.table_F (k := 12) (xt := K01.xt) (cs := [?C0, ?C1, ?C2]) K01.tab_eq K01.scopes K01.binds (d := K01.d26) rfl rfl KX N hmg ⟨?l0, ?l1, ?l2, ?l3, ?l4, ?l5, ?l6, ?l7, ?l8, ?l9, ?l10, ?l11, ?l12, ?l13, ?l14, ?l15, ?l16, ?l17, ?l18, ?l19, ?l20, ?l21, ?l22, ?l23, ?l24, ?l25, ?l26, trivial⟩ (K01.free ?z0 ?z1 ?z2 ?z3 ?z4 ?z5 ?z6 ?z7 ?z8 ?z9 ?z10 ?z11 ?z12 ?z13 ?z14 ?z15 ?z16 ?z17 ?z18 ?z19) ⟨?c0, ?c1, ?c2, trivial⟩ ⟨?a0, ?a1, ?a2, ?a3, ?a4, trivial⟩ ⟨?k0, trivial⟩
    (case l0 => (refine' K01.l0 ?p0 ?q0 ?r0 ?s0; (case p0 => k_is); (case q0 => k_is); (case r0 => k_is); (case s0 => k_is)))
    (case l1 => (refine' K01.l1 ?p1 ?q1 ?r1 ?s1; (case p1 => k_is); (case q1 => k_is); (case r1 => k_is); (case s1 => k_is)))
    (case l2 => (refine' K01.l2 ?p2 ?q2 ?r2 ?s2; (case p2 => k_is); (case q2 => k_is); (case r2 => k_is); (case s2 => k_is)))
    (case l3 => (refine' K01.l3 ?p3 ?q3 ?r3 ?s3; (case p3 => k_is); (case q3 => k_is); (case r3 => k_is); (case s3 => k_is)))
    (case l4 => (refine' K01.l4 ?p4 ?q4 ?r4 ?s4; (case p4 => k_is); (case q4 => k_is); (case r4 => k_is); (case s4 => k_is)))
    (case l5 => (refine' K01.l5 ?p5 ?q5 ?r5 ?s5; (case p5 => k_is); (case q5 => k_is); (case r5 => k_is); (case s5 => k_is)))
    (case l6 => (refine' K01.l6 ?p6 ?q6 ?r6 ?s6; (case p6 => k_is); (case q6 => k_is); (case r6 => k_is); (case s6 => k_is)))
    (case l7 => (refine' K01.l7 ?p7 ?q7 ?r7 ?s7; (case p7 => k_is); (case q7 => k_is); (case r7 => k_is); (case s7 => k_is)))
    (case l8 => (refine' K01.l8 ?p8 ?q8 ?r8 ?s8; (case p8 => k_is); (case q8 => k_is); (case r8 => k_is); (case s8 => k_is)))
    (case l9 => (refine' K01.l9 ?p9 ?q9 ?r9 ?s9; (case p9 => k_is); (case q9 => k_is); (case r9 => k_is); (case s9 => k_is)))
    (case l10 => (refine' K01.l10 ?p10 ?q10 ?r10 ?s10; (case p10 => k_is); (case q10 => k_is); (case r10 => k_is); (case s10 => k_is)))
    (case l11 => (refine' K01.l11 ?p11 ?q11 ?r11 ?s11; (case p11 => k_is); (case q11 => k_is); (case r11 => k_is); (case s11 => k_is)))
    (case l12 => (refine' K01.l12 ?p12 ?q12 ?r12 ?s12; (case p12 => k_is); (case q12 => k_is); (case r12 => k_is); (case s12 => k_is)))
    (case l13 => (refine' K01.l13 ?p13 ?q13 ?r13 ?s13; (case p13 => k_is); (case q13 => k_is); (case r13 => k_is); (case s13 => k_is)))
    (case l14 => (refine' K01.l14 ?p14 ?q14 ?r14 ?s14; (case p14 => k_is); (case q14 => k_is); (case r14 => k_is); (case s14 => k_is)))
    (case l15 => (refine' K01.l15 ?p15 ?q15 ?r15 ?s15; (case p15 => k_is); (case q15 => k_is); (case r15 => k_is); (case s15 => k_is)))
    (case l16 => (refine' K01.l16 ?p16 ?q16 ?r16 ?s16; (case p16 => k_is); (case q16 => k_is); (case r16 => k_is); (case s16 => k_is)))
    (case l17 => (refine' K01.l17 ?p17 ?q17 ?r17 ?s17; (case p17 => k_is); (case q17 => k_is); (case r17 => k_is); (case s17 => k_is)))
    (case l18 => (refine' K01.l18 ?p18 ?q18 ?r18 ?s18; (case p18 => k_is); (case q18 => k_is); (case r18 => k_is); (case s18 => k_is)))
    (case l19 => (refine' K01.l19 ?p19 ?q19 ?r19 ?s19; (case p19 => k_is); (case q19 => k_is); (case r19 => k_is); (case s19 => k_is)))
    (case l20 => (refine' K01.l20 ?p20 ?q20 ?r20 ?s20; (case p20 => k_is); (case q20 => k_is); (case r20 => k_is); (case s20 => k_is)))
    (case l21 => (refine' K01.l21 ?p21 ?q21 ?r21 ?s21; (case p21 => k_is); (case q21 => k_is); (case r21 => k_is); (case s21 => k_is)))
    (case l22 => (refine' K01.l22 ?p22 ?q22 ?r22 ?s22; (case p22 => k_is); (case q22 => k_is); (case r22 => k_is); (case s22 => k_is)))
    (case l23 => (refine' K01.l23 ?p23 ?q23 ?r23 ?s23; (case p23 => k_is); (case q23 => k_is); (case r23 => k_is); (case s23 => k_is)))
    (case l24 => (refine' K01.l24 ?p24 ?q24 ?r24 ?s24; (case p24 => k_is); (case q24 => k_is); (case r24 => k_is); (case s24 => k_is)))
    (case l25 => (refine' K01.l25 ?p25 ?q25 ?r25 ?s25; (case p25 => k_is); (case q25 => k_is); (case r25 => k_is); (case s25 => k_is)))
    (case l26 => (refine' K01.l26 ?p26 ?q26 ?r26 ?s26; (case p26 => k_is); (case q26 => k_is); (case r26 => k_is); (case s26 => k_is)))
    (case z0 => k_is)
    (case z1 => k_is)
    (case z2 => k_is)
    (case z3 => k_is)
    (case z4 => k_is)
    (case z5 => k_is)
    (case z6 => k_is)
    (case z7 => k_is)
    (case z8 => k_is)
    (case z9 => k_is)
    (case z10 => k_is)
    (case z11 => k_is)
    (case z12 => k_is)
    (case z13 => k_is)
    (case z14 => k_is)
    (case z15 => k_is)
    (case z16 => k_is)
    (case z17 => k_is)
    (case z18 => k_is)
    (case z19 => k_is)
    (case c0 => (refine' Pd.cls_left (qual := "BadAlphabet.__init__") (st := K01.iS0) (by decide) (by decide) (by decide) K01.cS0 K01.hb0 K01.bd0 ?gC_0 ?xL_0 ?rv_0 ?sa_0 ?ga_0 ?gg_0 ?exC_0 ?tyC_0 ?kC_0 ?hd_0 ?ha_0 ?hn_0 ?ht_0 ?hm_0 ?iC_0 ?tI_0 ?l1_0 ?c1_0 ?k1_0 ?no_0; (case gC_0 => k_is); (case xL_0 => k_is); (case rv_0 => first | decide +kernel | rfl | k_is); (case sa_0 => k_is); (case ga_0 => k_is); (case gg_0 => k_is); (case exC_0 => k_is); (case tyC_0 => k_is); (case kC_0 => k_is); (case hd_0 => k_is); (case ha_0 => k_is); (case hn_0 => k_is); (case ht_0 => k_is); (case hm_0 => k_is); (case iC_0 => k_is); (case tI_0 => k_is); (case l1_0 => k_is); (case c1_0 => k_is); (case k1_0 => k_is); (case no_0 => exact ⟨(by k_is), (by k_is), (by k_is), trivial⟩)))
    (case c1 => (refine' Pd.cls_left (qual := "BadWord.__init__") (st := K01.iS1) (by decide) (by decide) (by decide) K01.cS1 K01.hb1 K01.bd1 ?gC_1 ?xL_1 ?rv_1 ?sa_1 ?ga_1 ?gg_1 ?exC_1 ?tyC_1 ?kC_1 ?hd_1 ?ha_1 ?hn_1 ?ht_1 ?hm_1 ?iC_1 ?tI_1 ?l1_1 ?c1_1 ?k1_1 ?no_1; (case gC_1 => k_is); (case xL_1 => k_is); (case rv_1 => first | decide +kernel | rfl | k_is); (case sa_1 => k_is); (case ga_1 => k_is); (case gg_1 => k_is); (case exC_1 => k_is); (case tyC_1 => k_is); (case kC_1 => k_is); (case hd_1 => k_is); (case ha_1 => k_is); (case hn_1 => k_is); (case ht_1 => k_is); (case hm_1 => k_is); (case iC_1 => k_is); (case tI_1 => k_is); (case l1_1 => k_is); (case c1_1 => k_is); (case k1_1 => k_is); (case no_1 => exact ⟨(by k_is), (by k_is), (by k_is), trivial⟩)))
    (case c2 => (refine' Pd.cls_left (qual := "BadTable.__init__") (st := K01.iS2) (by decide) (by decide) (by decide) K01.cS2 K01.hb2 K01.bd2 ?gC_2 ?xL_2 ?rv_2 ?sa_2 ?ga_2 ?gg_2 ?exC_2 ?tyC_2 ?kC_2 ?hd_2 ?ha_2 ?hn_2 ?ht_2 ?hm_2 ?iC_2 ?tI_2 ?l1_2 ?c1_2 ?k1_2 ?no_2; (case gC_2 => k_is); (case xL_2 => k_is); (case rv_2 => first | decide +kernel | rfl | k_is); (case sa_2 => k_is); (case ga_2 => k_is); (case gg_2 => k_is); (case exC_2 => k_is); (case tyC_2 => k_is); (case kC_2 => k_is); (case hd_2 => k_is); (case ha_2 => k_is); (case hn_2 => k_is); (case ht_2 => k_is); (case hm_2 => k_is); (case iC_2 => k_is); (case tI_2 => k_is); (case l1_2 => k_is); (case c1_2 => k_is); (case k1_2 => k_is); (case no_2 => exact ⟨(by k_is), (by k_is), (by k_is), trivial⟩)))
    (case a0 => (refine' Pd.ask_own ?ag0 ?ah0; (case ag0 => k_is); (case ah0 => exact ⟨(Pd.ask_ref (by k_is) (by k_is) (by k_is) (by k_is) (by intro h; first | rfl | exact absurd h (by decide +kernel))), (Pd.ask_ref (by k_is) (by k_is) (by k_is) (by k_is) (by intro h; first | rfl | exact absurd h (by decide +kernel))), (Pd.ask_ref (by k_is) (by k_is) (by k_is) (by k_is) (by intro h; first | rfl | exact absurd h (by decide +kernel))), trivial⟩)))
    (case a1 => (refine' Pd.ask_own ?ag1 ?ah1; (case ag1 => k_is); (case ah1 => exact ⟨(Pd.ask_ref (by k_is) (by k_is) (by k_is) (by k_is) (by intro h; first | rfl | exact absurd h (by decide +kernel))), (Pd.ask_ref (by k_is) (by k_is) (by k_is) (by k_is) (by intro h; first | rfl | exact absurd h (by decide +kernel))), (Pd.ask_ref (by k_is) (by k_is) (by k_is) (by k_is) (by intro h; first | rfl | exact absurd h (by decide +kernel))), trivial⟩)))
    (case a2 => (refine' Pd.ask_own ?ag2 ?ah2; (case ag2 => k_is); (case ah2 => exact ⟨(Pd.ask_ref (by k_is) (by k_is) (by k_is) (by k_is) (by intro h; first | rfl | exact absurd h (by decide +kernel))), (Pd.ask_ref (by k_is) (by k_is) (by k_is) (by k_is) (by intro h; first | rfl | exact absurd h (by decide +kernel))), (Pd.ask_ref (by k_is) (by k_is) (by k_is) (by k_is) (by intro h; first | rfl | exact absurd h (by decide +kernel))), trivial⟩)))
    (case a3 => (refine' Pd.ask_own ?ag3 ?ah3; (case ag3 => k_is); (case ah3 => exact ⟨(Pd.ask_ref (by k_is) (by k_is) (by k_is) (by k_is) (by intro h; first | rfl | exact absurd h (by decide +kernel))), (Pd.ask_ref (by k_is) (by k_is) (by k_is) (by k_is) (by intro h; first | rfl | exact absurd h (by decide +kernel))), (Pd.ask_ref (by k_is) (by k_is) (by k_is) (by k_is) (by intro h; first | rfl | exact absurd h (by decide +kernel))), trivial⟩)))
    (case a4 => (refine' Pd.ask_ty (T := "ValueError") ?ag4 (by decide +kernel) (by decide) ?ah4; (case ag4 => k_is); (case ah4 => exact ⟨(Pd.ask_typ (by k_is) (by decide +kernel) (by k_is) (by intro h; first | rfl | exact absurd h (by decide +kernel))), (Pd.ask_typ (by k_is) (by decide +kernel) (by k_is) (by intro h; first | rfl | exact absurd h (by decide +kernel))), (Pd.ask_typ (by k_is) (by decide +kernel) (by k_is) (by intro h; first | rfl | exact absurd h (by decide +kernel))), trivial⟩)))
    (case k0 => (refine' Pd.con_left ?cu0 ?cv0; (case cu0 => k_is); (case cv0 => first | rfl | decide +kernel)))
