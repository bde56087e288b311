import PyProof.Rows.All
import Wide.All
import OpenK.AllK
import Wide.FinOn
import HandS.ForMost
import HandS.ForExc
import HandS.Lambda
import HandS.Defaults
import HandS.IsInst
import HandS.Wide
import HandS.WideBits
import HandS.Style
import HandS.SortInts
import HandS.TryOnly
import HandS.TupAny
import PyProof.ReprRoads
import KE.KExcSuper
import KE.KSuper
import HandS.ExcInit
import HandS.ExcSuper
import HandS.HeadHook4
import HandS.ExcIs
import HandS.ExcField
import HandS.EndTab
import HandS.Head2
import HandS.Head3
import HandS.Gcd
import KE.IntBitsLaws
import PyProof.ReprLen
import PyProof.ReprBulk
import PySem.Challenge.RW_pictureheld_k49_whole_turns_of_told_rect
section
set_option Elab.async false
set_option linter.all false
set_option maxRecDepth 100000
set_option maxHeartbeats 2000000
/-! Value level: what Python's constructs make of plain data, without heap. -/
namespace VL
open PySem PySem.Spec PyProof.Rows L2

/-! ### data in the heap -/
mutual
inductive Dt (K : PySem.W.Frag) (S : Hp) : V → PyData → Prop
  | non : Dt K S .non .none
  | bl (b : Bool) : Dt K S (.bl b) (.bool b)
  | int (i : Int) : Dt K S (.int i) (.int i)
  | str (x : Str) : Dt K S (.str x) (.str x)
  | lst {a : Addr} {xs : List V} {ds : List PyData} : S a = some (.lst xs) → DtA K S xs ds → Dt K S (.ref a) (.list ds)
  | tup {a : Addr} {xs : List V} {ds : List PyData} : SqT K S a xs → DtA K S xs ds → Dt K S (.ref a) (.tuple ds)
  | dic {a : Addr} : S a = some (.dK []) → Dt K S (.ref a) (.dict [])
inductive DtA (K : PySem.W.Frag) (S : Hp) : List V → List PyData → Prop
  | nil : DtA K S [] []
  | cons {v : V} {vs : List V} {d : PyData} {ds : List PyData} : Dt K S v d → DtA K S vs ds → DtA K S (v :: vs) (d :: ds)
end
/-- all that the one knows the other knows -/
def Ex (H H' : Hp) : Prop := ∀ a o, H a = some o → H' a = some o
theorem Ex.refl (H : Hp) : Ex H H := fun _ _ h => h
theorem Ex.trans {H H1 H2 : Hp} (a : Ex H H1) (b : Ex H1 H2) : Ex H H2 := fun x o h => b x o (a x o h)
theorem Ex.new {H : Hp} {p : Addr} {o : HO} (h : H p = none) : Ex H (upd H p o) := fun a u e => by
  rw [upd_ne (ne_of_none e h)]; exact e
theorem Ex.rd {H H' : Hp} {a : Addr} {u : HO} (e : Ex H H') (h : Rd H a u) : Rd H' a u := by
  rcases h with h | ⟨o, h⟩
  · exact .inl (e a _ h)
  · exact .inr ⟨o, e a _ h⟩
theorem Ex.sl {K : PySem.W.Frag} {H H' : Hp} {a : Addr} {xs : List V} (e : Ex H H') (h : SqL K H a xs) : SqL K H' a xs := by
  rcases h with h | h
  · exact .inl (e.rd h)
  · exact .inr h
theorem Ex.st {K : PySem.W.Frag} {H H' : Hp} {a : Addr} {xs : List V} (e : Ex H H') (h : SqT K H a xs) : SqT K H' a xs := by
  rcases h with h | h
  · exact .inl (e.rd h)
  · exact .inr h
section
variable {K : PySem.W.Frag} {S S' : Hp}
mutual
theorem Dt.mono (e : Ex S S') : ∀ (d : PyData) {v : V}, Dt K S v d → Dt K S' v d
  | .none, _, h => by cases h; exact .non
  | .bool b, _, h => by cases h; exact .bl b
  | .int i, _, h => by cases h; exact .int i
  | .str x, _, h => by cases h; exact .str x
  | .list ds, _, h => by cases h with | lst a b => exact .lst (e _ _ a) (DtA.mono e ds b)
  | .tuple ds, _, h => by cases h with | tup a b => exact .tup (e.st a) (DtA.mono e ds b)
  | .dict kvs, _, h => by cases h with | dic a => exact .dic (e _ _ a)
theorem DtA.mono (e : Ex S S') : ∀ (ds : List PyData) {vs : List V}, DtA K S vs ds → DtA K S' vs ds
  | [], _, h => by cases h; exact .nil
  | d :: ds, _, h => by cases h with | cons a b => exact .cons (Dt.mono e d a) (DtA.mono e ds b)
end
theorem Dt.up {d : PyData} {v : V} (h : Dt K S v d) (e : Ex S S') : Dt K S' v d := Dt.mono e d h
theorem DtA.up {ds : List PyData} {vs : List V} (h : DtA K S vs ds) (e : Ex S S') : DtA K S' vs ds := DtA.mono e ds h
theorem DtA.len : ∀ {vs : List V} {ds : List PyData}, DtA K S vs ds → vs.length = ds.length
  | _, _, .nil => rfl
  | _, _, .cons _ t => by rw [List.length_cons, List.length_cons, DtA.len t]
theorem DtA.get : ∀ {vs : List V} {ds : List PyData} {i : Nat} {d : PyData}, DtA K S vs ds → ds[i]? = some d → ∃ v, vs[i]? = some v ∧ Dt K S v d
  | _, _, _, _, .nil, e => by simp at e
  | _, _, 0, _, .cons a _, e => by simp at e; subst e; exact ⟨_, rfl, a⟩
  | _, _, i + 1, d, .cons _ t, e => by
    obtain ⟨v, h1, h2⟩ := DtA.get (i := i) (d := d) t (by simpa using e)
    exact ⟨v, by simpa using h1, h2⟩
theorem DtA.getV : ∀ {vs : List V} {ds : List PyData} {i : Nat} {v : V}, DtA K S vs ds → vs[i]? = some v → ∃ d, ds[i]? = some d ∧ Dt K S v d
  | _, _, _, _, .nil, e => by simp at e
  | _, _, 0, _, .cons a _, e => by simp at e; subst e; exact ⟨_, rfl, a⟩
  | _, _, i + 1, v, .cons _ t, e => by
    obtain ⟨d, h1, h2⟩ := DtA.getV (i := i) (v := v) t (by simpa using e)
    exact ⟨d, by simpa using h1, h2⟩
theorem DtA.app : ∀ {vs : List V} {ds : List PyData} {us : List V} {es : List PyData}, DtA K S vs ds → DtA K S us es → DtA K S (vs ++ us) (ds ++ es)
  | _, _, _, _, .nil, h => h
  | _, _, _, _, .cons a t, h => .cons a (DtA.app t h)
theorem DtA.one {v : V} {d : PyData} (h : Dt K S v d) : DtA K S [v] [d] := .cons h .nil
theorem DtA.take : ∀ {vs : List V} {ds : List PyData} (n : Nat), DtA K S vs ds → DtA K S (vs.take n) (ds.take n)
  | _, _, 0, _ => .nil
  | _, _, _ + 1, .nil => .nil
  | _, _, n + 1, .cons a t => .cons a (DtA.take n t)
theorem DtA.drop : ∀ {vs : List V} {ds : List PyData} (n : Nat), DtA K S vs ds → DtA K S (vs.drop n) (ds.drop n)
  | _, _, 0, h => h
  | _, _, _ + 1, .nil => .nil
  | _, _, n + 1, .cons _ t => DtA.drop n t
theorem DtA.rev : ∀ {vs : List V} {ds : List PyData}, DtA K S vs ds → DtA K S vs.reverse ds.reverse
  | _, _, .nil => .nil
  | _, _, .cons a t => by rw [List.reverse_cons, List.reverse_cons]; exact DtA.app (DtA.rev t) (.one a)
theorem DtA.set {v : V} {d : PyData} (h : Dt K S v d) : ∀ {vs : List V} {ds : List PyData} (i : Nat), DtA K S vs ds → DtA K S (vs.set i v) (ds.set i d)
  | _, _, _, .nil => .nil
  | _, _, 0, .cons _ t => .cons h t
  | _, _, i + 1, .cons a t => .cons a (DtA.set h i t)
theorem DtA.rep {v : V} {d : PyData} (h : Dt K S v d) : ∀ n : Nat, DtA K S (List.replicate n v) (List.replicate n d)
  | 0 => .nil
  | n + 1 => .cons h (DtA.rep h n)
theorem DtA.ints (ns : List Int) : DtA K S (ns.map V.int) (ns.map PyData.int) := by
  induction ns with
  | nil => exact .nil
  | cons a r ih => exact .cons (.int a) ih
theorem DtA.ints_inv : ∀ {ns : List Int} {vs : List V}, DtA K S vs (ns.map PyData.int) → vs = ns.map V.int
  | [], _, h => by cases h; rfl
  | a :: r, _, h => by
    cases h with
    | cons x t =>
      cases x
      rw [DtA.ints_inv t]; rfl
theorem DtA.bools_inv : ∀ {bs : List Bool} {vs : List V}, DtA K S vs (bs.map PyData.bool) → vs = bs.map V.bl
  | [], _, h => by cases h; rfl
  | a :: r, _, h => by
    cases h with
    | cons x t =>
      cases x
      rw [DtA.bools_inv t]; rfl
theorem DtA.strs_inv : ∀ {ns : List Str} {vs : List V}, DtA K S vs (ns.map PyData.str) → vs = ns.map V.str
  | [], _, h => by cases h; rfl
  | a :: r, _, h => by
    cases h with
    | cons x t =>
      cases x
      rw [DtA.strs_inv t]; rfl
end

/-! ### what is known along the way -/
def gcode : Nat := 1000000
/-- the written part, the tables of code objects -/
structure Gx where
  K : PySem.W.Frag
  T : List (Addr × Str)
/-- a drawing list at p; n: what may still be counted -/
def GenOk (n : Nat) (H : Hp) (p : Addr) : Prop := ∃ a b c : Int, H p = some (.lst [.int a, .int b, .int c]) ∧ 0 ≤ a ∧ a < 10 ^ 600 ∧ 0 ≤ b ∧ b < 2147483647 ∧ 0 ≤ c ∧ c + n ≤ 2 ^ 60
/-- S: data that stay; W: lists that are owned and may change -/
structure Good (G : Gx) (W : Addr → Option Nat) (S H : Hp) (n : Nat) : Prop where
  sh : Ex S H
  wo : ∀ p i, W p = some i → S p = none ∧ H p ≠ none
  ge : ∀ p, W p = some gcode → GenOk n H p
  tb : LamX.Tabs G.T H
  tw : ∀ p i, W p = some i → ∃ xs, H p = some (.lst xs)
  st : ∀ p ps, S p ≠ some (.tbl ps)
/-- from one state to a later one -/
structure Fw (W : Addr → Option Nat) (S H : Hp) (W' : Addr → Option Nat) (S' H' : Hp) : Prop where
  ss : Ex S S'
  hh : ∀ p o, W p = none → (∀ ps, o ≠ .tbl ps) → H p = some o → H' p = some o
  ht : ∀ p, H p ≠ none → H' p ≠ none
  nw : ∀ p, S p = none → H p ≠ none → W p = none → S' p = none
  wn : ∀ p, W' p ≠ none → W p ≠ none ∨ H p = none
  gn : ∀ p, W p = some gcode → W' p = some gcode
  tb : ∀ p ps, H p = some (.tbl ps) → ∃ ps', H' p = some (.tbl ps')
section
variable {G : Gx} {W W1 W2 : Addr → Option Nat} {S S1 S2 H H1 H2 : Hp} {n : Nat}
theorem Fw.refl : Fw W S H W S H := ⟨Ex.refl _, fun _ _ _ _ h => h, fun _ h => h, fun _ h _ _ => h, fun _ h => .inl h, fun _ h => h, fun _ ps h => ⟨ps, h⟩⟩
theorem opt_none {α : Type} {o : Option α} (h : ¬ o ≠ none) : o = none := by
  cases o with
  | none => rfl
  | some x => exact absurd (fun z => by cases z) h
theorem Fw.trans (a : Fw W S H W1 S1 H1) (b : Fw W1 S1 H1 W2 S2 H2) : Fw W S H W2 S2 H2 where
  ss := a.ss.trans b.ss
  hh := fun p o w t h => b.hh p o (opt_none fun z => (a.wn p z).elim (fun q => q w) fun q => by rw [h] at q; cases q) t (a.hh p o w t h)
  ht := fun p h => b.ht p (a.ht p h)
  nw := fun p s h w => b.nw p (a.nw p s h w) (a.ht p h) (opt_none fun z => (a.wn p z).elim (fun q => q w) fun q => h q)
  wn := fun p h => (b.wn p h).elim (fun q => a.wn p q) fun q => .inr (opt_none fun z => a.ht p z q)
  gn := fun p h => b.gn p (a.gn p h)
  tb := fun p ps h => by
    obtain ⟨ps', h'⟩ := a.tb p ps h
    exact b.tb p ps' h'
/-- new data are laid; nothing else changes -/
structure Nw (S H S' H' : Hp) : Prop where
  ss : Ex S S'
  sh : Ex S' H'
  hh : Ex H H'
  nw : ∀ p, S p = none → H p ≠ none → S' p = none
  st : (∀ p ps, S p ≠ some (.tbl ps)) → ∀ p ps, S' p ≠ some (.tbl ps)
theorem Nw.refl (h : Ex S H) : Nw S H S H := ⟨Ex.refl _, h, Ex.refl _, fun _ h _ => h, fun z => z⟩
theorem Nw.trans (a : Nw S H S1 H1) (b : Nw S1 H1 S2 H2) : Nw S H S2 H2 := ⟨a.ss.trans b.ss, b.sh, a.hh.trans b.hh, fun p s h => b.nw p (a.nw p s h) (by
  cases e : H p with
  | none => exact absurd e h
  | some o => rw [a.hh p o e]; exact fun z => by cases z), fun z => b.st (a.st z)⟩
theorem Nw.laid {p : Addr} {o : HO} (e : Ex S H) (h : H p = none) (ho : ∀ ps, o ≠ .tbl ps := by intro _ z; cases z) : Nw S H (upd S p o) (upd H p o) := by
  have hs : S p = none := by
    cases q : S p with
    | none => rfl
    | some u => rw [e p u q] at h; cases h
  refine ⟨Ex.new hs, fun a u q => ?_, Ex.new h, fun a s z => ?_, fun z a ps q => ?_⟩
  · by_cases ha : a = p
    · subst ha; rw [upd_same] at q ⊢; exact q
    · rw [upd_ne ha] at q ⊢; exact e a u q
  · rw [upd_ne (fun y => z (by rw [y]; exact h))]; exact s
  · by_cases ha : a = p
    · subst ha; rw [upd_same] at q; exact ho ps (Option.some.inj q)
    · rw [upd_ne ha] at q; exact z a ps q
theorem Nw.fw (a : Nw S H S1 H1) : Fw W S H W S1 H1 := ⟨a.ss, fun p o _ _ h => a.hh p o h, fun p h => by
    cases e : H p with
    | none => exact absurd e h
    | some o => rw [a.hh p o e]; exact (fun z => by cases z), fun p s h _ => a.nw p s h, fun _ h => .inl h, fun _ h => h, fun p ps h => ⟨ps, a.hh p _ h⟩⟩
theorem GenOk.up {n m : Nat} {p : Addr} (h : GenOk n H p) (e : Ex H H1) (l : m ≤ n) : GenOk m H1 p := by
  obtain ⟨a, b, c, h1, h2, h3, h4, h5, h6, h7⟩ := h
  exact ⟨a, b, c, e _ _ h1, h2, h3, h4, h5, h6, by omega⟩
theorem Nw.good (a : Nw S H S1 H1) (g : Good G W S H n) : Good G W S1 H1 n := by
  refine ⟨a.sh, fun p i w => ?_, fun p w => (g.ge p w).up a.hh (Nat.le_refl _), g.tb.ext a.hh, fun p i w => ?_, a.st g.st⟩
  · obtain ⟨s, h⟩ := g.wo p i w
    refine ⟨a.nw p s h, ?_⟩
    cases e : H p with
    | none => exact absurd e h
    | some o => rw [a.hh p o e]; exact fun z => by cases z
  · obtain ⟨xs, h⟩ := g.tw p i w
    exact ⟨xs, a.hh p _ h⟩
end

/-! ### the names' values -/
inductive Sl where
  /-- nothing is known -/
  | un
  | da (d : PyData)
  /-- a def, a class, an error: this very value -/
  | op (v : V)
  /-- an owned list -/
  | ow (ds : List PyData)
  /-- the drawing list -/
  | ge
  /-- an error of the class at C with the value d -/
  | er (C : Addr) (d : PyData)
  /-- a list of ints that is only read -/
  | sq (ns : List Int)
structure En where
  sl : List Sl
  fu : Nat
/-- an exception's object, held -/
def ExT (cls : Value) (d : Option Addr) (a : Addr) : HO := .ext fun h => ∃ (oe : Obj) (vs : Array Value), h.get? a = some oe ∧ Zc cls d oe ∧ oe.data = .fields vs
def ErOk (K : PySem.W.Frag) (W : Addr → Option Nat) (S H : Hp) (v : V) (C : Addr) (d : PyData) : Prop := ∃ a dd u, v = .ref a ∧ H a = some (ExT (.ref C) (some dd) a) ∧ W a = none ∧ H dd = some (.xd [("value", u)]) ∧ W dd = none ∧ Dt K S u d
/-- such objects are never written -/
def Inert (o : HO) : Prop := (∀ ps, o ≠ .tbl ps) ∧ ∀ xs, o ≠ .lst xs
theorem ExT.inert {cls : Value} {d : Option Addr} {a : Addr} : Inert (ExT cls d a) := ⟨fun ps z => (by unfold ExT at z; cases z), fun ps z => (by unfold ExT at z; cases z)⟩
theorem xd_inert {fs : List (Str × V)} : Inert (.xd fs) := ⟨fun ps z => (by cases z), fun ps z => (by cases z)⟩
theorem ErOk.up {K : PySem.W.Frag} {W W' : Addr → Option Nat} {S S' H H' : Hp} {v : V} {C : Addr} {d : PyData} (h : ErOk K W S H v C d) (hs : Ex S S') (hH : ∀ p o, W p = none → Inert o → H p = some o → H' p = some o ∧ W' p = none) : ErOk K W' S' H' v C d := by
  obtain ⟨a, dd, u, e, h1, h2, h3, h4, h5⟩ := h
  obtain ⟨a1, a2⟩ := hH a _ h2 ExT.inert h1
  obtain ⟨b1, b2⟩ := hH dd _ h4 xd_inert h3
  exact ⟨a, dd, u, e, a1, a2, b1, b2, h5.up hs⟩
def SlOk (K : PySem.W.Frag) (W : Addr → Option Nat) (S H : Hp) (i : Nat) (o : Option (Option V)) : Sl → Prop
  | .un => True
  | .da d => ∃ v, o = some (some v) ∧ Dt K S v d
  | .op v => o = some (some v)
  | .ow ds => ∃ p vs, o = some (some (.ref p)) ∧ W p = some i ∧ H p = some (.lst vs) ∧ DtA K S vs ds
  | .ge => ∃ p, o = some (some (.ref p)) ∧ W p = some gcode
  | .er C d => ∃ v, o = some (some v) ∧ ErOk K W S H v C d
  | .sq ns => ∃ a, o = some (some (.ref a)) ∧ SqL K S a (ns.map V.int)
structure Sim (G : Gx) (W : Addr → Option Nat) (S H : Hp) (σ : L2.St) (e : En) : Prop where
  gd : Good G W S H e.fu
  ln : e.sl.length ≤ σ.length
  sm : e.sl.length ≤ gcode
  sl : ∀ i s, e.sl[i]? = some s → SlOk G.K W S H i σ[i]? s
section
variable {G : Gx} {W W1 : Addr → Option Nat} {S S1 H H1 : Hp} {σ : L2.St} {e : En}
theorem Sim.new (h : Sim G W S H σ e) (a : Nw S H S1 H1) : Sim G W S1 H1 σ e := by
  refine ⟨a.good h.gd, h.ln, h.sm, fun i s hs => ?_⟩
  have q := h.sl i s hs
  cases s with
  | un => trivial
  | da d => obtain ⟨v, h1, h2⟩ := q; exact ⟨v, h1, h2.up a.ss⟩
  | op v => exact q
  | ow ds => obtain ⟨p, vs, h1, h2, h3, h4⟩ := q; exact ⟨p, vs, h1, h2, a.hh _ _ h3, h4.up a.ss⟩
  | ge => exact q
  | er C d => obtain ⟨v, h1, h2⟩ := q; exact ⟨v, h1, h2.up a.ss fun p o w _ e => ⟨a.hh p o e, w⟩⟩
  | sq ns => obtain ⟨b, h1, h2⟩ := q; exact ⟨b, h1, a.ss.sl h2⟩
end

/-! ### what is handed in, what comes back -/
inductive Ar where
  | da (d : PyData)
  | op (v : V)
  | ge
  | er (C : Addr) (d : PyData)
  | sq (ns : List Int)
def ArOk (K : PySem.W.Frag) (W : Addr → Option Nat) (S H : Hp) (v : V) : Ar → Prop
  | .da d => Dt K S v d
  | .op u => v = u
  | .ge => ∃ p, v = .ref p ∧ W p = some gcode
  | .er C d => ErOk K W S H v C d
  | .sq ns => ∃ a, v = .ref a ∧ SqL K S a (ns.map V.int)
/-! ### what is wanted -/
abbrev XP := Addr → PyData → Nat → Prop
abbrev WE := En → (PyData → En → Prop) → XP → Prop
abbrev WT := En → (Bool → En → Prop) → XP → Prop
structure EV where
  nx : En → Prop
  rt : Ar → Nat → Prop
  bk : En → Prop := fun _ => False
  ct : En → Prop := fun _ => False
abbrev WS := EV → XP → En → Prop
/-- what an error that leaves is worth -/
def KP (G : Gx) (E : XK) (W : Addr → Option Nat) (S H : Hp) (X : XP) : Prop := ∀ C x v d W' S' H' n', Fw W S H W' S' H' → Good G W' S' H' n' → H' x = some (.xd [("value", v)]) → Dt G.K S' v d → X C d n' → E (.ref C) (some x) H'
theorem KP.next {G : Gx} {E : XK} {W W1 : Addr → Option Nat} {S S1 H H1 : Hp} {X : XP} (h : KP G E W S H X) (f : Fw W S H W1 S1 H1) : KP G E W1 S1 H1 X :=
  fun C x v d W' S' H' n' f' g hx hd q => h C x v d W' S' H' n' (f.trans f') g hx hd q
def RE (G : Gx) (E : XK) (te : TE) (we : WE) : Prop := ∀ W S H σ e P X, Sim G W S H σ e → we e P X → KP G E W S H X → ∀ Q : VK,
  (∀ v d W' S' H' e', Fw W S H W' S' H' → Sim G W' S' H' σ e' → Dt G.K S' v d → P d e' → Q v H') → te σ H Q
def RT (G : Gx) (E : XK) (tt : TT) (wt : WT) : Prop := ∀ W S H σ e P X, Sim G W S H σ e → wt e P X → KP G E W S H X → ∀ Q : Bool → Hp → Prop,
  (∀ b W' S' H' e', Fw W S H W' S' H' → Sim G W' S' H' σ e' → P b e' → Q b H') → tt σ H Q
def RS (G : Gx) (E : XK) (ts : TS) (ws : WS) : Prop := ∀ W S H σ e A X, Sim G W S H σ e → ws A X e → KP G E W S H X → ∀ D : Ends,
  (∀ W' S' H' σ' e', Fw W S H W' S' H' → Sim G W' S' H' σ' e' → A.nx e' → D.nx σ' H') →
  (∀ v r W' S' H' n', Fw W S H W' S' H' → Good G W' S' H' n' → ArOk G.K W' S' H' v r → A.rt r n' → D.rt v H') →
  (∀ W' S' H' σ' e', Fw W S H W' S' H' → Sim G W' S' H' σ' e' → A.bk e' → D.bk σ' H') →
  (∀ W' S' H' σ' e', Fw W S H W' S' H' → Sim G W' S' H' σ' e' → A.ct e' → D.ct σ' H') → ts D σ H
structure VE (G : Gx) (X : Cx) (E : XK) (e : Expr) (te : TE) (we : WE) : Prop where
  hK : X.K = G.K
  pe : PE X e te
  re : RE G E te we
structure VT (G : Gx) (X : Cx) (E : XK) (e : Expr) (tt : TT) (wt : WT) : Prop where
  hK : X.K = G.K
  pt : PT X e tt
  rt : RT G E tt wt
structure VS (G : Gx) (X : Cx) (E : XK) (s : Stmt) (ts : TS) (ws : WS) : Prop where
  hK : X.K = G.K
  ps : PS X s ts
  rs : RS G E ts ws
structure VSs (G : Gx) (X : Cx) (E : XK) (s : List Stmt) (ts : TS) (ws : WS) : Prop where
  hK : X.K = G.K
  ps : PSs X s ts
  rs : RS G E ts ws

/-! ### names and constants -/
def wC (d : PyData) : WE := fun e P _ => P d e
def wN (i : Nat) : WE := fun e P _ => match e.sl[i]? with
  | some (.da d) => P d e
  | some (.ow ds) => P (.list ds) ⟨e.sl.set i (.da (.list ds)), e.fu⟩
  | _ => False
section
variable {G : Gx} {X : Cx} {E : XK} {pos : Pos}
theorem re_c {v : V} {d : PyData} (h : ∀ S, Dt G.K S v d) : RE G E (tC v) (wC d) := fun W S H σ e P X hs hw _ Q q => q v d W S H e Fw.refl hs (h S) hw
theorem ve_int {i : Int} {j} (hK : X.K = G.K := by rfl) : VE G X E (.Constant (.int i) j pos) (tC (.int i)) (wC (.int i)) := ⟨hK, pe_int, re_c fun _ => .int i⟩
theorem ve_bl {b : Bool} {j} (hK : X.K = G.K := by rfl) : VE G X E (.Constant (.bool b) j pos) (tC (.bl b)) (wC (.bool b)) := ⟨hK, pe_bl, re_c fun _ => .bl b⟩
theorem ve_non {j} (hK : X.K = G.K := by rfl) : VE G X E (.Constant .none j pos) (tC .non) (wC .none) := ⟨hK, pe_non, re_c fun _ => .non⟩
theorem ve_str {x : Str} {j} (hK : X.K = G.K := by rfl) : VE G X E (.Constant (.str x) j pos) (tC (.str x)) (wC (.str x)) := ⟨hK, pe_str, re_c fun _ => .str x⟩
/-- an owned list is owned no more -/
theorem Sim.freeze {W : Addr → Option Nat} {S H : Hp} {σ : L2.St} {e : En} {i : Nat} {p : Addr} {vs : List V} {ds : List PyData} (h : Sim G W S H σ e) (hi : e.sl[i]? = some (.ow ds)) (hσ : σ[i]? = some (some (.ref p))) (hp : W p = some i)
    (hH : H p = some (.lst vs)) (hd : DtA G.K S vs ds) :
    Fw W S H (fun q => if q = p then none else W q) (upd S p (.lst vs)) H ∧ Sim G (fun q => if q = p then none else W q) (upd S p (.lst vs)) H σ ⟨e.sl.set i (.da (.list ds)), e.fu⟩ ∧ Dt G.K (upd S p (.lst vs)) (.ref p) (.list ds) := by
  have hS := (h.gd.wo p i hp).1
  have hlt : i < e.sl.length := (List.getElem?_eq_some_iff.mp hi).1
  have hg : i ≠ gcode := Nat.ne_of_lt (Nat.lt_of_lt_of_le hlt h.sm)
  have ex : Ex S (upd S p (.lst vs)) := Ex.new hS
  have dt : Dt G.K (upd S p (.lst vs)) (.ref p) (.list ds) := .lst upd_same (hd.up ex)
  refine ⟨⟨ex, fun _ _ _ _ z => z, fun _ z => z, fun q s z w => ?_, fun q z => .inl fun w => z ?_, fun q z => ?_, fun _ ps z => ⟨ps, z⟩⟩, ⟨⟨fun a o q => ?_, fun q j w => ?_, fun q w => ?_, h.gd.tb, fun q j w => ?_, fun q ps z => ?_⟩, ?_, ?_, fun j s hs => ?_⟩, dt⟩
  · rw [upd_ne (fun y => by rw [y, hp] at w; cases w)]; exact s
  · show (if q = p then none else W q) = none
    rw [w]; split <;> rfl
  · show (if q = p then none else W q) = some gcode
    rw [if_neg (fun y => by rw [y, hp] at z; exact hg (Option.some.inj z))]; exact z
  · by_cases ha : a = p
    · subst ha; rw [upd_same] at q; cases q; exact hH
    · rw [upd_ne ha] at q; exact h.gd.sh a o q
  · have w' : (if q = p then none else W q) = some j := w
    by_cases hq : q = p
    · rw [if_pos hq] at w'; cases w'
    · rw [if_neg hq] at w'; rw [upd_ne hq]; exact h.gd.wo q j w'
  · have w' : (if q = p then none else W q) = some gcode := w
    by_cases hq : q = p
    · rw [if_pos hq] at w'; cases w'
    · rw [if_neg hq] at w'; exact h.gd.ge q w'
  · have w' : (if q = p then none else W q) = some j := w
    by_cases hq : q = p
    · rw [if_pos hq] at w'; cases w'
    · rw [if_neg hq] at w'; exact h.gd.tw q j w'
  · by_cases hq : q = p
    · subst hq; rw [upd_same] at z; cases z
    · rw [upd_ne hq] at z; exact h.gd.st q ps z
  · show (e.sl.set i (.da (.list ds))).length ≤ _
    rw [List.length_set]; exact h.ln
  · show (e.sl.set i (.da (.list ds))).length ≤ _
    rw [List.length_set]; exact h.sm
  · have hs' : (e.sl.set i (.da (.list ds)))[j]? = some s := hs
    by_cases hj : j = i
    · subst hj
      rw [List.getElem?_set_self hlt] at hs'
      cases hs'
      exact ⟨_, hσ, dt⟩
    · rw [List.getElem?_set_ne (Ne.symm hj)] at hs'
      have q := h.sl j s hs'
      cases s with
      | un => trivial
      | da d => obtain ⟨v, h1, h2⟩ := q; exact ⟨v, h1, h2.up ex⟩
      | op v => exact q
      | ow ds' =>
        obtain ⟨p', vs', h1, h2, h3, h4⟩ := q
        refine ⟨p', vs', h1, ?_, h3, h4.up ex⟩
        show (if p' = p then none else W p') = some j
        rw [if_neg (fun y => by rw [y, hp] at h2; exact hj (Option.some.inj h2).symm)]; exact h2
      | ge =>
        obtain ⟨p', h1, h2⟩ := q
        refine ⟨p', h1, ?_⟩
        show (if p' = p then none else W p') = some gcode
        rw [if_neg (fun y => by rw [y, hp] at h2; exact hg (Option.some.inj h2))]; exact h2
      | er C d => obtain ⟨v, h1, h2⟩ := q; exact ⟨v, h1, h2.up ex fun b o w _ e => ⟨e, by show (if b = p then none else W b) = none; rw [w]; split <;> rfl⟩⟩
      | sq ns => obtain ⟨b, h1, h2⟩ := q; exact ⟨b, h1, ex.sl h2⟩
theorem re_n {i : Nat} : RE G E (tVar i) (wN i) := fun W S H σ e P X hs hw _ Q q => by
  unfold wN at hw
  split at hw
  · rename_i d hi
    obtain ⟨v, h1, h2⟩ := hs.sl i _ hi
    exact ⟨v, h1, q v d W S H e Fw.refl hs h2 hw⟩
  · rename_i ds hi
    obtain ⟨p, vs, h1, h2, h3, h4⟩ := hs.sl i _ hi
    obtain ⟨f, s, d⟩ := hs.freeze hi h1 h2 h3 h4
    exact ⟨_, h1, q _ _ _ _ _ _ f s d hw⟩
  · exact hw.elim
theorem ve_n (i : Nat) {x : Str} (hN : X.N[i]? = some x := by rfl) (hv : Vis X.env.scope x := by first | exact Or.inl rfl | exact Or.inr (Or.inl rfl) | exact Or.inr (Or.inr rfl)) (hd : (x == ("__debug__" : Str)) = false := by decide)
    (hcd : (x == ("__classdict__" : Str)) = false := by decide) (hK : X.K = G.K := by rfl) : VE G X E (.Name x pos) (tVar i) (wN i) := ⟨hK, pe_var hN hv hd hcd, re_n⟩
/-- a module's constant -/
theorem ve_glob {x : Str} {v : V} {u : Value} {d : PyData} (hm : X.mg x = some u) (r : RelV v u) (hd : ∀ S, Dt G.K S v d) (hg : Gl X x := by rfl) (hdb : (x == ("__debug__" : Str)) = false := by decide) (hK : X.K = G.K := by rfl) :
    VE G X E (.Name x pos) (tC v) (wC d) := ⟨hK, pe_glob hg hm r hdb, re_c hd⟩
end

/-! ### operators -/
def w2 (f : PyData → PyData → (PyData → Prop) → Prop) (wa wb : WE) : WE := fun e P X => wa e (fun x e1 => wb e1 (fun y e2 => f x y fun z => P z e2) X) X
def w1 (f : PyData → (PyData → Prop) → Prop) (wa : WE) : WE := fun e P X => wa e (fun x e1 => f x fun z => P z e1) X
/-- an operation whose answer is new data -/
def RO (K : PySem.W.Frag) (r : R2) (f : PyData → PyData → (PyData → Prop) → Prop) : Prop := ∀ S H x y dx dy P, Ex S H → Dt K S x dx → Dt K S y dy → f dx dy P → ∀ Q : VK, (∀ z dz S' H', Nw S H S' H' → Dt K S' z dz → P dz → Q z H') → r x y H Q
def RO1 (K : PySem.W.Frag) (r : V → Hp → VK → Prop) (f : PyData → (PyData → Prop) → Prop) : Prop := ∀ S H x dx P, Ex S H → Dt K S x dx → f dx P → ∀ Q : VK, (∀ z dz S' H', Nw S H S' H' → Dt K S' z dz → P dz → Q z H') → r x H Q
section
variable {G : Gx} {X : Cx} {E : XK} {pos : Pos} {a b : Expr} {ta tb : TE} {wa wb : WE}
theorem re_2 {r : R2} {f : PyData → PyData → (PyData → Prop) → Prop} (hr : RO G.K r f) (ha : RE G E ta wa) (hb : RE G E tb wb) : RE G E (tOp r ta tb) (w2 f wa wb) := fun W S H σ e P X hs hw hk Q q =>
  ha W S H σ e _ X hs hw hk _ fun x dx W1 S1 H1 e1 f1 s1 d1 hw1 => hb W1 S1 H1 σ e1 _ X s1 hw1 (hk.next f1) _ fun y dy W2 S2 H2 e2 f2 s2 d2 hw2 =>
    hr S2 H2 x y dx dy _ s2.gd.sh (d1.up f2.ss) d2 hw2 _ fun z dz S3 H3 nw dz' hp => q z dz W2 S3 H3 e2 ((f1.trans f2).trans nw.fw) (s2.new nw) dz' hp
theorem re_1 {r : V → Hp → VK → Prop} {f : PyData → (PyData → Prop) → Prop} (hr : RO1 G.K r f) (ha : RE G E ta wa) : RE G E (tUn r ta) (w1 f wa) := fun W S H σ e P X hs hw hk Q q =>
  ha W S H σ e _ X hs hw hk _ fun x dx W1 S1 H1 e1 f1 s1 d1 hw1 => hr S1 H1 x dx _ s1.gd.sh d1 hw1 _ fun z dz S3 H3 nw dz' hp => q z dz W1 S3 H3 e1 (f1.trans nw.fw) (s1.new nw) dz' hp
theorem ve_op {op : Operator} {r : R2} {f : PyData → PyData → (PyData → Prop) → Prop} (ho : OpR X (binaryOp op) r) (hr : RO G.K r f) (ha : VE G X E a ta wa) (hb : VE G X E b tb wb) : VE G X E (.BinOp a op b pos) (tOp r ta tb) (w2 f wa wb) :=
  ⟨ha.hK, pe_op ho ha.pe hb.pe, re_2 hr ha.re hb.re⟩
theorem ve_cmp {op : CmpOp} {r : R2} {f : PyData → PyData → (PyData → Prop) → Prop} (ho : OpR X (compareOp op) r) (hr : RO G.K r f) (ha : VE G X E a ta wa) (hb : VE G X E b tb wb) (hm : behindInMarks op b = false) : VE G X E (.Compare a [op] [b] pos) (tOp r ta tb) (w2 f wa wb) :=
  ⟨ha.hK, pe_cmpR ho ha.pe hb.pe hm, re_2 hr ha.re hb.re⟩
end
end VL

end
section
set_option Elab.async false
set_option linter.all false
set_option maxRecDepth 100000
set_option maxHeartbeats 2000000
namespace VL
open PySem PySem.Spec PyProof.Rows L2

section
variable {K : PySem.W.Frag} {S H : Hp}
theorem Dt.int_inv {v : V} {i : Int} (h : Dt K S v (.int i)) : v = .int i := by cases h; rfl
theorem Dt.bool_inv {v : V} {b : Bool} (h : Dt K S v (.bool b)) : v = .bl b := by cases h; rfl
theorem Dt.str_inv {v : V} {x : Str} (h : Dt K S v (.str x)) : v = .str x := by cases h; rfl
theorem Dt.none_inv {v : V} (h : Dt K S v .none) : v = .non := by cases h; rfl
theorem dt_sl {v : V} {ds : List PyData} (h : Dt K S v (.list ds)) : ∃ a xs, v = .ref a ∧ S a = some (.lst xs) ∧ DtA K S xs ds := by
  cases h with | lst a b => exact ⟨_, _, rfl, a, b⟩
theorem dt_st {v : V} {ds : List PyData} (h : Dt K S v (.tuple ds)) : ∃ a xs, v = .ref a ∧ SqT K S a xs ∧ DtA K S xs ds := by
  cases h with | tup a b => exact ⟨_, _, rfl, a, b⟩
end
section
variable {X : Cx} {pins : List (Addr × Obj)} {σ : L2.St} {H : Hp} {s : Shared}
mutual
theorem Dt.reads (I : Inv X pins σ H s) : ∀ (d : PyData) (v : V) (u : Value), Dt X.K H v d → RelV v u → ∃ as, Reads s.heap u d as
  | .none, _, _, h, r => by cases h; cases r; exact ⟨_, Reads.none⟩
  | .bool b, _, _, h, r => by cases h; cases r; exact ⟨_, Reads.bool b⟩
  | .int i, _, _, h, r => by cases h; obtain ⟨t, rfl⟩ := r; exact ⟨_, Reads.int i t⟩
  | .str x, _, _, h, r => by cases h; obtain ⟨t, rfl⟩ := r; exact ⟨_, Reads.str x t⟩
  | .list ds, _, _, h, r => by
    cases h with
    | lst hs ha =>
      cases r
      obtain ⟨its, rv, ⟨o, n, ho, hc, _, hd⟩, _⟩ := I.list (.inl (.inl hs))
      obtain ⟨as, hr⟩ := DtA.readsAll I ds _ its ha rv
      exact ⟨_, Reads.list ho hc hd hr⟩
  | .tuple ds, _, _, h, r => by
    cases h with
    | tup hs ha =>
      cases r
      obtain ⟨its, rv, ⟨o, ho, hc, n, hd⟩, _⟩ := I.tuple hs
      obtain ⟨as, hr⟩ := DtA.readsAll I ds _ its ha rv
      exact ⟨_, Reads.tuple ho hc hd hr⟩
  | .dict kvs, _, _, h, r => by
    cases h with
    | dic ha =>
      cases r
      obtain ⟨_, _, vs, rv, o, es, ep, ho, hx, hd, _, q, _⟩ := I.hok _ _ ha
      cases rv
      have hes : es.toList = [] := by
        have z := q.length
        exact List.eq_nil_of_length_eq_zero z
      exact ⟨_, Reads.dict (kvs := []) ho hx.1 hd (by rw [hes]; exact .nil) (by rw [hes]; exact .nil)⟩
theorem DtA.readsAll (I : Inv X pins σ H s) : ∀ (ds : List PyData) (vs : List V) (us : List Value), DtA X.K H vs ds → Vals vs us → ∃ as, ReadsAll s.heap us ds as
  | [], _, _, h, r => by cases h; cases r; exact ⟨_, ReadsAll.nil⟩
  | d :: ds, _, _, h, r => by
    cases h with
    | cons h1 h2 =>
      cases r with
      | cons r1 r2 =>
        obtain ⟨as, q1⟩ := Dt.reads I d _ _ h1 r1
        obtain ⟨bs, q2⟩ := DtA.readsAll I ds _ _ h2 r2
        exact ⟨_, ReadsAll.cons q1 q2⟩
end
end

/-! ### operators by data -/
theorem sz_line {X : Cx} {pins : List (Addr × Obj)} {σ : L2.St} {H : Hp} {s : Shared} {a : Addr} {xs : List V} (I : Inv X pins σ H s) (h : H a = some (.lst xs)) : xs.length ≤ sizeLine := (I.hok a _ h).1
/-- + -/
def fAdd : PyData → PyData → (PyData → Prop) → Prop
  | .int i, .int j, P => P (.int (i + j))
  | .list xs, .list ys, P => xs.length + ys.length ≤ sizeLine ∧ P (.list (xs ++ ys))
  | .tuple xs, .tuple ys, P => xs.length + ys.length ≤ sizeLine ∧ P (.tuple (xs ++ ys))
  | .str x, .str y, P => x.length + y.length ≤ sizeLine ∧ P (.str (x ++ y))
  | _, _, _ => False
def rAddS : R2 := fun x y H Q => ∃ i j, x = .str i ∧ y = .str j ∧ i.length + j.length ≤ sizeLine ∧ Q (.str (i ++ j)) H
def rAddD (K : PySem.W.Frag) : R2 := fun x y H Q => rI0 (fun i j => .int (i + j)) x y H Q ∨ (rCat x y H Q ∨ (rCatA K x y H Q ∨ rAddS x y H Q))
theorem op_addD {X : Cx} : OpR X (binaryOp .Add) (rAddD X.K) := op_add.or (op_cat.or (op_catA.or op_add_str))
theorem ro_add {K : PySem.W.Frag} : RO K (rAddD K) fAdd := by
  intro S H x y dx dy P e hx hy hf Q q
  unfold fAdd at hf
  split at hf
  · cases hx; cases hy
    exact .inl ⟨_, _, rfl, rfl, q _ _ S H (.refl e) (.int _) hf⟩
  · obtain ⟨a, xs, rfl, ha, hxs⟩ := dt_sl hx
    obtain ⟨b, ys, rfl, hb, hys⟩ := dt_sl hy
    refine .inr (.inl ⟨a, b, xs, ys, rfl, rfl, e _ _ ha, e _ _ hb, by rw [hxs.len, hys.len]; exact hf.1, fun p hp => ?_⟩)
    have nw := Nw.laid (o := .lst (xs ++ ys)) e hp
    exact q _ _ _ _ nw (.lst upd_same ((hxs.app hys).up nw.ss)) hf.2
  · obtain ⟨a, xs, rfl, ha, hxs⟩ := dt_st hx
    obtain ⟨b, ys, rfl, hb, hys⟩ := dt_st hy
    refine .inr (.inr (.inl ⟨a, b, xs, ys, rfl, rfl, e.st ha, e.st hb, by rw [hxs.len, hys.len]; exact hf.1, fun h => ?_, fun _ h => ?_, fun _ _ p hp => ?_⟩))
    · subst h; cases hxs
      exact q _ _ S H (.refl e) (.tup hb hys) hf.2
    · subst h; cases hys
      have := hf.2
      rw [List.append_nil] at this
      exact q _ _ S H (.refl e) (.tup ha hxs) this
    · have nw := Nw.laid (o := .tup (xs ++ ys)) e hp
      exact q _ _ _ _ nw (.tup (.inl (.inl upd_same)) ((hxs.app hys).up nw.ss)) hf.2
  · cases hx; cases hy
    exact .inr (.inr (.inr ⟨_, _, rfl, rfl, hf.1, q _ _ S H (.refl e) (.str _) hf.2⟩))
  · exact hf.elim
/-- ints to an int -/
def fI (C : Int → Int → Prop) (g : Int → Int → Int) : PyData → PyData → (PyData → Prop) → Prop
  | .int i, .int j, P => C i j ∧ P (.int (g i j))
  | _, _, _ => False
def fI0 (g : Int → Int → Int) : PyData → PyData → (PyData → Prop) → Prop
  | .int i, .int j, P => P (.int (g i j))
  | _, _, _ => False
def fIB (g : Int → Int → Bool) : PyData → PyData → (PyData → Prop) → Prop
  | .int i, .int j, P => P (.bool (g i j))
  | _, _, _ => False
theorem ro_I {K : PySem.W.Frag} {C : Int → Int → Prop} {g : Int → Int → Int} : RO K (rI C fun i j => .int (g i j)) (fI C g) := by
  intro S H x y dx dy P e hx hy hf Q q
  unfold fI at hf
  split at hf
  · cases hx; cases hy
    exact ⟨_, _, rfl, rfl, hf.1, q _ _ S H (.refl e) (.int _) hf.2⟩
  · exact hf.elim
theorem ro_I0 {K : PySem.W.Frag} {g : Int → Int → Int} : RO K (rI0 fun i j => .int (g i j)) (fI0 g) := by
  intro S H x y dx dy P e hx hy hf Q q
  unfold fI0 at hf
  split at hf
  · cases hx; cases hy
    exact ⟨_, _, rfl, rfl, q _ _ S H (.refl e) (.int _) hf⟩
  · exact hf.elim
theorem ro_IB {K : PySem.W.Frag} {g : Int → Int → Bool} : RO K (rI0 fun i j => .bl (g i j)) (fIB g) := by
  intro S H x y dx dy P e hx hy hf Q q
  unfold fIB at hf
  split at hf
  · cases hx; cases hy
    exact ⟨_, _, rfl, rfl, q _ _ S H (.refl e) (.bl _) hf⟩
  · exact hf.elim
/-- *: ints; a list times an int -/
def CMul' (i j : Int) : Prop := (Builtin.Int.intBits i : Int) + (Builtin.Int.intBits j : Int) ≤ 134217728
def fMul : PyData → PyData → (PyData → Prop) → Prop
  | .int i, .int j, P => CMul' i j ∧ P (.int (i * j))
  | .list xs, .int k, P => (-(2 ^ 63) ≤ k ∧ k < 2 ^ 63 ∧ xs.length * k.toNat ≤ sizeLine) ∧ P (.list (List.replicate k.toNat xs).flatten)
  | _, _, _ => False
def rMulD : R2 := fun x y H Q => rI CMulX (fun i j => .int (i * j)) x y H Q ∨ rRep x y H Q
theorem op_mulD {X : Cx} : OpR X (binaryOp .Mult) rMulD := op_mulX.or op_rep
theorem dta_flat {K : PySem.W.Frag} {S : Hp} {vs : List V} {ds : List PyData} (h : DtA K S vs ds) : ∀ n : Nat, DtA K S (List.replicate n vs).flatten (List.replicate n ds).flatten
  | 0 => .nil
  | n + 1 => by
    rw [List.replicate_succ, List.replicate_succ, List.flatten_cons, List.flatten_cons]
    exact h.app (dta_flat h n)
theorem ro_mul {K : PySem.W.Frag} : RO K rMulD fMul := by
  intro S H x y dx dy P e hx hy hf Q q
  unfold fMul at hf
  split at hf
  · cases hx; cases hy
    exact .inl ⟨_, _, rfl, rfl, hf.1, q _ _ S H (.refl e) (.int _) hf.2⟩
  · rename_i ds k
    obtain ⟨a, xs, rfl, ha, hxs⟩ := dt_sl hx
    cases hy
    obtain ⟨⟨h1, h2, h3⟩, h4⟩ := hf
    refine .inr ⟨a, k, xs, rfl, rfl, e _ _ ha, h1, h2, by rw [hxs.len]; exact h3, fun p hp => ?_⟩
    have nw := Nw.laid (o := .lst (List.replicate k.toNat xs).flatten) e hp
    exact q _ _ _ _ nw (.lst upd_same ((dta_flat hxs _).up nw.ss)) h4
  · exact hf.elim
/-- **, wide -/
def CPow' (i j : Int) : Prop := 0 ≤ j ∧ (Builtin.Int.intBits i : Int) * j ≤ 2 ^ 27
theorem op_powX {X : Cx} : OpR X (binaryOp .Pow) (rI CPow' fun i j => .int (i ^ j.toNat)) := opI fun _ _ _ _ _ _ _ hc q => pow_int hc.1 hc.2 q
/-- the divisors below 2 ^ 9000 -/
def CDiv' (_ j : Int) : Prop := 0 < j ∧ j.natAbs.log2 < 9000
section
variable {G : Gx} {X : Cx} {E : XK} {pos : Pos} {a b : Expr} {ta tb : TE} {wa wb : WE}
theorem ve_add (ha : VE G X E a ta wa) (hb : VE G X E b tb wb) : VE G X E (.BinOp a .Add b pos) (tOp (rAddD G.K) ta tb) (w2 fAdd wa wb) := ve_op (by rw [← ha.hK]; exact op_addD) ro_add ha hb
theorem ve_sub (ha : VE G X E a ta wa) (hb : VE G X E b tb wb) : VE G X E (.BinOp a .Sub b pos) (tOp (rI0 fun i j => .int (i - j)) ta tb) (w2 (fI0 fun i j => i - j) wa wb) := ve_op op_sub ro_I0 ha hb
theorem ve_mul (ha : VE G X E a ta wa) (hb : VE G X E b tb wb) : VE G X E (.BinOp a .Mult b pos) (tOp (rMulD) ta tb) (w2 fMul wa wb) := ve_op op_mulD ro_mul ha hb
theorem ve_fdiv (ha : VE G X E a ta wa) (hb : VE G X E b tb wb) : VE G X E (.BinOp a .FloorDiv b pos) (tOp (rI CDivW fun i j => .int (i / j)) ta tb) (w2 (fI CDiv' fun i j => i / j) wa wb) := ve_op op_fdivW ro_I ha hb
theorem ve_mod (ha : VE G X E a ta wa) (hb : VE G X E b tb wb) : VE G X E (.BinOp a .Mod b pos) (tOp (rI (fun _ j => 0 < j) fun i j => .int (i % j)) ta tb) (w2 (fI (fun _ j => 0 < j) fun i j => i % j) wa wb) := ve_op op_mod ro_I ha hb
theorem ve_pow (ha : VE G X E a ta wa) (hb : VE G X E b tb wb) : VE G X E (.BinOp a .Pow b pos) (tOp (rI CPow' fun i j => .int (i ^ j.toNat)) ta tb) (w2 (fI CPow' fun i j => i ^ j.toNat) wa wb) := ve_op op_powX ro_I ha hb
theorem ve_lt (ha : VE G X E a ta wa) (hb : VE G X E b tb wb) : VE G X E (.Compare a [.Lt] [b] pos) (tOp (rI0 fun i j => .bl (decide (i < j))) ta tb) (w2 (fIB fun i j => decide (i < j)) wa wb) := ve_cmp op_lt ro_IB ha hb (nomark _)
theorem ve_le (ha : VE G X E a ta wa) (hb : VE G X E b tb wb) : VE G X E (.Compare a [.LtE] [b] pos) (tOp (rI0 fun i j => .bl (decide (i ≤ j))) ta tb) (w2 (fIB fun i j => decide (i ≤ j)) wa wb) := ve_cmp op_le ro_IB ha hb (nomark _)
theorem ve_gt (ha : VE G X E a ta wa) (hb : VE G X E b tb wb) : VE G X E (.Compare a [.Gt] [b] pos) (tOp (rI0 fun i j => .bl (decide (j < i))) ta tb) (w2 (fIB fun i j => decide (j < i)) wa wb) := ve_cmp op_gt ro_IB ha hb (nomark _)
theorem ve_ge (ha : VE G X E a ta wa) (hb : VE G X E b tb wb) : VE G X E (.Compare a [.GtE] [b] pos) (tOp (rI0 fun i j => .bl (decide (j ≤ i))) ta tb) (w2 (fIB fun i j => decide (j ≤ i)) wa wb) := ve_cmp op_ge ro_IB ha hb (nomark _)
/-- -a -/
def fNeg : PyData → (PyData → Prop) → Prop
  | .int i, P => P (.int (-i))
  | _, _ => False
theorem ve_neg (ha : VE G X E a ta wa) : VE G X E (.UnaryOp .USub a pos) (tUn (rU fun i => .int (-i)) ta) (w1 fNeg wa) := ⟨ha.hK, pe_un un_neg ha.pe, re_1 (fun S H x dx P e hx hf Q q => by
  unfold fNeg at hf
  split at hf
  · cases hx; exact ⟨_, rfl, q _ _ S H (.refl e) (.int _) hf⟩
  · exact hf.elim) ha.re⟩

/-! ### == of data -/
/-- data that == takes: no dict, no odd text, not too deep -/
def eqOk (d : PyData) : Bool := SeqAt.shaped d
/-- a list against the empty list: the items are not looked at; texts are taken as they are -/
def eqOkL : PyData → PyData → Bool
  | .list _, .list [] => true
  | .list [], .list _ => true
  | .str _, .str _ => true
  | d, _ => eqOk d
theorem eqOkL_or {d e : PyData} (h : eqOkL d e = true) : eqOk d = true ∨ (∃ xs, d = .list xs ∧ e = .list []) ∨ (∃ xs, d = .list [] ∧ e = .list xs) ∨ ∃ x y, d = .str x ∧ e = .str y := by
  unfold eqOkL at h
  split at h
  · exact .inr (.inl ⟨_, rfl, rfl⟩)
  · exact .inr (.inr (.inl ⟨_, rfl, rfl⟩))
  · exact .inr (.inr (.inr ⟨_, _, rfl, rfl⟩))
  · exact .inl h
def fEq : PyData → PyData → (PyData → Prop) → Prop := fun d e P => eqOkL d e = true ∧ eqOkL e d = true ∧ P (.bool (PyData.eqv d e))
def fNe : PyData → PyData → (PyData → Prop) → Prop := fun d e P => eqOk d = true ∧ eqOk e = true ∧ P (.bool (!PyData.eqv d e))
def rEqT (K : PySem.W.Frag) : R2 := fun x y H Q => ∃ d e, Dt K H x d ∧ Dt K H y e ∧ eqOkL d e = true ∧ eqOkL e d = true ∧ Q (.bl (PyData.eqv d e)) H
def rNeT (K : PySem.W.Frag) : R2 := fun x y H Q => ∃ d e, Dt K H x d ∧ Dt K H y e ∧ eqOk d = true ∧ eqOk e = true ∧ Q (.bl (!PyData.eqv d e)) H
theorem op_eqT (hu : X.A.units + 64 < cLine) : OpR X (compareOp .Eq) (rEqT X.K) := by
  intro pins s σ H x y v u Q I rx ry h
  obtain ⟨d, e, hd, he, sd, se, q⟩ := h
  obtain ⟨as, r1⟩ := Dt.reads I d x v hd rx
  obtain ⟨bs, r2⟩ := Dt.reads I e y u he ry
  have two : ∀ xs ys, d = .list xs → e = .list ys → (xs = [] ∨ ys = []) → SeqAt.RcAt X.A s v u (PyData.eqv d e) := by
    rintro xs ys rfl rfl h0
    cases r1 with
    | @list l o vs n xs as₁ h1 h2 h3 h4 =>
      cases r2 with
      | @list l' o' vs' n' ys bs₁ k1 k2 k3 k4 =>
        have hl : s.heap.IsList l vs := ⟨_, h1, h2, _, h3⟩
        have hl' : s.heap.IsList l' vs' := ⟨_, k1, k2, _, k3⟩
        have n1 : vs.size = xs.length := by simpa using SeqAt.ReadsAll.length _ _ _ h4
        have n2 : vs'.size = ys.length := by simpa using SeqAt.ReadsAll.length _ _ _ k4
        show SeqAt.RcAt X.A s (.ref l) (.ref l') (PyData.eqvAll xs ys)
        by_cases hsz : vs.size = vs'.size
        · have e0 : xs = [] := by
            rcases h0 with z | z
            · exact z
            · rw [z] at n2
              exact List.eq_nil_of_length_eq_zero (n1.symm.trans (hsz.trans n2))
          have e1 : ys = [] := by
            rw [e0] at n1
            exact List.eq_nil_of_length_eq_zero (n2.symm.trans (hsz.symm.trans n1))
          subst e0 e1
          have z0 : vs.size = 0 := n1
          have := SeqAt.RcAt.lists (A := X.A) (e := fun _ => true) hl hl' hsz (by omega) fun j j1 j2 => absurd j1 (by omega)
          rw [z0] at this
          exact this
        · rw [SeqAt.eqvAll_other_length (by omega : xs.length ≠ ys.length)]
          exact SeqAt.RcAt.lists_lengths hl hl' (by simpa using hsz) (by omega)
  have str : ∀ a b, d = .str a → e = .str b → SeqAt.RcAt X.A s v u (PyData.eqv d e) := by
    rintro a b rfl rfl
    cases r1
    cases r2
    exact SeqAt.RcAt.str_str _ _ _ _
  have fin : SeqAt.RcAt X.A s v u (PyData.eqv d e) → wpAny (model X.prog X.w) X.A (compareOp .Eq v u) (fun z s' => ∃ w H', L2.Inv X pins σ H' s' ∧ RelV w z ∧ Q w H') X.xe s := fun rc => rc X.prog X.w _ _ ⟨.bl _, H, I, rfl, q⟩
  rcases eqOkL_or sd with sd | ⟨xs, h1, h2⟩ | ⟨xs, h1, h2⟩ | ⟨a, b, h1, h2⟩
  · rcases eqOkL_or se with se | ⟨xs, h1, h2⟩ | ⟨xs, h1, h2⟩ | ⟨a, b, h1, h2⟩
    · exact SeqAt.compareEq_shaped r1 r2 sd se hu ⟨.bl _, H, I, rfl, q⟩
    · exact fin (two _ _ h2 h1 (.inl rfl))
    · exact fin (two _ _ h2 h1 (.inr rfl))
    · exact fin (str _ _ h2 h1)
  · exact fin (two _ _ h1 h2 (.inr rfl))
  · exact fin (two _ _ h1 h2 (.inl rfl))
  · exact fin (str _ _ h1 h2)
theorem op_neT (hu : X.A.units + 64 < cLine) : OpR X (compareOp .NotEq) (rNeT X.K) := by
  intro pins s σ H x y v u Q I rx ry h
  obtain ⟨d, e, hd, he, sd, se, q⟩ := h
  obtain ⟨as, r1⟩ := Dt.reads I d x v hd rx
  obtain ⟨bs, r2⟩ := Dt.reads I e y u he ry
  exact SeqAt.compareNe_shaped r1 r2 sd se hu ⟨.bl _, H, I, rfl, q⟩
theorem ro_eq {K : PySem.W.Frag} : RO K (rEqT K) fEq := fun S H x y dx dy P e hx hy hf Q q => ⟨dx, dy, hx.up e, hy.up e, hf.1, hf.2.1, q _ _ S H (.refl e) (.bl _) hf.2.2⟩
theorem ro_ne {K : PySem.W.Frag} : RO K (rNeT K) fNe := fun S H x y dx dy P e hx hy hf Q q => ⟨dx, dy, hx.up e, hy.up e, hf.1, hf.2.1, q _ _ S H (.refl e) (.bl _) hf.2.2⟩
theorem ve_eq (hu : X.A.units + 64 < cLine) (ha : VE G X E a ta wa) (hb : VE G X E b tb wb) : VE G X E (.Compare a [.Eq] [b] pos) (tOp (rEqT G.K) ta tb) (w2 fEq wa wb) := ve_cmp (by rw [← ha.hK]; exact op_eqT hu) ro_eq ha hb (nomark _)
theorem ve_ne (hu : X.A.units + 64 < cLine) (ha : VE G X E a ta wa) (hb : VE G X E b tb wb) : VE G X E (.Compare a [.NotEq] [b] pos) (tOp (rNeT G.K) ta tb) (w2 fNe wa wb) := ve_cmp (by rw [← ha.hK]; exact op_neT hu) ro_ne ha hb (nomark _)
/-- an owned list that is compared stays owned -/
def wOwCmp (f : PyData → PyData → (PyData → Prop) → Prop) (i : Nat) (wb : WE) : WE := fun e P X => match e.sl[i]? with
  | some (.ow ds) => wb e (fun y e1 => e1.sl[i]? = some (.ow ds) ∧ f (.list ds) y fun z => P z e1) X
  | _ => False
/-- an operation that only looks -/
def RLook (K : PySem.W.Frag) (r : R2) (f : PyData → PyData → (PyData → Prop) → Prop) : Prop := ∀ H x y dx dy P, Dt K H x dx → Dt K H y dy → f dx dy P → ∀ Q : VK, (∀ z dz, (∀ S, Dt K S z dz) → P dz → Q z H) → r x y H Q
theorem rl_ne {K : PySem.W.Frag} : RLook K (rNeT K) fNe := fun H x y dx dy P hx hy hf Q q => ⟨dx, dy, hx, hy, hf.1, hf.2.1, q _ _ (fun _ => .bl _) hf.2.2⟩
theorem rl_eq {K : PySem.W.Frag} : RLook K (rEqT K) fEq := fun H x y dx dy P hx hy hf Q q => ⟨dx, dy, hx, hy, hf.1, hf.2.1, q _ _ (fun _ => .bl _) hf.2.2⟩
theorem re_ow {r : R2} {f : PyData → PyData → (PyData → Prop) → Prop} {i : Nat} (hr : RLook G.K r f) (hb : RE G E tb wb) : RE G E (tOp r (tVar i) tb) (wOwCmp f i wb) := fun W S H σ e P X hs hw hk Q q => by
  unfold wOwCmp at hw
  split at hw
  · rename_i ds hi
    obtain ⟨p, vs, h1, h2, h3, h4⟩ := hs.sl i _ hi
    refine ⟨_, h1, hb W S H σ e _ X hs hw hk _ fun y dy W2 S2 H2 e2 f2 s2 d2 hw2 => ?_⟩
    obtain ⟨hi2, hf⟩ := hw2
    obtain ⟨p', vs', k1, k2, k3, k4⟩ := s2.sl i _ hi2
    rw [h1] at k1
    cases k1
    exact hr H2 _ _ _ _ _ (.lst k3 (k4.up s2.gd.sh)) (d2.up s2.gd.sh) hf _ fun z dz hz hp => q z dz W2 S2 H2 e2 f2 s2 (hz S2) hp
  · exact hw.elim
theorem ve_neOw (hu : X.A.units + 64 < cLine) (i : Nat) {x : Str} {p1 : Pos} (hb : VE G X E b tb wb) (hN : X.N[i]? = some x := by rfl) (hv : Vis X.env.scope x := by first | exact Or.inl rfl | exact Or.inr (Or.inl rfl) | exact Or.inr (Or.inr rfl)) (hd : (x == ("__debug__" : Str)) = false := by decide)
    (hcd : (x == ("__classdict__" : Str)) = false := by decide) : VE G X E (.Compare (.Name x p1) [.NotEq] [b] pos) (tOp (rNeT G.K) (tVar i) tb) (wOwCmp fNe i wb) :=
  ⟨hb.hK, pe_cmpR (by rw [← hb.hK]; exact op_neT hu) (pe_var hN hv hd hcd) hb.pe (nomark _), re_ow rl_ne hb.re⟩
theorem ve_eqOw (hu : X.A.units + 64 < cLine) (i : Nat) {x : Str} {p1 : Pos} (hb : VE G X E b tb wb) (hN : X.N[i]? = some x := by rfl) (hv : Vis X.env.scope x := by first | exact Or.inl rfl | exact Or.inr (Or.inl rfl) | exact Or.inr (Or.inr rfl)) (hd : (x == ("__debug__" : Str)) = false := by decide)
    (hcd : (x == ("__classdict__" : Str)) = false := by decide) : VE G X E (.Compare (.Name x p1) [.Eq] [b] pos) (tOp (rEqT G.K) (tVar i) tb) (wOwCmp fEq i wb) :=
  ⟨hb.hK, pe_cmpR (by rw [← hb.hK]; exact op_eqT hu) (pe_var hN hv hd hcd) hb.pe (nomark _), re_ow rl_eq hb.re⟩

/-! ### is None, is a bool -/
def isNone : PyData → Bool
  | .none => true
  | _ => false
def fIsN : PyData → PyData → (PyData → Prop) → Prop
  | d, .none, P => P (.bool (isNone d))
  | _, _, _ => False
def fNotN : PyData → PyData → (PyData → Prop) → Prop
  | d, .none, P => P (.bool (!isNone d))
  | _, _, _ => False
theorem dt_isN {K : PySem.W.Frag} {S : Hp} {v : V} {d : PyData} (h : Dt K S v d) : decide (v = V.non) = isNone d := by
  cases h <;> first | rfl | (exact decide_eq_false (fun z => by cases z))
theorem ve_isN (ha : VE G X E a ta wa) (hb : VE G X E b tb wb) : VE G X E (.Compare a [.Is] [b] pos) (tOp (fun x y H Q => y = .non ∧ Q (.bl (decide (x = .non))) H) ta tb) (w2 fIsN wa wb) := ve_cmp op_isN (fun S H x y dx dy P e hx hy hf Q q => by
  unfold fIsN at hf
  split at hf
  · cases hy
    refine ⟨rfl, q _ _ S H (.refl e) (.bl _) ?_⟩
    rw [dt_isN hx]; exact hf
  · exact hf.elim) ha hb (nomark _)
theorem ve_notN (ha : VE G X E a ta wa) (hb : VE G X E b tb wb) : VE G X E (.Compare a [.IsNot] [b] pos) (tOp (fun x y H Q => y = .non ∧ Q (.bl (!decide (x = .non))) H) ta tb) (w2 fNotN wa wb) := ve_cmp op_notN (fun S H x y dx dy P e hx hy hf Q q => by
  unfold fNotN at hf
  split at hf
  · cases hy
    refine ⟨rfl, q _ _ S H (.refl e) (.bl _) ?_⟩
    rw [dt_isN hx]; exact hf
  · exact hf.elim) ha hb (nomark _)
def fIsB : PyData → PyData → (PyData → Prop) → Prop
  | .bool x, .bool y, P => P (.bool (decide (x = y)))
  | _, _, _ => False
theorem ve_isB (ha : VE G X E a ta wa) (hb : VE G X E b tb wb) : VE G X E (.Compare a [.Is] [b] pos) (tOp (rIsB) ta tb) (w2 fIsB wa wb) := ve_cmp op_isBl (fun S H x y dx dy P e hx hy hf Q q => by
  unfold fIsB at hf
  split at hf
  · cases hx; cases hy
    exact ⟨_, _, rfl, rfl, q _ _ S H (.refl e) (.bl _) hf⟩
  · exact hf.elim) ha hb (nomark _)
end
end VL

end
section
set_option Elab.async false
set_option linter.all false
set_option maxRecDepth 100000
set_option maxHeartbeats 2000000
namespace VL
open PySem PySem.Spec PyProof.Rows L2

/-! ### tests -/
def wB (we : WE) : WT := fun e P X => we e (fun d e1 => match d with | .bool b => P b e1 | _ => False) X
def wNot (wt : WT) : WT := fun e P X => wt e (fun b e1 => P (!b) e1) X
/-- the second part is asked only where the first leaves it open -/
def wAnd (wt wu : WT) : WT := fun e P X => wt e (fun b e1 => (b = true → wu e1 P X) ∧ (b = false → P false e1)) X
def wOr (wt wu : WT) : WT := fun e P X => wt e (fun b e1 => (b = true → P true e1) ∧ (b = false → wu e1 P X)) X
def wAndV (wa wb : WE) : WE := fun e P X => wa e (fun d e1 => match d with | .bool b => (b = true → wb e1 P X) ∧ (b = false → P (.bool false) e1) | _ => False) X
def wOrV (wa wb : WE) : WE := fun e P X => wa e (fun d e1 => match d with | .bool b => (b = true → P (.bool true) e1) ∧ (b = false → wb e1 P X) | _ => False) X
def wNotV (wa : WE) : WE := fun e P X => wa e (fun d e1 => match d with | .bool b => P (.bool (!b)) e1 | _ => False) X
def wIfE (wt : WT) (wa wb : WE) : WE := fun e P X => wt e (fun b e1 => (b = true → wa e1 P X) ∧ (b = false → wb e1 P X)) X
structure VW (G : Gx) (X : Cx) (E : XK) (e : Expr) (tt : TT) (wt : WT) : Prop where
  hK : X.K = G.K
  pw : PW X e tt
  rt : RT G E tt wt
section
variable {G : Gx} {X : Cx} {E : XK} {pos : Pos} {a b c : Expr} {ta tb tc : TE} {wa wb wc : WE} {tA tB' : TT} {wA wB' : WT} {rest : List Expr}
theorem rt_B (ha : RE G E ta wa) : RT G E (tB ta) (wB wa) := fun W S H σ e P X hs hw hk Q q => ha W S H σ e _ X hs hw hk _ fun v d W1 S1 H1 e1 f1 s1 d1 hp => by
  split at hp
  · cases d1; exact ⟨_, rfl, q _ W1 S1 H1 e1 f1 s1 hp⟩
  · exact hp.elim
theorem rt_T (ha : RE G E ta wa) : RT G E (tTest ta) (wB wa) := rt_B ha
theorem rt_not (ha : RT G E tA wA) : RT G E (tNot tA) (wNot wA) := fun W S H σ e P X hs hw hk Q q => ha W S H σ e _ X hs hw hk _ fun b W1 S1 H1 e1 f1 s1 hp => q _ W1 S1 H1 e1 f1 s1 hp
theorem rt_and (ha : RT G E tA wA) (hb : RT G E tB' wB') : RT G E (tAnd tA tB') (wAnd wA wB') := fun W S H σ e P X hs hw hk Q q => ha W S H σ e _ X hs hw hk _ fun b W1 S1 H1 e1 f1 s1 hp => by
  cases b with
  | true => exact hb W1 S1 H1 σ e1 P X s1 (hp.1 rfl) (hk.next f1) Q fun b W2 S2 H2 e2 f2 s2 h2 => q b W2 S2 H2 e2 (f1.trans f2) s2 h2
  | false => exact q false W1 S1 H1 e1 f1 s1 (hp.2 rfl)
theorem rt_or (ha : RT G E tA wA) (hb : RT G E tB' wB') : RT G E (tOr tA tB') (wOr wA wB') := fun W S H σ e P X hs hw hk Q q => ha W S H σ e _ X hs hw hk _ fun b W1 S1 H1 e1 f1 s1 hp => by
  cases b with
  | false => exact hb W1 S1 H1 σ e1 P X s1 (hp.2 rfl) (hk.next f1) Q fun b W2 S2 H2 e2 f2 s2 h2 => q b W2 S2 H2 e2 (f1.trans f2) s2 h2
  | true => exact q true W1 S1 H1 e1 f1 s1 (hp.1 rfl)
theorem vt_v (ha : VE G X E a ta wa) (he : ∀ whole, isTrue a X.env whole = (do let v ← whole; standAt a.pos; holding [v] (truthy v)) := by intro _; rfl) : VT G X E a (tB ta) (wB wa) := ⟨ha.hK, pt_val ha.pe he, rt_B ha.re⟩
theorem vt_not (ha : VT G X E a tA wA) : VT G X E (.UnaryOp .Not a pos) (tNot tA) (wNot wA) := ⟨ha.hK, pt_not ha.pt, rt_not ha.rt⟩
theorem vw_and1 (ha : VT G X E a tA wA) : VW G X E (.BoolOp .And [a] pos) tA wA := ⟨ha.hK, pw_and1 ha.pt, ha.rt⟩
theorem vw_or1 (ha : VT G X E a tA wA) : VW G X E (.BoolOp .Or [a] pos) tA wA := ⟨ha.hK, pw_or1 ha.pt, ha.rt⟩
theorem vw_and (ha : VT G X E a tA wA) (hb : VW G X E (.BoolOp .And (b :: rest) pos) tB' wB') : VW G X E (.BoolOp .And (a :: b :: rest) pos) (tAnd tA tB') (wAnd wA wB') := ⟨ha.hK, pw_and ha.pt hb.pw, rt_and ha.rt hb.rt⟩
theorem vw_or (ha : VT G X E a tA wA) (hb : VW G X E (.BoolOp .Or (b :: rest) pos) tB' wB') : VW G X E (.BoolOp .Or (a :: b :: rest) pos) (tOr tA tB') (wOr wA wB') := ⟨ha.hK, pw_or ha.pt hb.pw, rt_or ha.rt hb.rt⟩
theorem VW.vt (h : VW G X E a tA wA) : VT G X E a tA wA := ⟨h.hK, h.pw.pt, h.rt⟩
/-! as values -/
theorem ve_one {op} (h : VE G X E a ta wa) : VE G X E (.BoolOp op [a] pos) ta wa := ⟨h.hK, pe_one h.pe, h.re⟩
theorem ve_and (ha : VE G X E a ta wa) (hb : VE G X E (.BoolOp .And (b :: rest) pos) tb wb) : VE G X E (.BoolOp .And (a :: b :: rest) pos) (tAndV ta tb) (wAndV wa wb) := ⟨ha.hK, pe_and ha.pe hb.pe,
  fun W S H σ e P X hs hw hk Q q => ha.re W S H σ e _ X hs hw hk _ fun v d W1 S1 H1 e1 f1 s1 d1 hp => by
    split at hp
    · rename_i b
      cases d1
      refine ⟨b, rfl, ?_⟩
      cases b with
      | true => exact hb.re W1 S1 H1 σ e1 P X s1 (hp.1 rfl) (hk.next f1) Q fun v d W2 S2 H2 e2 f2 s2 d2 h2 => q v d W2 S2 H2 e2 (f1.trans f2) s2 d2 h2
      | false => exact q _ _ W1 S1 H1 e1 f1 s1 (.bl false) (hp.2 rfl)
    · exact hp.elim⟩
theorem ve_or (ha : VE G X E a ta wa) (hb : VE G X E (.BoolOp .Or (b :: rest) pos) tb wb) : VE G X E (.BoolOp .Or (a :: b :: rest) pos) (tOrV ta tb) (wOrV wa wb) := ⟨ha.hK, pe_or ha.pe hb.pe,
  fun W S H σ e P X hs hw hk Q q => ha.re W S H σ e _ X hs hw hk _ fun v d W1 S1 H1 e1 f1 s1 d1 hp => by
    split at hp
    · rename_i b
      cases d1
      refine ⟨b, rfl, ?_⟩
      cases b with
      | false => exact hb.re W1 S1 H1 σ e1 P X s1 (hp.2 rfl) (hk.next f1) Q fun v d W2 S2 H2 e2 f2 s2 d2 h2 => q v d W2 S2 H2 e2 (f1.trans f2) s2 d2 h2
      | true => exact q _ _ W1 S1 H1 e1 f1 s1 (.bl true) (hp.1 rfl)
    · exact hp.elim⟩
theorem ve_not (ha : VE G X E a ta wa) : VE G X E (.UnaryOp .Not a pos) (tNotV ta) (wNotV wa) := ⟨ha.hK, pe_not ha.pe,
  fun W S H σ e P X hs hw hk Q q => ha.re W S H σ e _ X hs hw hk _ fun v d W1 S1 H1 e1 f1 s1 d1 hp => by
    split at hp
    · cases d1; exact ⟨_, rfl, q _ _ W1 S1 H1 e1 f1 s1 (.bl _) hp⟩
    · exact hp.elim⟩
theorem ve_if (hc : VT G X E c tA wA) (ha : VE G X E a ta wa) (hb : VE G X E b tb wb) : VE G X E (.IfExp c a b pos) (tIf tA ta tb) (wIfE wA wa wb) := ⟨ha.hK, pe_ifExp hc.pt ha.pe hb.pe,
  fun W S H σ e P X hs hw hk Q q => hc.rt W S H σ e _ X hs hw hk _ fun d W1 S1 H1 e1 f1 s1 hp => by
    cases d with
    | true => exact ha.re W1 S1 H1 σ e1 P X s1 (hp.1 rfl) (hk.next f1) Q fun v d W2 S2 H2 e2 f2 s2 d2 h2 => q v d W2 S2 H2 e2 (f1.trans f2) s2 d2 h2
    | false => exact hb.re W1 S1 H1 σ e1 P X s1 (hp.2 rfl) (hk.next f1) Q fun v d W2 S2 H2 e2 f2 s2 d2 h2 => q v d W2 S2 H2 e2 (f1.trans f2) s2 d2 h2⟩
/-! comparisons as tests -/
structure CmpV (G : Gx) (X : Cx) (op : CmpOp) (r : R2) (f : PyData → PyData → (PyData → Prop) → Prop) : Prop where
  op : OpR X (compareOp op) r
  ro : RO G.K r f
theorem ve_c {op : CmpOp} {r : R2} {f : PyData → PyData → (PyData → Prop) → Prop} (cv : CmpV G X op r f) (ha : VE G X E a ta wa) (hb : VE G X E b tb wb) (hm : behindInMarks op b = false) : VE G X E (.Compare a [op] [b] pos) (tOp r ta tb) (w2 f wa wb) := ve_cmp cv.op cv.ro ha hb hm
theorem vt_c {op : CmpOp} {r : R2} {f : PyData → PyData → (PyData → Prop) → Prop} (cv : CmpV G X op r f) (ha : VE G X E a ta wa) (hb : VE G X E b tb wb) (hm : behindInMarks op b = false) : VT G X E (.Compare a [op] [b] pos) (tTest (tOp r ta tb)) (wB (w2 f wa wb)) :=
  ⟨ha.hK, pt_cmpR cv.op ha.pe hb.pe hm, rt_T (re_2 cv.ro ha.re hb.re)⟩
theorem cv_lt : CmpV G X .Lt (rI0 fun i j => .bl (decide (i < j))) (fIB fun i j => decide (i < j)) := ⟨op_lt, ro_IB⟩
theorem cv_le : CmpV G X .LtE (rI0 fun i j => .bl (decide (i ≤ j))) (fIB fun i j => decide (i ≤ j)) := ⟨op_le, ro_IB⟩
theorem cv_gt : CmpV G X .Gt (rI0 fun i j => .bl (decide (j < i))) (fIB fun i j => decide (j < i)) := ⟨op_gt, ro_IB⟩
theorem cv_ge : CmpV G X .GtE (rI0 fun i j => .bl (decide (j ≤ i))) (fIB fun i j => decide (j ≤ i)) := ⟨op_ge, ro_IB⟩
theorem cv_eq (hu : X.A.units + 64 < cLine) (hK : X.K = G.K := by rfl) : CmpV G X .Eq (rEqT G.K) fEq := ⟨by rw [← hK]; exact op_eqT hu, ro_eq⟩
theorem cv_ne (hu : X.A.units + 64 < cLine) (hK : X.K = G.K := by rfl) : CmpV G X .NotEq (rNeT G.K) fNe := ⟨by rw [← hK]; exact op_neT hu, ro_ne⟩
theorem cv_isN : CmpV G X .Is (fun x y H Q => y = .non ∧ Q (.bl (decide (x = .non))) H) fIsN := ⟨op_isN, fun S H x y dx dy P e hx hy hf Q q => by
  unfold fIsN at hf
  split at hf
  · cases hy
    refine ⟨rfl, q _ _ S H (.refl e) (.bl _) ?_⟩
    rw [dt_isN hx]; exact hf
  · exact hf.elim⟩
theorem cv_notN : CmpV G X .IsNot (fun x y H Q => y = .non ∧ Q (.bl (!decide (x = .non))) H) fNotN := ⟨op_notN, fun S H x y dx dy P e hx hy hf Q q => by
  unfold fNotN at hf
  split at hf
  · cases hy
    refine ⟨rfl, q _ _ S H (.refl e) (.bl _) ?_⟩
    rw [dt_isN hx]; exact hf
  · exact hf.elim⟩
theorem cv_isB : CmpV G X .Is rIsB fIsB := ⟨op_isBl, fun S H x y dx dy P e hx hy hf Q q => by
  unfold fIsB at hf
  split at hf
  · cases hx; cases hy
    exact ⟨_, _, rfl, rfl, q _ _ S H (.refl e) (.bl _) hf⟩
  · exact hf.elim⟩
/-! in, not in -/
def flatD : PyData → Bool
  | .none => true | .bool _ => true | .int _ => true | .str _ => true | _ => false
theorem flat_of {K : PySem.W.Frag} {S : Hp} {v : V} {d : PyData} (h : Dt K S v d) (f : flatD d = true) : flatV v = true := by
  cases h <;> first | rfl | simp [flatD] at f
theorem eqv_of {K : PySem.W.Frag} {S : Hp} {v u : V} {d e : PyData} (h : Dt K S v d) (h' : Dt K S u e) (f : flatD d = true) (f' : flatD e = true) : eqV v u = PyData.eqv d e := by
  cases h <;> (try (simp [flatD] at f; done)) <;> cases h' <;> (try (simp [flatD] at f'; done)) <;> first | rfl | simp [eqV, PyData.eqv]
def inD (x : PyData) (ys : List PyData) : Bool := ys.any fun y => PyData.eqv y x
theorem inV_of {K : PySem.W.Frag} {S : Hp} {v : V} {d : PyData} (h : Dt K S v d) (f : flatD d = true) : ∀ {us : List V} {es : List PyData}, DtA K S us es → es.all flatD = true → inV v us = inD d es ∧ us.all flatV = true
  | _, _, .nil, _ => ⟨rfl, rfl⟩
  | _, _, .cons a t, g => by
    rw [List.all_cons, Bool.and_eq_true] at g
    obtain ⟨i1, i2⟩ := inV_of h f t g.2
    refine ⟨?_, by rw [List.all_cons, i2, flat_of a g.1]; rfl⟩
    show (eqV _ v || inV v _) = (PyData.eqv _ d || inD d _)
    rw [i1, eqv_of a h g.1 f]
def fIn (neg : Bool) : PyData → PyData → (PyData → Prop) → Prop
  | x, .list ys, P => flatD x = true ∧ ys.all flatD = true ∧ P (.bool (if neg then !inD x ys else inD x ys))
  | x, .tuple ys, P => flatD x = true ∧ ys.all flatD = true ∧ P (.bool (if neg then !inD x ys else inD x ys))
  | _, _, _ => False
theorem ro_in {K : PySem.W.Frag} {neg : Bool} : RO K (rIn K neg) (fIn neg) := by
  intro S H x y dx dy P e hx hy hf Q q
  unfold fIn at hf
  split at hf
  · obtain ⟨b, ys, rfl, hb, hys⟩ := dt_sl hy
    obtain ⟨i1, i2⟩ := inV_of hx hf.1 hys hf.2.1
    refine ⟨b, ys, rfl, .inl (.inl (.inl (e _ _ hb))), flat_of hx hf.1, i2, ?_⟩
    rw [i1]
    exact q _ _ S H (.refl e) (.bl _) hf.2.2
  · obtain ⟨b, ys, rfl, hb, hys⟩ := dt_st hy
    obtain ⟨i1, i2⟩ := inV_of hx hf.1 hys hf.2.1
    refine ⟨b, ys, rfl, .inr (e.st hb), flat_of hx hf.1, i2, ?_⟩
    rw [i1]
    exact q _ _ S H (.refl e) (.bl _) hf.2.2
  · exact hf.elim
theorem cv_in (hK : X.K = G.K := by rfl) : CmpV G X .In (rIn G.K false) (fIn false) := ⟨by rw [← hK]; exact op_in_seq, ro_in⟩
theorem cv_notIn (hK : X.K = G.K := by rfl) : CmpV G X .NotIn (rIn G.K true) (fIn true) := ⟨by rw [← hK]; exact op_notIn_seq, ro_in⟩
/-! a chain of two comparisons -/
def wChain (f f' : PyData → PyData → (PyData → Prop) → Prop) (wa wb wc : WE) : WE := fun e P X => wa e (fun x e1 => wb e1 (fun y e2 => f x y fun z => match z with
  | .bool k => (k = true → wc e2 (fun w e3 => f' y w fun z2 => P z2 e3) X) ∧ (k = false → P (.bool false) e2)
  | _ => False) X) X
theorem re_chain {r r' : R2} {f f' : PyData → PyData → (PyData → Prop) → Prop} (hr : RO G.K r f) (hr' : RO G.K r' f') (ha : RE G E ta wa) (hb : RE G E tb wb) (hc : RE G E tc wc) : RE G E (tChain r r' ta tb tc) (wChain f f' wa wb wc) := fun W S H σ e P X hs hw hk Q q =>
  ha W S H σ e _ X hs hw hk _ fun x dx W1 S1 H1 e1 f1 s1 d1 hw1 => hb W1 S1 H1 σ e1 _ X s1 hw1 (hk.next f1) _ fun y dy W2 S2 H2 e2 f2 s2 d2 hw2 =>
    hr S2 H2 x y dx dy _ s2.gd.sh (d1.up f2.ss) d2 hw2 _ fun z dz S3 H3 nw dz' hp => by
      split at hp
      · rename_i k
        cases dz'
        refine ⟨k, rfl, ?_⟩
        have s3 := s2.new nw
        have f3 := (f1.trans f2).trans nw.fw
        cases k with
        | true => exact hc W2 S3 H3 σ e2 _ X s3 (hp.1 rfl) (hk.next f3) _ fun w dw W4 S4 H4 e4 f4 s4 d4 hw4 => hr' S4 H4 y w dy dw _ s4.gd.sh ((d2.up nw.ss).up f4.ss) d4 hw4 _ fun z2 dz2 S5 H5 nw5 dz5 hp5 => q z2 dz2 W4 S5 H5 e4 ((f3.trans f4).trans nw5.fw) (s4.new nw5) dz5 hp5
        | false => exact q _ _ W2 S3 H3 e2 f3 s3 (.bl false) (hp.2 rfl)
      · exact hp.elim
theorem ve_ch {op op' : CmpOp} {r r' : R2} {f f' : PyData → PyData → (PyData → Prop) → Prop} (cv : CmpV G X op r f) (cv' : CmpV G X op' r' f') (ha : VE G X E a ta wa) (hb : VE G X E b tb wb) (hc : VE G X E c tc wc) (hm : lastMarks [op, op'] [b, c] = false := by with_unfolding_all rfl) :
    VE G X E (.Compare a [op, op'] [b, c] pos) (tChain r r' ta tb tc) (wChain f f' wa wb wc) := ⟨ha.hK, pe_chain cv.op cv'.op ha.pe hb.pe hc.pe hm, re_chain cv.ro cv'.ro ha.re hb.re hc.re⟩
theorem vt_ch {op op' : CmpOp} {r r' : R2} {f f' : PyData → PyData → (PyData → Prop) → Prop} (cv : CmpV G X op r f) (cv' : CmpV G X op' r' f') (ha : VE G X E a ta wa) (hb : VE G X E b tb wb) (hc : VE G X E c tc wc) (hm : lastMarks [op, op'] [b, c] = false := by with_unfolding_all rfl) :
    VT G X E (.Compare a [op, op'] [b, c] pos) (tTest (tChain r r' ta tb tc)) (wB (wChain f f' wa wb wc)) := ⟨ha.hK, pt_chain cv.op cv'.op ha.pe hb.pe hc.pe hm, rt_T (re_chain cv.ro cv'.ro ha.re hb.re hc.re)⟩
theorem vt_neOw (hu : X.A.units + 64 < cLine) (i : Nat) {x : Str} {p1 : Pos} (hb : VE G X E b tb wb) (hN : X.N[i]? = some x := by rfl) (hv : Vis X.env.scope x := by first | exact Or.inl rfl | exact Or.inr (Or.inl rfl) | exact Or.inr (Or.inr rfl)) (hd : (x == ("__debug__" : Str)) = false := by decide)
    (hcd : (x == ("__classdict__" : Str)) = false := by decide) : VT G X E (.Compare (.Name x p1) [.NotEq] [b] pos) (tTest (tOp (rNeT G.K) (tVar i) tb)) (wB (wOwCmp fNe i wb)) :=
  ⟨hb.hK, pt_cmpR (by rw [← hb.hK]; exact op_neT hu) (pe_var hN hv hd hcd) hb.pe (nomark _), rt_T (re_ow rl_ne hb.re)⟩
end

/-! ### several at once: displays, the arguments of built-ins -/
abbrev WA := En → (List PyData → En → Prop) → XP → Prop
def RA (G : Gx) (E : XK) (n : Nat) (ta : TA) (wa : WA) : Prop := ∀ W S H σ e P X, Sim G W S H σ e → wa e P X → KP G E W S H X → ∀ Q : List V → Hp → Prop,
  (∀ vs ds W' S' H' e', Fw W S H W' S' H' → Sim G W' S' H' σ e' → DtA G.K S' vs ds → ds.length = n → P ds e' → Q vs H') → ta σ H Q
structure VA (G : Gx) (X : Cx) (E : XK) (es : List Expr) (n : Nat) (ta : TA) (wa : WA) : Prop where
  hK : X.K = G.K
  pa : PA X es ta
  ra : RA G E n ta wa
def wNil : WA := fun e P _ => P [] e
def wCons (we : WE) (wr : WA) : WA := fun e P X => we e (fun d e1 => wr e1 (fun ds e2 => P (d :: ds) e2) X) X
def wTup (wa : WA) : WE := fun e P X => wa e (fun ds e1 => P (.tuple ds) e1) X
def wLst (wa : WA) : WE := fun e P X => wa e (fun ds e1 => P (.list ds) e1) X
section
variable {G : Gx} {X : Cx} {E : XK} {pos : Pos} {a b c : Expr} {ta tb tc : TE} {wa wb wc : WE} {es : List Expr} {n : Nat} {tr : TA} {wr : WA}
theorem va_nil (hK : X.K = G.K := by rfl) : VA G X E [] 0 tNil wNil := ⟨hK, pa_nil, fun W S H σ e P X hs hw _ Q q => q [] [] W S H e .refl hs .nil rfl hw⟩
theorem va_cons (ha : VE G X E a ta wa) (hr : VA G X E es n tr wr) (hs : starEach (a :: es) X.env = (false, eval a X.env) :: starEach es X.env := by rfl) : VA G X E (a :: es) (n + 1) (tCons ta tr) (wCons wa wr) := ⟨ha.hK, pa_cons ha.pe hr.pa hs,
  fun W S H σ e P X hs hw hk Q q => ha.re W S H σ e _ X hs hw hk _ fun v d W1 S1 H1 e1 f1 s1 d1 h1 => hr.ra W1 S1 H1 σ e1 _ X s1 h1 (hk.next f1) _ fun vs ds W2 S2 H2 e2 f2 s2 d2 l2 h2 =>
    q (v :: vs) (d :: ds) W2 S2 H2 e2 (f1.trans f2) s2 (.cons (d1.up f2.ss) d2) (by rw [List.length_cons, l2]) h2⟩
theorem small_line {n : Nat} (h : n ≤ 1000) : n ≤ sizeLine := Nat.le_of_lt (small1000 h)
theorem ve_tup {k} (ha : VA G X E es n tr wr) (hn : n ≤ 1000 := by decide) : VE G X E (.Tuple es k pos) (tTup tr) (wTup wr) := ⟨ha.hK, pe_tup ha.pa,
  fun W S H σ e P X hs hw hk Q q => ha.ra W S H σ e _ X hs hw hk _ fun vs ds W1 S1 H1 e1 f1 s1 d1 l1 h1 => ⟨by rw [d1.len, l1]; exact small_line hn, fun p hp => by
    have nw := Nw.laid (o := .tup vs) s1.gd.sh hp
    exact q _ _ W1 _ _ e1 (f1.trans nw.fw) (s1.new nw) (.tup (.inl (.inl upd_same)) (d1.up nw.ss)) h1⟩⟩
theorem ve_lst (ha : VA G X E es n tr wr) (hn : n ≤ 1000 := by decide) : VE G X E (.List es pos) (tLst tr) (wLst wr) := ⟨ha.hK, pe_lst ha.pa,
  fun W S H σ e P X hs hw hk Q q => ha.ra W S H σ e _ X hs hw hk _ fun vs ds W1 S1 H1 e1 f1 s1 d1 l1 h1 => ⟨by rw [d1.len, l1]; exact small_line hn, fun p hp => by
    have nw := Nw.laid (o := .lst vs) s1.gd.sh hp
    exact q _ _ W1 _ _ e1 (f1.trans nw.fw) (s1.new nw) (.lst upd_same (d1.up nw.ss)) h1⟩⟩

/-! ### places and slices -/
def fIx : PyData → PyData → (PyData → Prop) → Prop
  | .list ds, .int i, P => ∃ d, atI ds i = some d ∧ P d
  | .tuple ds, .int i, P => ∃ d, atI ds i = some d ∧ P d
  | .str z, .int i, P => ∃ c, z.length ≤ sizeLine ∧ atI z.cps.toList i = some c ∧ P (.str ⟨#[c]⟩)
  | _, _, _ => False
def rIxD (K : PySem.W.Frag) : R2 := fun x y H Q => rIxL K x y H Q ∨ (rIxT K x y H Q ∨ rIxS x y H Q)
theorem ix_D : IxR X (rIxD X.K) := ix_list.or (ix_tup.or ix_str)
theorem dta_at {K : PySem.W.Frag} {S : Hp} {vs : List V} {ds : List PyData} {i : Int} {d : PyData} (h : DtA K S vs ds) (e : atI ds i = some d) : ∃ v, atI vs i = some v ∧ Dt K S v d := by
  unfold atI at e ⊢
  rw [h.len]
  cases q : ixN ds.length i with
  | none => rw [q] at e; cases e
  | some j =>
    rw [q] at e
    exact h.get e
theorem ro_ix {K : PySem.W.Frag} : RO K (rIxD K) fIx := by
  intro S H x y dx dy P e hx hy hf Q q
  unfold fIx at hf
  split at hf
  · obtain ⟨a, xs, rfl, ha, hxs⟩ := dt_sl hx
    cases hy
    obtain ⟨d, h1, h2⟩ := hf
    obtain ⟨v, h3, h4⟩ := dta_at hxs h1
    exact .inl ⟨a, xs, _, v, rfl, rfl, .inl (.inl (e _ _ ha)), h3, q v d S H (.refl e) h4 h2⟩
  · obtain ⟨a, xs, rfl, ha, hxs⟩ := dt_st hx
    cases hy
    obtain ⟨d, h1, h2⟩ := hf
    obtain ⟨v, h3, h4⟩ := dta_at hxs h1
    exact .inr (.inl ⟨a, xs, _, v, rfl, rfl, e.st ha, h3, q v d S H (.refl e) h4 h2⟩)
  · cases hx; cases hy
    obtain ⟨c, h0, h1, h2⟩ := hf
    exact .inr (.inr ⟨_, _, c, rfl, rfl, h0, h1, q _ _ S H (.refl e) (.str _) h2⟩)
  · exact hf.elim
theorem ve_ix (ha : VE G X E a ta wa) (hb : VE G X E b tb wb) (hs : PlainIx b := by intro _ _; rfl) : VE G X E (.Subscript a b pos) (tOp (rIxD G.K) ta tb) (w2 fIx wa wb) := ⟨ha.hK, pe_ix (by rw [← ha.hK]; exact ix_D) ha.pe hb.pe hs, re_2 ro_ix ha.re hb.re⟩
/-- xs[e] of an owned list -/
def wOwIx (i : Nat) (wb : WE) : WE := fun e P X => match e.sl[i]? with
  | some (.ow ds) => wb e (fun y e1 => e1.sl[i]? = some (.ow ds) ∧ match y with
      | .int j => ∃ d, atI ds j = some d ∧ P d e1
      | _ => False) X
  | _ => False
theorem ve_ixOw (i : Nat) {x : Str} {p1 : Pos} (hb : VE G X E b tb wb) (hs : PlainIx b := by intro _ _; rfl) (hN : X.N[i]? = some x := by rfl) (hv : Vis X.env.scope x := by first | exact Or.inl rfl | exact Or.inr (Or.inl rfl) | exact Or.inr (Or.inr rfl)) (hd : (x == ("__debug__" : Str)) = false := by decide)
    (hcd : (x == ("__classdict__" : Str)) = false := by decide) : VE G X E (.Subscript (.Name x p1) b pos) (tOp (rIxL G.K) (tVar i) tb) (wOwIx i wb) :=
  ⟨hb.hK, pe_ix (by rw [← hb.hK]; exact ix_list) (pe_var hN hv hd hcd) hb.pe hs, fun W S H σ e P X hs hw hk Q q => by
    unfold wOwIx at hw
    split at hw
    · rename_i ds hi
      obtain ⟨p, vs, h1, h2, h3, h4⟩ := hs.sl i _ hi
      refine ⟨_, h1, hb.re W S H σ e _ X hs hw hk _ fun y dy W2 S2 H2 e2 f2 s2 d2 hw2 => ?_⟩
      obtain ⟨hi2, hf⟩ := hw2
      obtain ⟨p', vs', k1, k2, k3, k4⟩ := s2.sl i _ hi2
      rw [h1] at k1
      cases k1
      split at hf
      · cases d2
        obtain ⟨d, hd1, hd2⟩ := hf
        obtain ⟨v, h5, h6⟩ := dta_at k4 hd1
        exact ⟨_, _, _, v, rfl, rfl, .inl (.inl k3), h5, q v d W2 S2 H2 e2 f2 s2 h6 hd2⟩
      · exact hf.elim
    · exact hw.elim⟩
abbrev WO := En → (Option Int → En → Prop) → XP → Prop
def RP (G : Gx) (E : XK) (to : TO) (wo : WO) : Prop := ∀ W S H σ e P X, Sim G W S H σ e → wo e P X → KP G E W S H X → ∀ Q : Option Int → Hp → Prop, (∀ o W' S' H' e', Fw W S H W' S' H' → Sim G W' S' H' σ e' → P o e' → Q o H') → to σ H Q
structure VO (G : Gx) (X : Cx) (E : XK) (e : Option Expr) (to : TO) (wo : WO) : Prop where
  po : PO X e to
  rp : RP G E to wo
def wNo : WO := fun e P _ => P none e
def wPart (we : WE) : WO := fun e P X => we e (fun d e1 => match d with | .int i => P (some i) e1 | _ => False) X
theorem vo_none : VO G X E none tNoPart wNo := ⟨po_none, fun W S H σ e P X hs hw _ Q q => q none W S H e .refl hs hw⟩
theorem vo_some (ha : VE G X E a ta wa) : VO G X E (some a) (tPart ta) (wPart wa) := ⟨po_some ha.pe, fun W S H σ e P X hs hw hk Q q => ha.re W S H σ e _ X hs hw hk _ fun v d W1 S1 H1 e1 f1 s1 d1 hp => by
  split at hp
  · cases d1; exact ⟨_, rfl, q _ W1 S1 H1 e1 f1 s1 hp⟩
  · exact hp.elim⟩
def cutA {α : Type} (xs : List α) (lo hi : Option Int) : List α := (xs.drop (HT.sIx xs.length 0 lo)).take (HT.sIx xs.length xs.length hi - HT.sIx xs.length 0 lo)
theorem dta_cut {K : PySem.W.Frag} {S : Hp} {vs : List V} {ds : List PyData} (h : DtA K S vs ds) (lo hi : Option Int) : DtA K S (cutV vs lo hi) (cutA ds lo hi) := by
  unfold cutV cutA
  rw [h.len]
  exact (h.drop _).take _
def fSl (d : PyData) (lo hi : Option Int) (P : PyData → Prop) : Prop := match d with
  | .list ds => P (.list (cutA ds lo hi))
  | .tuple ds => P (.tuple (cutA ds lo hi))
  | _ => False
def wSl (wa : WE) (wl wh : WO) : WE := fun e P X => wa e (fun d e1 => wl e1 (fun lo e2 => wh e2 (fun hi e3 => fSl d lo hi fun z => P z e3) X) X) X
def rSlD (K : PySem.W.Frag) : V → Option Int → Option Int → Hp → VK → Prop := fun x lo hi H Q => rSlL K x lo hi H Q ∨ rSlA K x lo hi H Q
theorem cut_all {α : Type} {xs : List α} {lo hi : Option Int} (h : HT.sIx xs.length 0 lo = 0 ∧ HT.sIx xs.length xs.length hi = xs.length) : cutA xs lo hi = xs := by
  unfold cutA
  rw [h.1, h.2, List.drop_zero, Nat.sub_zero, List.take_length]
theorem ve_sl {lo hi : Option Expr} {tl th : TO} {wl wh : WO} {p2 : Pos} (ha : VE G X E a ta wa) (hl : VO G X E lo tl wl) (hh : VO G X E hi th wh) : VE G X E (.Subscript a (.Slice lo hi none p2) pos) (tSl (rSlD G.K) ta tl th) (wSl wa wl wh) :=
  ⟨ha.hK, pe_slice (by rw [← ha.hK]; exact sl_list.or sl_tupA) ha.pe hl.po hh.po, fun W S H σ e P X hs hw hk Q q => ha.re W S H σ e _ X hs hw hk _ fun v d W1 S1 H1 e1 f1 s1 d1 h1 =>
    hl.rp W1 S1 H1 σ e1 _ X s1 h1 (hk.next f1) _ fun l W2 S2 H2 e2 f2 s2 h2 => hh.rp W2 S2 H2 σ e2 _ X s2 h2 (hk.next (f1.trans f2)) _ fun u W3 S3 H3 e3 f3 s3 h3 => by
      have d3 := (d1.up f2.ss).up f3.ss
      have ff := (f1.trans f2).trans f3
      unfold fSl at h3
      split at h3
      · obtain ⟨p, xs, rfl, hp, hxs⟩ := dt_sl d3
        refine .inl ⟨p, xs, rfl, .inl (.inl (s3.gd.sh _ _ hp)), fun r hr => ?_⟩
        have nw := Nw.laid (o := .lst (cutV xs l u)) s3.gd.sh hr
        exact q _ _ W3 _ _ e3 (ff.trans nw.fw) (s3.new nw) (.lst upd_same ((dta_cut hxs l u).up nw.ss)) h3
      · obtain ⟨p, xs, rfl, hp, hxs⟩ := dt_st d3
        refine .inr ⟨p, xs, rfl, s3.gd.sh.st hp, fun z => ?_, fun _ r hr => ?_⟩
        · rw [hxs.len] at z
          rw [cut_all z] at h3
          exact q _ _ W3 S3 H3 e3 ff s3 (.tup hp hxs) h3
        · have nw := Nw.laid (o := .tup (cutV xs l u)) s3.gd.sh hr
          exact q _ _ W3 _ _ e3 (ff.trans nw.fw) (s3.new nw) (.tup (.inl (.inl upd_same)) ((dta_cut hxs l u).up nw.ss)) h3
      · exact h3.elim⟩
/-- xs[::-1] -/
def fRev : PyData → (PyData → Prop) → Prop
  | .list ds, P => P (.list ds.reverse)
  | _, _ => False
theorem ve_rev {k : Nat} {p1 p2 p3 : Pos} (ha : VE G X E a ta wa) : VE G X E (.Subscript a (.Slice none none (some (.UnaryOp .USub (.Constant (.int 1) k p1) p2)) p3) pos) (tRevL G.K ta) (w1 fRev wa) :=
  ⟨ha.hK, by rw [← ha.hK]; exact pe_revL ha.pe, fun W S H σ e P X hs hw hk Q q => ha.re W S H σ e _ X hs hw hk _ fun v d W1 S1 H1 e1 f1 s1 d1 h1 => by
    unfold fRev at h1
    split at h1
    · obtain ⟨p, xs, rfl, hp, hxs⟩ := dt_sl d1
      refine ⟨p, xs, rfl, .inl (.inl (s1.gd.sh _ _ hp)), fun r hr => ?_⟩
      have nw := Nw.laid (o := .lst xs.reverse) s1.gd.sh hr
      exact q _ _ W1 _ _ e1 (f1.trans nw.fw) (s1.new nw) (.lst upd_same (hxs.rev.up nw.ss)) h1
    · exact h1.elim⟩

/-! ### built-ins, called with data -/
def RC (K : PySem.W.Frag) (r : List V → Hp → VK → Prop) (f : List PyData → (PyData → Prop) → Prop) : Prop := ∀ S H xs ds P, Ex S H → DtA K S xs ds → f ds P → ∀ Q : VK, (∀ z dz S' H', Nw S H S' H' → Dt K S' z dz → P dz → Q z H') → r xs H Q
def wCB (f : List PyData → (PyData → Prop) → Prop) (wa : WA) : WE := fun e P X => wa e (fun ds e1 => f ds fun z => P z e1) X
theorem re_cb {r : List V → Hp → VK → Prop} {f : List PyData → (PyData → Prop) → Prop} (hr : RC G.K r f) (ha : RA G E n tr wr) : RE G E (tCB r tr) (wCB f wr) := fun W S H σ e P X hs hw hk Q q =>
  ha W S H σ e _ X hs hw hk _ fun vs ds W1 S1 H1 e1 f1 s1 d1 _ h1 => hr S1 H1 vs ds _ s1.gd.sh d1 h1 _ fun z dz S3 H3 nw dz' hp => q z dz W1 S3 H3 e1 (f1.trans nw.fw) (s1.new nw) dz' hp
variable {x : Str} {p : Pos}
theorem ve_b {id : String} {r : List V → Hp → VK → Prop} {f : List PyData → (PyData → Prop) → Prop} (hc : CallR X (.builtin id) r) (hr : RC G.K r f) (hm : X.mg x = none) (ha : VA G X E (a :: es) n tr wr) (hg : Gl X x := by rfl) (hv : bootBuiltins x = some (.builtin id) := by decide +kernel) (hn : x ≠ "__name__" := by decide) (hdb : (x == ("__debug__" : Str)) = false := by decide)
    (he : starEach (a :: es) X.env = (false, eval a X.env) :: starEach es X.env := by rfl) (hpl : (backTo pos (starEach es X.env)).any (·.1) = false := by rfl) : VE G X E (.Call (.Name x p) (a :: es) [] pos) (tCB r tr) (wCB f wr) := ⟨ha.hK, pe_callB hc hg hm hv ha.pa hn hdb he hpl, re_cb hr ha.ra⟩
theorem ve_t {T : String} {r : List V → Hp → VK → Prop} {f : List PyData → (PyData → Prop) → Prop} (hc : CallR X (.type T) r) (hr : RC G.K r f) (hm : X.mg x = none) (ha : VA G X E (a :: es) n tr wr) (hg : Gl X x := by rfl) (hv : bootBuiltins x = some (.type T) := by decide +kernel) (hn : x ≠ "__name__" := by decide) (hdb : (x == ("__debug__" : Str)) = false := by decide)
    (he : starEach (a :: es) X.env = (false, eval a X.env) :: starEach es X.env := by rfl) (hpl : (backTo pos (starEach es X.env)).any (·.1) = false := by rfl) : VE G X E (.Call (.Name x p) (a :: es) [] pos) (tCB r tr) (wCB f wr) := ⟨ha.hK, pe_callTy hc hg hm hv ha.pa hn hdb he hpl, re_cb hr ha.ra⟩
end
end VL

end
section
set_option Elab.async false
set_option linter.all false
set_option maxRecDepth 100000
set_option maxHeartbeats 2000000
namespace VL
open PySem PySem.Spec PyProof.Rows L2

section
variable {K : PySem.W.Frag} {S H : Hp}
theorem rcs {xs : List V} {d : PyData} (h : DtA K S xs [d]) : ∃ v, xs = [v] ∧ Dt K S v d := by
  cases h with | cons a t => cases t; exact ⟨_, rfl, a⟩
theorem rcs2 {xs : List V} {d e : PyData} (h : DtA K S xs [d, e]) : ∃ v u, xs = [v, u] ∧ Dt K S v d ∧ Dt K S u e := by
  cases h with | cons a t => cases t with | cons b t => cases t; exact ⟨_, _, rfl, a, b⟩
end
/-! ### len, int, abs, max, min, sum, sorted, all, list, tuple -/
def fLen : List PyData → (PyData → Prop) → Prop
  | [.list ds], P => P (.int ds.length)
  | [.tuple ds], P => P (.int ds.length)
  | [.str z], P => z.length ≤ sizeLine ∧ P (.int z.length)
  | _, _ => False
def rLenD (K : PySem.W.Frag) : List V → Hp → VK → Prop := fun xs H Q => ∃ x n, xs = [x] ∧ LenV K x H n ∧ Q (.int n) H
theorem rc_len {K : PySem.W.Frag} : RC K (rLenD K) fLen := by
  intro S H xs ds P e hx hf Q q
  unfold fLen at hf
  split at hf
  · obtain ⟨v, rfl, h⟩ := rcs hx
    obtain ⟨a, ys, rfl, ha, hy⟩ := dt_sl h
    refine ⟨_, _, rfl, .inl ⟨ys, .inl (.inl (e _ _ ha)), rfl⟩, ?_⟩
    rw [hy.len]; exact q _ _ S H (.refl e) (.int _) hf
  · obtain ⟨v, rfl, h⟩ := rcs hx
    obtain ⟨a, ys, rfl, ha, hy⟩ := dt_st h
    refine ⟨_, _, rfl, .inr ⟨ys, e.st ha, rfl⟩, ?_⟩
    rw [hy.len]; exact q _ _ S H (.refl e) (.int _) hf
  · obtain ⟨v, rfl, h⟩ := rcs hx
    cases h
    exact ⟨_, _, rfl, ⟨hf.1, rfl⟩, q _ _ S H (.refl e) (.int _) hf.2⟩
  · exact hf.elim
def fInt : List PyData → (PyData → Prop) → Prop
  | [.int i], P => P (.int i)
  | [.bool b], P => P (.int (if b then 1 else 0))
  | _, _ => False
theorem rc_int {K : PySem.W.Frag} : RC K (fun xs H Q => (∃ i, xs = [.int i] ∧ Q (.int i) H) ∨ ∃ k, xs = [.bl k] ∧ Q (.int (if k then 1 else 0)) H) fInt := by
  intro S H xs ds P e hx hf Q q
  unfold fInt at hf
  split at hf
  · obtain ⟨v, rfl, h⟩ := rcs hx
    cases h; exact .inl ⟨_, rfl, q _ _ S H (.refl e) (.int _) hf⟩
  · obtain ⟨v, rfl, h⟩ := rcs hx
    cases h; exact .inr ⟨_, rfl, q _ _ S H (.refl e) (.int _) hf⟩
  · exact hf.elim
def fAbs : List PyData → (PyData → Prop) → Prop
  | [.int i], P => P (.int (if i < 0 then -i else i))
  | _, _ => False
theorem rc_abs {K : PySem.W.Frag} : RC K (fun xs H Q => ∃ i, xs = [.int i] ∧ Q (.int (if i < 0 then -i else i)) H) fAbs := by
  intro S H xs ds P e hx hf Q q
  unfold fAbs at hf
  split at hf
  · obtain ⟨v, rfl, h⟩ := rcs hx
    cases h; exact ⟨_, rfl, q _ _ S H (.refl e) (.int _) hf⟩
  · exact hf.elim
/-- max, min: of two ints; of a list of ints -/
def fMax : List PyData → (PyData → Prop) → Prop
  | [.int i, .int j], P => P (.int (if j > i then j else i))
  | [.list ds], P => ∃ ns : List Int, ds = ns.map PyData.int ∧ 0 < ns.length ∧ ∀ m, m ∈ ns → (∀ y, y ∈ ns → y ≤ m) → P (.int m)
  | _, _ => False
def fMin : List PyData → (PyData → Prop) → Prop
  | [.int i, .int j], P => P (.int (if j < i then j else i))
  | [.list ds], P => ∃ ns : List Int, ds = ns.map PyData.int ∧ 0 < ns.length ∧ ∀ m, m ∈ ns → (∀ y, y ∈ ns → m ≤ y) → P (.int m)
  | _, _ => False
def rMax2D : List V → Hp → VK → Prop := fun xs H Q => ∃ i j, xs = [.int i, .int j] ∧ Q (.int (if j > i then j else i)) H
def rMin2D : List V → Hp → VK → Prop := fun xs H Q => ∃ i j, xs = [.int i, .int j] ∧ Q (.int (if j < i then j else i)) H
theorem CallR.or' {X : Cx} {f : Value} {r r' : List V → Hp → VK → Prop} (h : CallR X f r) (h' : CallR X f r') : CallR X f (fun xs H Q => r xs H Q ∨ r' xs H Q) := fun pins s σ H xs us Q I rv hq => hq.elim (fun z => h pins s σ H xs us Q I rv z) fun z => h' pins s σ H xs us Q I rv z
theorem rc_max {K : PySem.W.Frag} : RC K (fun xs H Q => rMax2D xs H Q ∨ rMax K xs H Q) fMax := by
  intro S H xs ds P e hx hf Q q
  unfold fMax at hf
  split at hf
  · obtain ⟨v, u, rfl, h, h'⟩ := rcs2 hx
    cases h; cases h'; exact .inl ⟨_, _, rfl, q _ _ S H (.refl e) (.int _) hf⟩
  · obtain ⟨v, rfl, h⟩ := rcs hx
    obtain ⟨a, ys, rfl, ha, hy⟩ := dt_sl h
    obtain ⟨ns, rfl, hl, hp⟩ := hf
    rw [hy.ints_inv] at ha
    exact .inr ⟨a, ns, rfl, .inl (.inl (e _ _ ha)), hl, fun m h1 h2 => q _ _ S H (.refl e) (.int _) (hp m h1 h2)⟩
  · exact hf.elim
theorem rc_min {K : PySem.W.Frag} : RC K (fun xs H Q => rMin2D xs H Q ∨ rMin K xs H Q) fMin := by
  intro S H xs ds P e hx hf Q q
  unfold fMin at hf
  split at hf
  · obtain ⟨v, u, rfl, h, h'⟩ := rcs2 hx
    cases h; cases h'; exact .inl ⟨_, _, rfl, q _ _ S H (.refl e) (.int _) hf⟩
  · obtain ⟨v, rfl, h⟩ := rcs hx
    obtain ⟨a, ys, rfl, ha, hy⟩ := dt_sl h
    obtain ⟨ns, rfl, hl, hp⟩ := hf
    rw [hy.ints_inv] at ha
    exact .inr ⟨a, ns, rfl, .inl (.inl (e _ _ ha)), hl, fun m h1 h2 => q _ _ S H (.refl e) (.int _) (hp m h1 h2)⟩
  · exact hf.elim
def fSum : List PyData → (PyData → Prop) → Prop
  | [.list ds], P => ∃ ns : List Int, ds = ns.map PyData.int ∧ P (.int ns.sum)
  | _, _ => False
theorem rc_sum {K : PySem.W.Frag} : RC K (rSum K) fSum := by
  intro S H xs ds P e hx hf Q q
  unfold fSum at hf
  split at hf
  · obtain ⟨v, rfl, h⟩ := rcs hx
    obtain ⟨a, ys, rfl, ha, hy⟩ := dt_sl h
    obtain ⟨ns, rfl, hp⟩ := hf
    rw [hy.ints_inv] at ha
    exact ⟨a, ns, rfl, .inl (.inl (e _ _ ha)), q _ _ S H (.refl e) (.int _) hp⟩
  · exact hf.elim
def fSorted : List PyData → (PyData → Prop) → Prop
  | [.list ds], P => ∃ ns : List Int, ds = ns.map PyData.int ∧ ∀ ns' : List Int, ns'.Perm ns → ns'.Pairwise (· ≤ ·) → P (.list (ns'.map PyData.int))
  | _, _ => False
theorem rc_sorted {K : PySem.W.Frag} : RC K (rSortedI K) fSorted := by
  intro S H xs ds P e hx hf Q q
  unfold fSorted at hf
  split at hf
  · obtain ⟨v, rfl, h⟩ := rcs hx
    obtain ⟨a, ys, rfl, ha, hy⟩ := dt_sl h
    obtain ⟨ns, rfl, hp⟩ := hf
    rw [hy.ints_inv] at ha
    refine ⟨a, ns, rfl, .inl (.inl (e _ _ ha)), fun ns' p h1 h2 hn => ?_⟩
    have nw := Nw.laid (o := .lst (ns'.map V.int)) e hn
    exact q _ _ _ _ nw (.lst upd_same (.ints ns')) (hp ns' h1 h2)
  · exact hf.elim
def fAll : List PyData → (PyData → Prop) → Prop
  | [.list ds], P => ∃ bs : List Bool, ds = bs.map PyData.bool ∧ P (.bool (bs.all id))
  | _, _ => False
theorem rc_all {K : PySem.W.Frag} : RC K (rAll K) fAll := by
  intro S H xs ds P e hx hf Q q
  unfold fAll at hf
  split at hf
  · obtain ⟨v, rfl, h⟩ := rcs hx
    obtain ⟨a, ys, rfl, ha, hy⟩ := dt_sl h
    obtain ⟨bs, rfl, hp⟩ := hf
    rw [hy.bools_inv] at ha
    exact ⟨a, bs, rfl, .inl (.inl (e _ _ ha)), q _ _ S H (.refl e) (.bl _) hp⟩
  · exact hf.elim
def fToL : List PyData → (PyData → Prop) → Prop
  | [.list ds], P => P (.list ds)
  | [.tuple ds], P => P (.list ds)
  | _, _ => False
def fToT : List PyData → (PyData → Prop) → Prop
  | [.list ds], P => P (.tuple ds)
  | [.tuple ds], P => P (.tuple ds)
  | _, _ => False
def rToL (K : PySem.W.Frag) : List V → Hp → VK → Prop := fun xs H Q => ∃ p ys, xs = [.ref p] ∧ (SqL K H p ys ∨ SqT K H p ys) ∧ ∀ l, H l = none → Q (.ref l) (upd H l (.lst ys))
def rToT (K : PySem.W.Frag) : List V → Hp → VK → Prop := fun xs H Q => ∃ p ys, xs = [.ref p] ∧ ((SqL K H p ys ∧ ∀ l, H l = none → Q (.ref l) (upd H l (.tup ys))) ∨ (SqT K H p ys ∧ Q (.ref p) H))
theorem rc_toL {K : PySem.W.Frag} : RC K (rToL K) fToL := by
  intro S H xs ds P e hx hf Q q
  unfold fToL at hf
  split at hf
  · obtain ⟨v, rfl, h⟩ := rcs hx
    obtain ⟨a, ys, rfl, ha, hy⟩ := dt_sl h
    refine ⟨a, ys, rfl, .inl (.inl (.inl (e _ _ ha))), fun l hl => ?_⟩
    have nw := Nw.laid (o := .lst ys) e hl
    exact q _ _ _ _ nw (.lst upd_same (hy.up nw.ss)) hf
  · obtain ⟨v, rfl, h⟩ := rcs hx
    obtain ⟨a, ys, rfl, ha, hy⟩ := dt_st h
    refine ⟨a, ys, rfl, .inr (e.st ha), fun l hl => ?_⟩
    have nw := Nw.laid (o := .lst ys) e hl
    exact q _ _ _ _ nw (.lst upd_same (hy.up nw.ss)) hf
  · exact hf.elim
theorem rc_toT {K : PySem.W.Frag} : RC K (rToT K) fToT := by
  intro S H xs ds P e hx hf Q q
  unfold fToT at hf
  split at hf
  · obtain ⟨v, rfl, h⟩ := rcs hx
    obtain ⟨a, ys, rfl, ha, hy⟩ := dt_sl h
    refine ⟨a, ys, rfl, .inl ⟨.inl (.inl (e _ _ ha)), fun l hl => ?_⟩⟩
    have nw := Nw.laid (o := .tup ys) e hl
    exact q _ _ _ _ nw (.tup (.inl (.inl upd_same)) (hy.up nw.ss)) hf
  · obtain ⟨v, rfl, h⟩ := rcs hx
    obtain ⟨a, ys, rfl, ha, hy⟩ := dt_st h
    exact ⟨a, ys, rfl, .inr ⟨e.st ha, q _ _ S H (.refl e) (.tup ha hy) hf⟩⟩
  · exact hf.elim
section
variable {G : Gx} {X : Cx} {E : XK} {pos p : Pos} {a : Expr} {es : List Expr} {n : Nat} {tr : TA} {wr : WA}
theorem cb_len (hK : X.K = G.K := by rfl) : CallR X (.builtin "len") (rLenD G.K) := by rw [← hK]; exact call_len
theorem cb_max (hc : X.calm = true := by rfl) (hK : X.K = G.K := by rfl) : CallR X (.builtin "max") (fun xs H Q => rMax2D xs H Q ∨ rMax G.K xs H Q) := by rw [← hK]; exact CallR.or' (call_max2 hc) (cr_max hc)
theorem cb_min (hc : X.calm = true := by rfl) (hK : X.K = G.K := by rfl) : CallR X (.builtin "min") (fun xs H Q => rMin2D xs H Q ∨ rMin G.K xs H Q) := by rw [← hK]; exact CallR.or' (call_min2 hc) (cr_min hc)
theorem cb_sum (hc : X.calm = true := by rfl) (hK : X.K = G.K := by rfl) : CallR X (.builtin "sum") (rSum G.K) := by rw [← hK]; exact cr_sum hc
theorem cb_all (hc : X.calm = true := by rfl) (hK : X.K = G.K := by rfl) : CallR X (.builtin "all") (rAll G.K) := by rw [← hK]; exact cr_all hc
theorem cb_sorted (hK : X.K = G.K := by rfl) : CallR X (.builtin "sorted") (rSortedI G.K) := by rw [← hK]; exact cr_sortedI
theorem cb_toL (hK : X.K = G.K := by rfl) : CallR X (.type "list") (rToL G.K) := by rw [← hK]; exact call_list_of
theorem cb_toT (hK : X.K = G.K := by rfl) : CallR X (.type "tuple") (rToT G.K) := by rw [← hK]; exact call_tuple_of
end

/-! ### isinstance of built-in types -/
def tyD : PyData → String
  | .none => "NoneType" | .bool _ => "bool" | .int _ => "int" | .str _ => "str" | .list _ => "list" | .tuple _ => "tuple" | .dict _ => "dict"
theorem tyX_of {K : PySem.W.Frag} {S H : Hp} {v : V} {d : PyData} (e : Ex S H) (h : Dt K S v d) : TyX K H v (.type (tyD d)) := by
  cases h with
  | non => exact .base .non
  | bl b => exact .base (.bl b)
  | int i => exact .base (.int i)
  | str x => exact .base (.str x)
  | lst a b => exact .base (.lst (e _ _ a))
  | tup a b =>
    rcases a with (a | ⟨o, a⟩) | ⟨o, its, n, a, c, _⟩
    · exact .base (.tup (e _ _ a))
    · exact .fTuple (e _ _ a)
    · exact .kTuple a c
  | dic a => exact .base (.dK (e _ _ a))
/-- is it of the type? -/
def isT (T : String) (d : PyData) : Bool := (kitB (tyD d) T).getD false
def fIsi (T : String) : PyData → (PyData → Prop) → Prop := fun d P => P (.bool (isT T d))
/-- the answer is known of every kind of data -/
def tyOk (T : String) : Bool := ["NoneType", "bool", "int", "str", "list", "tuple", "dict"].all fun a => (kitB a T).isSome
theorem tyOk_at {T : String} (h : tyOk T = true) (d : PyData) : kitB (tyD d) T = some (isT T d) := by
  have h1 := List.all_eq_true.mp h (tyD d) (by cases d <;> simp [tyD])
  unfold isT
  cases e : kitB (tyD d) T with
  | none => rw [e] at h1; cases h1
  | some b => rfl
section
variable {G : Gx} {X : Cx} {E : XK} {pos p p1 : Pos} {a : Expr} {ta : TE} {wa : WE}
def wIsi (T : String) (wa : WE) : WE := w1 (fIsi T) wa
theorem ve_isi {T : String} {y : Str} (ha : VE G X E a ta wa) (hm : X.mg "isinstance" = none) (hy : X.mg y = none) (hg : Gl X "isinstance" := by rfl) (hgy : Gl X y := by rfl) (hv : bootBuiltins y = some (.type T) := by decide +kernel) (hT : tyOk T = true := by decide +kernel)
    (hny : y ≠ "__name__" := by decide) (hdy : (y == ("__debug__" : Str)) = false := by decide) (hs : starEach [a, .Name y p1] X.env = (false, eval a X.env) :: starEach [.Name y p1] X.env := by rfl) (hs2 : starEach [.Name y p1] X.env = (false, eval (.Name y p1) X.env) :: starEach [] X.env := by rfl)
    (hpl : (backTo pos (starEach [.Name y p1] X.env)).any (·.1) = false := by rfl) :
    VE G X E (.Call (.Name "isinstance" p) [a, .Name y p1] [] pos) (tCB (rIsi G.K) (tCons ta (tCons (tC (.ty T)) tNil))) (wIsi T wa) :=
  ⟨ha.hK, pe_callB (by rw [← ha.hK]; exact call_isi) hg hm (by decide +kernel) (pa_cons ha.pe (pa_cons (pe_bltn hgy hy hv rfl hny hdy) pa_nil hs2) hs) (by decide) (by decide) hs hpl, fun W S H σ e P X hs hw hk Q q => ha.re W S H σ e _ X hs hw hk _ fun v d W1 S1 H1 e1 f1 s1 d1 h1 =>
    ⟨v, .ty T, _, _, _, rfl, .ty T, tyX_of s1.gd.sh d1, kit_ty (tyOk_at hT d), q _ _ W1 S1 H1 e1 f1 s1 (.bl _) h1⟩⟩
/-- isinstance(x, (A, B)) -/
def fIsi2 (T U : String) : PyData → (PyData → Prop) → Prop := fun d P => P (.bool (isT T d || isT U d))
theorem ve_isi2 {T U : String} {y z : Str} {k : Nat} {p2 p3 : Pos} (ha : VE G X E a ta wa) (hm : X.mg "isinstance" = none) (hy : X.mg y = none) (hz : X.mg z = none) (hg : Gl X "isinstance" := by rfl) (hgy : Gl X y := by rfl) (hgz : Gl X z := by rfl)
    (hv : bootBuiltins y = some (.type T) := by decide +kernel) (hu : bootBuiltins z = some (.type U) := by decide +kernel) (hT : tyOk T = true := by decide +kernel) (hU : tyOk U = true := by decide +kernel)
    (hny : y ≠ "__name__" := by decide) (hdy : (y == ("__debug__" : Str)) = false := by decide) (hnz : z ≠ "__name__" := by decide) (hdz : (z == ("__debug__" : Str)) = false := by decide)
    (hs : starEach [a, .Tuple [.Name y p1, .Name z p2] k p3] X.env = (false, eval a X.env) :: starEach [.Tuple [.Name y p1, .Name z p2] k p3] X.env := by rfl)
    (hs2 : starEach [.Tuple [.Name y p1, .Name z p2] k p3] X.env = (false, eval (.Tuple [.Name y p1, .Name z p2] k p3) X.env) :: starEach [] X.env := by rfl)
    (hs3 : starEach [.Name y p1, .Name z p2] X.env = (false, eval (.Name y p1) X.env) :: starEach [.Name z p2] X.env := by rfl) (hs4 : starEach [.Name z p2] X.env = (false, eval (.Name z p2) X.env) :: starEach [] X.env := by rfl)
    (hpl : (backTo pos (starEach [.Tuple [.Name y p1, .Name z p2] k p3] X.env)).any (·.1) = false := by rfl) :
    VE G X E (.Call (.Name "isinstance" p) [a, .Tuple [.Name y p1, .Name z p2] k p3] [] pos) (tCB (rIsiT G.K) (tCons ta (tCons (tTup (tCons (tC (.ty T)) (tCons (tC (.ty U)) tNil))) tNil))) (w1 (fIsi2 T U) wa) :=
  ⟨ha.hK, pe_callB (by rw [← ha.hK]; exact call_isiT) hg hm (by decide +kernel) (pa_cons ha.pe (pa_cons (pe_tup (pa_cons (pe_bltn hgy hy hv rfl hny hdy) (pa_cons (pe_bltn hgz hz hu rfl hnz hdz) pa_nil hs4) hs3)) pa_nil hs2) hs) (by decide) (by decide) hs hpl,
    fun W S H σ e P X hs hw hk Q q => ha.re W S H σ e _ X hs hw hk _ fun v d W1 S1 H1 e1 f1 s1 d1 h1 => ⟨by show 2 ≤ sizeLine; decide, fun t ht => by
      have hx : Ex S1 (upd H1 t (.tup [.ty T, .ty U])) := s1.gd.sh.trans (Ex.new ht)
      have nw : Nw S1 H1 S1 (upd H1 t (.tup [.ty T, .ty U])) := ⟨Ex.refl _, hx, Ex.new ht, fun _ h _ => h, fun z => z⟩
      refine ⟨v, t, [.ty T, .ty U], .type (tyD d), [.type T, .type U], isT T d || isT U d, rfl, upd_same, .cons (.ty T) (.cons (.ty U) .nil), tyX_of hx d1, ?_, q _ _ W1 S1 _ e1 (f1.trans nw.fw) (s1.new nw) (.bl _) h1⟩
      refine kitAny_cons (kit_ty (tyOk_at hT d)) (fun z => ?_) fun z => by rw [z]; rfl
      rw [z, Bool.false_or]
      refine kitAny_cons (kit_ty (tyOk_at hU d)) (fun z => ?_) fun z => z
      rw [z]; rfl⟩⟩
end

/-! ### repr -/
/-- the table of modules is known to be no list -/
def SmK (K : PySem.W.Frag) : Prop := ∃ o, K.lookup sysModules = some o ∧ (o.cls == .type "list") = false
def smB (K : PySem.W.Frag) : Bool := match K.lookup sysModules with
  | some o => !(o.cls == .type "list")
  | none => false
theorem smB_ok {K : PySem.W.Frag} (h : smB K = true) : SmK K := by
  unfold smB at h
  split at h
  · rename_i o ho
    exact ⟨o, ho, by simpa using h⟩
  · cases h
/-- (kept for the texts that name it) -/
def noList (_ : PyData) : Bool := true
section
variable {X : Cx} {pins : List (Addr × Obj)} {σ : L2.St} {H : Hp} {s : Shared}
mutual
theorem reads_nl (I : Inv X pins σ H s) (hsm : SmK X.K) : ∀ (d : PyData) (v : V) (u : Value), Dt X.K H v d → RelV v u → ∃ as, Reads s.heap u d as ∧ sysModules ∉ as
  | .none, _, _, h, r => by cases h; cases r; exact ⟨_, Reads.none, by simp⟩
  | .bool b, _, _, h, r => by cases h; cases r; exact ⟨_, Reads.bool b, by simp⟩
  | .int i, _, _, h, r => by cases h; obtain ⟨t, rfl⟩ := r; exact ⟨_, Reads.int i t, by simp⟩
  | .str x, _, _, h, r => by cases h; obtain ⟨t, rfl⟩ := r; exact ⟨_, Reads.str x t, by simp⟩
  | .list ds, _, _, h, r => by
    cases h with
    | lst hs ha =>
      cases r
      obtain ⟨its, rv, ⟨o, n, ho, hc, _, hd⟩, _⟩ := I.list (.inl (.inl hs))
      obtain ⟨as, hr, hn⟩ := readsAll_nl I hsm ds _ its ha rv
      refine ⟨_, Reads.list ho hc hd hr, ?_⟩
      intro z
      rcases List.mem_cons.mp z with e | z
      · obtain ⟨om, lm, hm⟩ := hsm
        have q := I.kIn _ _ lm
        rw [e, ho] at q
        cases q
        rw [hc] at hm
        simp at hm
      · exact hn z
  | .tuple ds, _, _, h, r => by
    cases h with
    | tup hs ha =>
      cases r
      obtain ⟨its, rv, ⟨o, ho, hc, n', hd⟩, _⟩ := I.tuple hs
      obtain ⟨as, hr, hn⟩ := readsAll_nl I hsm ds _ its ha rv
      exact ⟨_, Reads.tuple ho hc hd hr, hn⟩
  | .dict kvs, _, _, h, r => by
    cases h with
    | dic ha =>
      cases r
      obtain ⟨_, hsm', vs, rv, o, es, ep, ho, hx, hd, _, q, _⟩ := I.hok _ _ ha
      cases rv
      have hes : es.toList = [] := List.eq_nil_of_length_eq_zero q.length
      refine ⟨_, Reads.dict (kvs := []) ho hx.1 hd (by rw [hes]; exact .nil) (by rw [hes]; exact .nil), ?_⟩
      intro z
      simp at z
      rw [← z] at hsm'
      simp at hsm'
theorem readsAll_nl (I : Inv X pins σ H s) (hsm : SmK X.K) : ∀ (ds : List PyData) (vs : List V) (us : List Value), DtA X.K H vs ds → Vals vs us → ∃ as, ReadsAll s.heap us ds as ∧ sysModules ∉ as
  | [], _, _, h, r => by cases h; cases r; exact ⟨_, ReadsAll.nil, by simp⟩
  | d :: ds, _, _, h, r => by
    cases h with
    | cons h1 h2 =>
      cases r with
      | cons r1 r2 =>
        obtain ⟨as, q1, m1⟩ := reads_nl I hsm d _ _ h1 r1
        obtain ⟨bs, q2, m2⟩ := readsAll_nl I hsm ds _ _ h2 r2
        refine ⟨_, ReadsAll.cons q1 q2, ?_⟩
        rw [List.mem_append]
        exact fun z => z.elim m1 m2
end
end
def reprOk (d : PyData) : Bool := d.showable && decide (d.depth ≤ 50)
def fRepr : List PyData → (PyData → Prop) → Prop
  | [d], P => reprOk d = true ∧ d.shown.length ≤ sizeLine ∧ P (.str d.shown)
  | _, _ => False
def rReprD (K : PySem.W.Frag) : List V → Hp → VK → Prop := fun xs H Q => ∃ x d, xs = [x] ∧ Dt K H x d ∧ reprOk d = true ∧ d.shown.length ≤ sizeLine ∧ Q (.str d.shown) H
theorem cb_repr {G : Gx} {X : Cx} (hg : X.A.guards = some []) (hu : X.A.units + 64 < cLine) (hsm : SmK G.K) (hK : X.K = G.K := by rfl) : CallR X (.builtin "repr") (rReprD G.K) := by
  rw [← hK] at hsm ⊢
  intro pins s σ H xs us Q I r h
  obtain ⟨x, d, rfl, hd, hok, hl, q⟩ := h
  obtain ⟨u, rfl, ru⟩ := vals1 r
  unfold reprOk at hok
  rw [Bool.and_eq_true] at hok
  obtain ⟨hsh, hdp⟩ := hok
  have hdp : d.depth ≤ 50 := of_decide_eq_true hdp
  have fin : ∀ (a : Addr) as, u = .ref a → Reads s.heap u d as → sysModules ∉ as → wpAny (model X.prog X.w) X.A (call (.builtin "repr") [u]) (EP X pins σ Q) X.xe s := fun a as eu hr hm => by
    subst eu
    exact repr_of_reads' hr hsh (fun _ => hm) hg (by omega) (fun _ _ z => z) (fun h' u' tk k => ⟨.str _, H, I.kept (t' := tk) k, ⟨_, rfl⟩, q⟩) hl
  have main : wpAny (model X.prog X.w) X.A (call (.builtin "repr") [u]) (EP X pins σ Q) X.xe s := by
    cases hd with
    | non => cases ru; exact PySem.P.repr_of_none ⟨.str _, H, I.tok _, ⟨_, rfl⟩, q⟩
    | bl b => cases ru; exact PySem.P.repr_of_bool ⟨.str _, H, I.tok _, ⟨_, rfl⟩, by cases b <;> exact q⟩
    | int i => obtain ⟨t, rfl⟩ := ru; exact PySem.P.repr_of_int (by simpa [PyData.showable] using hsh) ⟨.str _, H, I.tok _, ⟨_, rfl⟩, q⟩
    | str z => obtain ⟨t, rfl⟩ := ru; exact PySem.P.repr_of_str ⟨.str _, H, I.tok _, ⟨_, rfl⟩, q⟩ hl
    | lst a b =>
      obtain ⟨as, hr, hn⟩ := reads_nl I hsm _ _ _ (.lst a b) ru
      cases ru
      exact fin _ as rfl hr hn
    | @tup a0 xs ds a b =>
      obtain ⟨as, hr, hn⟩ := reads_nl I hsm _ _ _ (.tup a b) ru
      cases ru
      exact fin _ as rfl hr hn
    | dic a =>
      obtain ⟨as, hr, hn⟩ := reads_nl I hsm _ _ _ (.dic a) ru
      cases ru
      exact fin _ as rfl hr hn
  exact main
theorem rc_repr {K : PySem.W.Frag} : RC K (rReprD K) fRepr := by
  intro S H xs ds P e hx hf Q q
  unfold fRepr at hf
  split at hf
  · obtain ⟨v, rfl, h⟩ := rcs hx
    exact ⟨v, _, rfl, h.up e, hf.1, hf.2.1, q _ _ S H (.refl e) (.str _) hf.2.2⟩
  · exact hf.elim
/-- n.bit_length() -/
def fBits : PyData → (PyData → Prop) → Prop
  | .int i, P => P (.int (Builtin.Int.intBits i : Nat))
  | _, _ => False
section
variable {G : Gx} {X : Cx} {E : XK} {pos apos p : Pos} {a b : Expr} {ta tb : TE} {wa wb : WE}
theorem ve_bits (ha : VE G X E a ta wa) (hbase : attributeBase a "bit_length" X.env (eval a X.env) = eval a X.env := by rfl) (hline : (apos.endLine == pos.line) = true := by rfl) : VE G X E (.Call (.Attribute a "bit_length" apos) [] [] pos) (tBits ta) (w1 fBits wa) :=
  ⟨ha.hK, pe_bits ha.pe hbase hline, fun W S H σ e P X hs hw hk Q q => ha.re W S H σ e _ X hs hw hk _ fun v d W1 S1 H1 e1 f1 s1 d1 h1 => by
    unfold fBits at h1
    split at h1
    · cases d1; exact ⟨_, rfl, q _ _ W1 S1 H1 e1 f1 s1 (.int _) h1⟩
    · exact h1.elim⟩
/-- sep.join(list of texts) -/
def fJoin : PyData → PyData → (PyData → Prop) → Prop
  | .str x, .list ds, P => ∃ ys : List Str, ds = ys.map PyData.str ∧ (ys.map (·.length)).sum + ys.length * x.length ≤ 16777216 ∧ P (.str (Txt.join x ys))
  | _, _, _ => False
end
end VL

end
section
set_option Elab.async false
set_option linter.all false
set_option maxRecDepth 100000
set_option maxHeartbeats 2000000
namespace VL
open PySem PySem.Spec PyProof.Rows L2

/-! ### slots are set -/
def En.set (e : En) (i : Nat) (s : Sl) : En := ⟨e.sl.set i s, e.fu⟩
section
variable {G : Gx} {W W1 : Addr → Option Nat} {S S1 H H1 : Hp} {σ : L2.St} {e : En}
theorem Sim.set (h : Sim G W S H σ e) {i : Nat} {v : V} {s : Sl} (hs : i < e.sl.length → SlOk G.K W S H i (some (some v)) s) : Sim G W S H (σ.set i (some v)) (e.set i s) := by
  refine ⟨h.gd, by show (e.sl.set i s).length ≤ _; rw [List.length_set, List.length_set]; exact h.ln, by show (e.sl.set i s).length ≤ _; rw [List.length_set]; exact h.sm, fun j t ht => ?_⟩
  have ht' : (e.sl.set i s)[j]? = some t := ht
  by_cases hj : j = i
  · subst hj
    have hlt : j < e.sl.length := by
      have z := (List.getElem?_eq_some_iff.mp ht').1
      rwa [List.length_set] at z
    rw [List.getElem?_set_self hlt] at ht'
    cases ht'
    rw [List.getElem?_set_self (Nat.lt_of_lt_of_le hlt h.ln)]
    exact hs hlt
  · rw [List.getElem?_set_ne (Ne.symm hj)] at ht'
    rw [List.getElem?_set_ne (Ne.symm hj)]
    exact h.sl j t ht'
theorem Sim.setD (h : Sim G W S H σ e) {i : Nat} {v : V} {d : PyData} (hd : Dt G.K S v d) : Sim G W S H (σ.set i (some v)) (e.set i (.da d)) := h.set fun _ => ⟨v, rfl, hd⟩
end
/-! ### statements -/
def wSeq (w1 w2 : WS) : WS := fun A X e => w1 { A with nx := fun e' => w2 A X e' } X e
def wNext : WS := fun A _ e => A.nx e
def wBrk : WS := fun A _ e => A.bk e
def wCont : WS := fun A _ e => A.ct e
def wRet (we : WE) : WS := fun A X e => we e (fun d e1 => A.rt (.da d) e1.fu) X
def wRetN : WS := fun A _ e => A.rt (.da .none) e.fu
def wDrop (we : WE) : WS := fun A X e => we e (fun _ e1 => A.nx e1) X
def wIf (wt : WT) (w1 w2 : WS) : WS := fun A X e => wt e (fun b e1 => (b = true → w1 A X e1) ∧ (b = false → w2 A X e1)) X
abbrev WG := PyData → En → (En → Prop) → Prop
def wAsg (we : WE) (wg : WG) : WS := fun A X e => we e (fun d e1 => wg d e1 A.nx) X
def gN (i : Nat) : WG := fun d e P => P (e.set i (.da d))
def gNone : List PyData → En → (En → Prop) → Prop := fun ds e P => match ds with | [] => P e | _ => False
def gMore (g : WG) (r : List PyData → En → (En → Prop) → Prop) : List PyData → En → (En → Prop) → Prop := fun ds e P => match ds with | d :: ds => g d e (fun e1 => r ds e1 P) | _ => False
def gT (gs : List PyData → En → (En → Prop) → Prop) : WG := fun d e P => match d with | .tuple ds => gs ds e P | .list ds => gs ds e P | _ => False
/-- a tuple or a list of that length -/
def gSq (K : PySem.W.Frag) (n : Nat) (t : TGs) : TG := fun v σ H Q => gTup K n t v σ H Q ∨ gLst K n t v σ H Q
def RG (G : Gx) (g : TG) (wg : WG) : Prop := ∀ W S H σ e v d P, Sim G W S H σ e → Dt G.K S v d → wg d e P → ∀ Q : L2.St → Hp → Prop, (∀ W' S' H' σ' e', Fw W S H W' S' H' → Sim G W' S' H' σ' e' → P e' → Q σ' H') → g v σ H Q
def RGs (G : Gx) (n : Nat) (g : TGs) (wg : List PyData → En → (En → Prop) → Prop) : Prop := ∀ W S H σ e vs ds P, Sim G W S H σ e → DtA G.K S vs ds → wg ds e P → vs.length = n ∧ ∀ Q : L2.St → Hp → Prop, (∀ W' S' H' σ' e', Fw W S H W' S' H' → Sim G W' S' H' σ' e' → P e' → Q σ' H') → g vs σ H Q
structure VG (G : Gx) (X : Cx) (t : Expr) (g : TG) (wg : WG) : Prop where
  hK : X.K = G.K
  pg : PG X t g
  rg : RG G g wg
structure VGs (G : Gx) (X : Cx) (ts : List Expr) (n : Nat) (g : TGs) (wg : List PyData → En → (En → Prop) → Prop) : Prop where
  pgs : PGs X ts g
  rgs : RGs G n g wg
section
variable {G : Gx} {X : Cx} {E : XK} {pos : Pos} {st : Stmt} {rest : List Stmt} {ts us : TS} {w1 w2 : WS} {a : Expr} {ta : TE} {wa : WE} {tA : TT} {wA : WT}
theorem rs_seq (h1 : RS G E ts w1) (h2 : RS G E us w2) : RS G E (tSeq ts us) (wSeq w1 w2) := fun W S H σ e A X hs hw hk D n r b c =>
  h1 W S H σ e _ X hs hw hk _ (fun W1 S1 H1 σ1 e1 f1 s1 hn => h2 W1 S1 H1 σ1 e1 A X s1 hn (hk.next f1) D (fun W2 S2 H2 σ2 e2 f2 s2 h => n W2 S2 H2 σ2 e2 (f1.trans f2) s2 h) (fun v d W2 S2 H2 m f2 g2 d2 h => r v d W2 S2 H2 m (f1.trans f2) g2 d2 h)
    (fun W2 S2 H2 σ2 e2 f2 s2 h => b W2 S2 H2 σ2 e2 (f1.trans f2) s2 h) (fun W2 S2 H2 σ2 e2 f2 s2 h => c W2 S2 H2 σ2 e2 (f1.trans f2) s2 h)) r b c
theorem vss_nil (hK : X.K = G.K := by rfl) : VSs G X E [] tNext wNext := ⟨hK, pss_nil, fun W S H σ e A X hs hw _ D n _ _ _ => n W S H σ e .refl hs hw⟩
theorem vss_cons (h1 : VS G X E st ts w1) (h2 : VSs G X E rest us w2) : VSs G X E (st :: rest) (tSeq ts us) (wSeq w1 w2) := ⟨h1.hK, pss_cons h1.ps h2.ps, rs_seq h1.rs h2.rs⟩
theorem vss_one (h1 : VS G X E st ts w1) : VSs G X E [st] ts w1 := ⟨h1.hK, pss_one h1.ps, h1.rs⟩
theorem vs_pass (hK : X.K = G.K := by rfl) : VS G X E (.Pass pos) tNext wNext := ⟨hK, ps_pass, fun W S H σ e A X hs hw _ D n _ _ _ => n W S H σ e .refl hs hw⟩
theorem vs_break (hK : X.K = G.K := by rfl) : VS G X E (.Break pos) tBreak wBrk := ⟨hK, ps_break, fun W S H σ e A X hs hw _ D _ _ b _ => b W S H σ e .refl hs hw⟩
theorem vs_continue (hK : X.K = G.K := by rfl) : VS G X E (.Continue pos) tCont wCont := ⟨hK, ps_continue, fun W S H σ e A X hs hw _ D _ _ _ c => c W S H σ e .refl hs hw⟩
theorem vs_ret (ha : VE G X E a ta wa) : VS G X E (.Return (some a) pos) (tRet ta) (wRet wa) := ⟨ha.hK, ps_ret ha.pe, fun W S H σ e A X hs hw hk D _ r _ _ => ha.re W S H σ e _ X hs hw hk _ fun v d W1 S1 H1 e1 f1 s1 d1 h1 => r v (.da d) W1 S1 H1 e1.fu f1 s1.gd d1 h1⟩
theorem vs_retN (hK : X.K = G.K := by rfl) : VS G X E (.Return none pos) tRetN wRetN := ⟨hK, ps_retN, fun W S H σ e A X hs hw hk D _ r _ _ => r .non (.da .none) W S H e.fu .refl hs.gd .non hw⟩
theorem vs_expr (ha : VE G X E a ta wa) (hs : swapsWith a none pos.line X.env = pure false := by rfl) : VS G X E (.Expr a pos) (tDrop ta) (wDrop wa) := ⟨ha.hK, ps_expr ha.pe hs, fun W S H σ e A X hs hw hk D n _ _ _ => ha.re W S H σ e _ X hs hw hk _ fun v d W1 S1 H1 e1 f1 s1 d1 h1 => n W1 S1 H1 σ e1 f1 s1 h1⟩
theorem vs_if {p q : List Stmt} (hc : VT G X E a tA wA) (h1 : VSs G X E p ts w1) (h2 : VSs G X E q us w2) : VS G X E (.If a p q pos) (tIfS tA ts us) (wIf wA w1 w2) := ⟨hc.hK, ps_if hc.pt h1.ps h2.ps,
  fun W S H σ e A X hs hw hk D n r b c => hc.rt W S H σ e _ X hs hw hk _ fun d W1 S1 H1 e1 f1 s1 hp => by
    have fin : ∀ (tS : TS) (wS : WS), RS G E tS wS → wS A X e1 → tS D σ H1 := fun tS wS hr hw1 => hr W1 S1 H1 σ e1 A X s1 hw1 (hk.next f1) D (fun W2 S2 H2 σ2 e2 f2 s2 h => n W2 S2 H2 σ2 e2 (f1.trans f2) s2 h) (fun v d W2 S2 H2 m f2 g2 d2 h => r v d W2 S2 H2 m (f1.trans f2) g2 d2 h)
      (fun W2 S2 H2 σ2 e2 f2 s2 h => b W2 S2 H2 σ2 e2 (f1.trans f2) s2 h) (fun W2 S2 H2 σ2 e2 f2 s2 h => c W2 S2 H2 σ2 e2 (f1.trans f2) s2 h)
    cases d with
    | true => exact fin ts w1 h1.rs (hp.1 rfl)
    | false => exact fin us w2 h2.rs (hp.2 rfl)⟩
/-! targets -/
theorem vg_n (i : Nat) {x : Str} (hN : X.N.Nodup) (hi : X.N[i]? = some x := by rfl) (hx : Loc X.env.scope x := by first | exact Or.inl rfl | exact Or.inr rfl) (hf : X.fn x = true ∨ X.env.scope.names.lookup x = some .local := by first | exact Or.inl rfl | exact Or.inr rfl) (hK : X.K = G.K := by rfl) : VG G X (.Name x pos) (gName i) (gN i) :=
  ⟨hK, pg_name hN hi hx hf, fun W S H σ e v d P hs hd hw Q q => q W S H _ _ .refl (hs.setD hd) hw⟩
theorem vgs_nil : VGs G X [] 0 gNil gNone := ⟨pgs_nil, fun W S H σ e vs ds P hs hd hw => by
  unfold gNone at hw
  split at hw
  · cases hd; exact ⟨rfl, fun Q q => ⟨rfl, q W S H σ e .refl hs hw⟩⟩
  · exact hw.elim⟩
theorem vgs_cons {t : Expr} {tr : List Expr} {n : Nat} {g : TG} {gs : TGs} {wg : WG} {wgs : List PyData → En → (En → Prop) → Prop} (h1 : VG G X t g wg) (h2 : VGs G X tr n gs wgs) (hl : ∀ W S H σ e vs ds P, Sim G W S H σ e → DtA G.K S vs ds → wgs ds e P → True := by intros; trivial)
    (hs : (assignEach (t :: tr) X.env).map (·.2) = assign t X.env :: (assignEach tr X.env).map (·.2) := by rfl) (hlen : ∀ ds e P, wgs ds e P → ds.length = n) (hgl : ∀ d e P, wg d e P → ∃ e', P e') : VGs G X (t :: tr) (n + 1) (gCons g gs) (gMore wg wgs) := ⟨pgs_cons h1.pg h2.pgs hs, fun W S H σ e vs ds P hs hd hw => by
  unfold gMore at hw
  split at hw
  · rename_i d dr
    cases hd with
    | @cons v vr _ _ hv hr =>
      obtain ⟨e', he'⟩ := hgl d e _ hw
      refine ⟨by rw [List.length_cons, hr.len, hlen _ _ _ he'], fun Q q => ⟨v, vr, rfl, h1.rg W S H σ e v d _ hs hv hw _ fun W1 S1 H1 σ1 e1 f1 s1 hp => ?_⟩⟩
      exact (h2.rgs W1 S1 H1 σ1 e1 vr dr P s1 (hr.up f1.ss) hp).2 Q fun W2 S2 H2 σ2 e2 f2 s2 hq => q W2 S2 H2 σ2 e2 (f1.trans f2) s2 hq
  · exact hw.elim⟩
theorem vg_t {ts : List Expr} {k n : Nat} {gs : TGs} {wgs : List PyData → En → (En → Prop) → Prop} (h : VGs G X ts n gs wgs) (hc : X.calm = true := by rfl) (hn : (assignEach ts X.env).length = n := by rfl) (hst : (assignEach ts X.env).findIdx? (·.1) = none := by rfl) (hK : X.K = G.K := by rfl) : VG G X (.Tuple ts k pos) (gSq G.K n gs) (gT wgs) :=
  ⟨hK, by
    rw [← hK]
    exact ⟨fun pins s σ H v u Q I r hw => hw.elim (fun z => (pg_tup hc h.pgs hn hst).run pins s σ H v u Q I r z) fun z => (pg_lst hc h.pgs hn hst).run pins s σ H v u Q I r z⟩, fun W S H σ e v d P hs hd hw Q q => by
    unfold gT at hw
    split at hw
    · obtain ⟨a, xs, rfl, ha, hxs⟩ := dt_st hd
      obtain ⟨l, r⟩ := h.rgs W S H σ e xs _ P hs hxs hw
      exact .inl ⟨a, xs, rfl, hs.gd.sh.st ha, l, r Q q⟩
    · obtain ⟨a, xs, rfl, ha, hxs⟩ := dt_sl hd
      obtain ⟨l, r⟩ := h.rgs W S H σ e xs _ P hs hxs hw
      exact .inr ⟨a, xs, rfl, .inl (.inl (hs.gd.sh _ _ ha)), l, r Q q⟩
    · exact hw.elim⟩
theorem gN_some {i : Nat} : ∀ d e P, gN i d e P → ∃ e', P e' := fun d e P h => ⟨_, h⟩
theorem gNone_len : ∀ ds e P, gNone ds e P → ds.length = 0 := fun ds e P h => by
  unfold gNone at h
  split at h
  · rfl
  · exact h.elim
theorem gMore_len {wg : WG} {wgs : List PyData → En → (En → Prop) → Prop} {n : Nat} (hl : ∀ ds e P, wgs ds e P → ds.length = n) (hg : ∀ d e P, wg d e P → ∃ e', P e') : ∀ ds e P, gMore wg wgs ds e P → ds.length = n + 1 := fun ds e P h => by
  unfold gMore at h
  split at h
  · obtain ⟨e', he⟩ := hg _ _ _ h
    rw [List.length_cons, hl _ _ _ he]
  · exact h.elim
theorem vs_asg {t : Expr} {g : TG} {wg : WG} (ha : VE G X E a ta wa) (hg : VG G X t g wg) (hs : swapsWithSole [t] a pos.line X.env = pure false := by rfl) (hw : swappedStores [t] a X.env = pure none := by rfl)
    (h1 : (assignEach [t] X.env).map (·.2) = [assign t X.env] := by rfl) : VS G X E (.Assign [t] a pos) (tAsg ta g) (wAsg wa wg) := ⟨ha.hK, ps_asg ha.pe hg.pg hs hw h1, fun W S H σ e A X hs hw hk D n _ _ _ => ha.re W S H σ e _ X hs hw hk _ fun v d W1 S1 H1 e1 f1 s1 d1 h1 =>
  hg.rg W1 S1 H1 σ e1 v d _ s1 d1 h1 _ fun W2 S2 H2 σ2 e2 f2 s2 h2 => n W2 S2 H2 σ2 e2 (f1.trans f2) s2 h2⟩
theorem vs_set (i : Nat) {x : Str} {p1 : Pos} (hN : X.N.Nodup) (ha : VE G X E a ta wa) (hi : X.N[i]? = some x := by rfl) (hx : Loc X.env.scope x := by first | exact Or.inl rfl | exact Or.inr rfl) (hs : swapsWith a (some (.Name x p1)) pos.line X.env = pure false := by rfl)
    (hf : X.fn x = true ∨ X.env.scope.names.lookup x = some .local := by first | exact Or.inl rfl | exact Or.inr rfl) : VS G X E (.Assign [.Name x p1] a pos) (tAsg ta (gName i)) (wAsg wa (gN i)) := ⟨ha.hK, ps_set hN hi hx ha.pe hs hf, fun W S H σ e A X hs hw hk D n _ _ _ => ha.re W S H σ e _ X hs hw hk _ fun v d W1 S1 H1 e1 f1 s1 d1 h1 =>
  n W1 S1 H1 _ _ f1 (s1.setD d1) h1⟩
/-- x += e -/
def wAug (i : Nat) (f : PyData → PyData → (PyData → Prop) → Prop) (we : WE) : WS := fun A X e => match e.sl[i]? with
  | some (.da d) => we e (fun y e1 => f d y fun z => A.nx (e1.set i (.da z))) X
  | _ => False
theorem vs_aug (i : Nat) {x : Str} {op : Operator} {r : R2} {f : PyData → PyData → (PyData → Prop) → Prop} {p1 : Pos} (ho : OpR X (inplaceOp op) r) (hr : RO G.K r f) (hN : X.N.Nodup) (ha : VE G X E a ta wa) (hi : X.N[i]? = some x := by rfl) (hx : Loc X.env.scope x := by first | exact Or.inl rfl | exact Or.inr rfl)
    (hf : X.fn x = true ∨ X.env.scope.names.lookup x = some .local := by first | exact Or.inl rfl | exact Or.inr rfl) : VS G X E (.AugAssign (.Name x p1) op a pos) (tAug i ta r) (wAug i f wa) := ⟨ha.hK, ps_aug hN hi hx ha.pe ho hf, fun W S H σ e A X hs hw hk D n _ _ _ => by
  unfold wAug at hw
  split at hw
  · rename_i d hd
    obtain ⟨v, h1, h2⟩ := hs.sl i _ hd
    refine ⟨v, h1, ha.re W S H σ e _ X hs hw hk _ fun y dy W1 S1 H1 e1 f1 s1 d1 hp => ?_⟩
    exact hr S1 H1 v y d dy _ s1.gd.sh (h2.up f1.ss) d1 hp _ fun z dz S2 H2 nw dz' hq => n W1 S2 H2 _ _ (f1.trans nw.fw) ((s1.new nw).setD dz') hq
  · exact hw.elim⟩
/-- two, three names at once -/
def wPar (i j : Nat) (wr : WA) : WS := fun A X e => wr e (fun ds e1 => match ds with | [x, y] => A.nx ((e1.set i (.da x)).set j (.da y)) | _ => False) X
theorem vs_par (i j : Nat) {x y : Str} {b c : Expr} {tr : TA} {wr : WA} {px py pt : Pos} {kt k2 pt2} (hN : X.N.Nodup) (ha : VA G X E [b, c] 2 tr wr) (hi : X.N[i]? = some x := by rfl) (hj : X.N[j]? = some y := by rfl) (hij : i ≠ j := by decide) (hx : X.env.scope.names.lookup x = some .local := by rfl) (hy : X.env.scope.names.lookup y = some .local := by rfl)
    (hc : X.calm = true := by rfl) (hw : swappedStores [.Tuple [.Name x px, .Name y py] kt pt] (.Tuple [b, c] k2 pt2) X.env = pure (some [x, y]) := by rfl) (hs : swapsWithSole [.Tuple [.Name x px, .Name y py] kt pt] (.Tuple [b, c] k2 pt2) pos.line X.env = pure false := by rfl) :
    VS G X E (.Assign [.Tuple [.Name x px, .Name y py] kt pt] (.Tuple [b, c] k2 pt2) pos) (tPar i j tr) (wPar i j wr) := ⟨ha.hK, ps_par hc hN hi hj hij hx hy ha.pa hw hs, fun W S H σ e A X hs hw hk D n _ _ _ => ha.ra W S H σ e _ X hs hw hk _ fun vs ds W1 S1 H1 e1 f1 s1 d1 _ h1 => by
  split at h1
  · obtain ⟨v, u, rfl, hv, hu⟩ := rcs2 d1
    exact ⟨v, u, rfl, n W1 S1 H1 _ _ f1 ((s1.setD hv).setD hu) h1⟩
  · exact h1.elim⟩
end
/-! ### an owned list -/
def RF (G : Gx) (E : XK) (te : TE) (wl : WA) : Prop := ∀ W S H σ e P X, Sim G W S H σ e → wl e P X → KP G E W S H X → ∀ Q : VK,
  (∀ p vs ds W' S' H' e', Fw W S H W' S' H' → Sim G W' S' H' σ e' → H p = none → S' p = none → W' p = none → H' p = some (.lst vs) → DtA G.K S' vs ds → P ds e' → Q (.ref p) H') → te σ H Q
structure VF (G : Gx) (X : Cx) (E : XK) (e : Expr) (te : TE) (wl : WA) : Prop where
  hK : X.K = G.K
  pe : PE X e te
  rf : RF G E te wl
theorem Fw.back {W W1 : Addr → Option Nat} {S H S1 H1 : Hp} (f : Fw W S H W1 S1 H1) {p : Addr} (h : H1 p = none) : H p = none := opt_none fun z => f.ht p z h
/-- new objects that are no data -/
theorem Nw.own {S H : Hp} {p : Addr} {o : HO} (e : Ex S H) (h : H p = none) : Nw S H S (upd H p o) := ⟨Ex.refl _, e.trans (Ex.new h), Ex.new h, fun _ z _ => z, fun z => z⟩
section
variable {G : Gx} {X : Cx} {E : XK} {pos : Pos} {es : List Expr} {n : Nat} {tr : TA} {wr : WA} {a : Expr} {ta : TE} {wa : WE}
theorem ex_none {S H : Hp} {p : Addr} (e : Ex S H) (h : H p = none) : S p = none := by
  cases q : S p with
  | none => rfl
  | some o => rw [e p o q] at h; cases h
theorem w_none {W : Addr → Option Nat} {S H : Hp} {m : Nat} {p : Addr} (g : Good G W S H m) (h : H p = none) : W p = none := by
  cases q : W p with
  | none => rfl
  | some i => exact absurd h (g.wo p i q).2
theorem vf_lst (ha : VA G X E es n tr wr) (hn : n ≤ 1000 := by decide) : VF G X E (.List es pos) (tLst tr) wr := ⟨ha.hK, pe_lst ha.pa,
  fun W S H σ e P X hs hw hk Q q => ha.ra W S H σ e _ X hs hw hk _ fun vs ds W1 S1 H1 e1 f1 s1 d1 l1 h1 => ⟨by rw [d1.len, l1]; exact small_line hn, fun p hp => by
    have nw := Nw.own (o := .lst vs) s1.gd.sh hp
    exact q p vs ds W1 _ _ e1 (f1.trans nw.fw) (s1.new nw) (f1.back hp) (ex_none s1.gd.sh hp) (w_none s1.gd hp) upd_same d1 h1⟩⟩
/-- x = a new list, owned from now on -/
def wSetOw (i : Nat) (wl : WA) : WS := fun A X e => wl e (fun ds e1 => A.nx (e1.set i (.ow ds))) X
theorem Sim.own {W : Addr → Option Nat} {S H : Hp} {σ : L2.St} {e : En} (h : Sim G W S H σ e) {i : Nat} {p : Addr} {vs : List V} {ds : List PyData} (hi : i < gcode) (hS : S p = none) (hW : W p = none) (hH : H p = some (.lst vs)) (hd : DtA G.K S vs ds) :
    Sim G (fun q => if q = p then some i else W q) S H (σ.set i (some (.ref p))) (e.set i (.ow ds)) := by
  have g : Good G (fun q => if q = p then some i else W q) S H e.fu := by
    refine ⟨h.gd.sh, fun q j w => ?_, fun q w => ?_, h.gd.tb, fun q j w => ?_, h.gd.st⟩
    · have w' : (if q = p then some i else W q) = some j := w
      by_cases hq : q = p
      · rw [hq]; exact ⟨hS, by rw [hH]; exact fun z => by cases z⟩
      · rw [if_neg hq] at w'; exact h.gd.wo q j w'
    · have w' : (if q = p then some i else W q) = some gcode := w
      by_cases hq : q = p
      · rw [if_pos hq] at w'
        have z := Option.some.inj w'
        rw [z] at hi; exact absurd hi (Nat.lt_irrefl _)
      · rw [if_neg hq] at w'; exact h.gd.ge q w'
    · have w' : (if q = p then some i else W q) = some j := w
      by_cases hq : q = p
      · rw [hq, hH]; exact ⟨_, rfl⟩
      · rw [if_neg hq] at w'; exact h.gd.tw q j w'
  have h2 : Sim G (fun q => if q = p then some i else W q) S H σ (e.set i .un) := by
    refine ⟨g, by show (e.sl.set i _).length ≤ _; rw [List.length_set]; exact h.ln, by show (e.sl.set i _).length ≤ _; rw [List.length_set]; exact h.sm, fun j s hs => ?_⟩
    have hs' : (e.sl.set i .un)[j]? = some s := hs
    by_cases hj : j = i
    · subst hj
      have hlt : j < e.sl.length := by
        have z := (List.getElem?_eq_some_iff.mp hs').1
        rwa [List.length_set] at z
      rw [List.getElem?_set_self hlt] at hs'
      cases hs'
      trivial
    · rw [List.getElem?_set_ne (Ne.symm hj)] at hs'
      have q := h.sl j s hs'
      have keep : ∀ q j', W q = some j' → (if q = p then some i else W q) = some j' := fun q j' w => by
        rw [if_neg (fun z => by rw [z, hW] at w; cases w)]; exact w
      cases s with
      | un => trivial
      | da d => exact q
      | op v => exact q
      | ow ds' => obtain ⟨p', vs', h1, h2, h3, h4⟩ := q; exact ⟨p', vs', h1, keep _ _ h2, h3, h4⟩
      | ge => obtain ⟨p', h1, h2⟩ := q; exact ⟨p', h1, keep _ _ h2⟩
      | er C d => obtain ⟨v, h1, h2⟩ := q; exact ⟨v, h1, h2.up (Ex.refl _) fun b o w iu e => ⟨e, by show (if b = p then some i else W b) = none; rw [if_neg (fun z => iu.2 vs (by rw [z, hH] at e; exact (Option.some.inj e).symm))]; exact w⟩⟩
      | sq ns => exact q
  have h3 := h2.set (i := i) (v := .ref p) (s := .ow ds) fun _ => ⟨p, vs, rfl, if_pos rfl, hH, hd⟩
  have e2 : (e.set i .un).set i (.ow ds) = e.set i (.ow ds) := by
    show En.mk _ _ = En.mk _ _
    congr 1
    exact List.set_set ..
  rw [e2] at h3
  exact h3
theorem Fw.own {W W1 : Addr → Option Nat} {S H S1 H1 : Hp} (f : Fw W S H W1 S1 H1) {p : Addr} {i : Nat} (hp : H p = none) (hW : W1 p = none) : Fw W S H (fun q => if q = p then some i else W1 q) S1 H1 := by
  refine ⟨f.ss, f.hh, f.ht, f.nw, fun q z => ?_, fun q z => ?_, f.tb⟩
  · have z' : (if q = p then some i else W1 q) ≠ none := z
    by_cases hq : q = p
    · rw [hq]; exact .inr hp
    · rw [if_neg hq] at z'; exact f.wn q z'
  · show (if q = p then some i else W1 q) = some gcode
    have w := f.gn q z
    rw [if_neg (fun y => by rw [y, hW] at w; cases w)]; exact w
theorem vs_setOw (i : Nat) {x : Str} {p1 : Pos} (hN : X.N.Nodup) (ha : VF G X E a ta wr) (hi : X.N[i]? = some x := by rfl) (hx : Loc X.env.scope x := by first | exact Or.inl rfl | exact Or.inr rfl) (hs : swapsWith a (some (.Name x p1)) pos.line X.env = pure false := by rfl)
    (hf : X.fn x = true ∨ X.env.scope.names.lookup x = some .local := by first | exact Or.inl rfl | exact Or.inr rfl) (hg : i < gcode := by decide) : VS G X E (.Assign [.Name x p1] a pos) (tAsg ta (gName i)) (wSetOw i wr) := ⟨ha.hK, ps_set hN hi hx ha.pe hs hf, fun W S H σ e A X hs hw hk D n _ _ _ => ha.rf W S H σ e _ X hs hw hk _ fun p vs ds W1 S1 H1 e1 f1 s1 n1 n2 n3 h1 d1 hp =>
  n _ S1 H1 _ _ (f1.own n1 n3) (s1.own hg n2 n3 h1 d1) hp⟩
/-- the owned list at slot i is written -/
theorem Sim.put {W : Addr → Option Nat} {S H : Hp} {σ : L2.St} {e : En} (h : Sim G W S H σ e) {i : Nat} {p : Addr} {vs us : List V} {ds es : List PyData} (hi : e.sl[i]? = some (.ow ds)) (hσ : σ[i]? = some (some (.ref p))) (hW : W p = some i) (hH : H p = some (.lst vs)) (hd : DtA G.K S us es) :
    Fw W S H W S (upd H p (.lst us)) ∧ Sim G W S (upd H p (.lst us)) σ (e.set i (.ow es)) := by
  have hlt : i < e.sl.length := (List.getElem?_eq_some_iff.mp hi).1
  have hg : i ≠ gcode := Nat.ne_of_lt (Nat.lt_of_lt_of_le hlt h.sm)
  have hS := (h.gd.wo p i hW).1
  have other : ∀ q, q ≠ p → upd H p (.lst us) q = H q := fun q hq => upd_ne hq
  have some' : ∀ q, H q ≠ none → upd H p (.lst us) q ≠ none := fun q hq => by
    by_cases e : q = p
    · rw [e, upd_same]; exact fun z => by cases z
    · rw [other q e]; exact hq
  refine ⟨⟨Ex.refl _, fun q o w _ z => ?_, some', fun _ z _ _ => z, fun _ z => .inl z, fun _ z => z, fun q ps z => ⟨ps, ?_⟩⟩, ⟨⟨fun q o z => ?_, fun q j w => ⟨(h.gd.wo q j w).1, some' q (h.gd.wo q j w).2⟩, fun q w => ?_, fun t ht => ?_, fun q j w => ?_, h.gd.st⟩, ?_, ?_, fun j s hs => ?_⟩⟩
  · rw [other q (fun y => by rw [y, hW] at w; cases w)]; exact z
  · rw [other q (fun y => by rw [y, hH] at z; cases z)]; exact z
  · rw [other q (fun y => by rw [y, hS] at z; cases z)]; exact h.gd.sh q o z
  · obtain ⟨x, y, z, h1, h2⟩ := h.gd.ge q w
    exact ⟨x, y, z, by rw [other q (fun y => by rw [y, hW] at w; exact hg (Option.some.inj w))]; exact h1, h2⟩
  · obtain ⟨ps, a1, a2, a3⟩ := h.gd.tb t ht
    refine ⟨ps, by rw [other _ (fun y => by rw [y, hH] at a1; cases a1)]; exact a1, a2, fun q cv hc => ?_⟩
    obtain ⟨c, b1, b2⟩ := a3 q cv hc
    exact ⟨c, b1, by rw [other _ (fun y => by rw [y, hH] at b2; unfold LamX.CodeO at b2; cases b2)]; exact b2⟩
  · by_cases hq : q = p
    · rw [hq, upd_same]; exact ⟨_, rfl⟩
    · rw [other q hq]; exact h.gd.tw q j w
  · show (e.sl.set i _).length ≤ _
    rw [List.length_set]; exact h.ln
  · show (e.sl.set i _).length ≤ _
    rw [List.length_set]; exact h.sm
  · have hs' : (e.sl.set i (.ow es))[j]? = some s := hs
    by_cases hj : j = i
    · subst hj
      rw [List.getElem?_set_self hlt] at hs'
      cases hs'
      exact ⟨p, us, hσ, hW, upd_same, hd⟩
    · rw [List.getElem?_set_ne (Ne.symm hj)] at hs'
      have q := h.sl j s hs'
      cases s with
      | un => trivial
      | da d => exact q
      | op v => exact q
      | ow ds' => obtain ⟨p', vs', h1, h2, h3, h4⟩ := q; exact ⟨p', vs', h1, h2, by rw [other p' (fun y => by rw [y, hW] at h2; exact hj (Option.some.inj h2).symm)]; exact h3, h4⟩
      | ge => exact q
      | er C d => obtain ⟨v, h1, h2⟩ := q; exact ⟨v, h1, h2.up (Ex.refl _) fun b o w iu e => ⟨by rw [other b (fun z => iu.2 vs (by rw [z, hH] at e; exact (Option.some.inj e).symm))]; exact e, w⟩⟩
      | sq ns => exact q
/-- x.append(e), x an owned list -/
def wApp (i : Nat) (we : WE) : WS := fun A X e => we e (fun d e1 => match e1.sl[i]? with
  | some (.ow ds) => ds.length < 1000000 ∧ A.nx (e1.set i (.ow (ds ++ [d])))
  | _ => False) X
def wAppPre (i : Nat) (we : WE) : WS := fun A X e => match e.sl[i]? with
  | some (.ow _) => wApp i we A X e
  | _ => False
theorem vs_app (i : Nat) {x : Str} {p1 apos cpos : Pos} (ha : VE G X E a ta wa) (hN : X.N[i]? = some x := by rfl) (hv : Vis X.env.scope x := by first | exact Or.inl rfl | exact Or.inr (Or.inl rfl) | exact Or.inr (Or.inr rfl)) (hd : (x == ("__debug__" : Str)) = false := by decide)
    (hcd : (x == ("__classdict__" : Str)) = false := by decide) (hbase : attributeBase (.Name x p1) "append" X.env (eval (.Name x p1) X.env) = eval (.Name x p1) X.env := by rfl)
    (hfew : ((backTo cpos (starEach [a] X.env)).all (fun x => !x.1) && (backToKw cpos (keywordEach [] X.env)).all (fun x => x.1.isSome) && decide ([a].length + ([] : List Keyword).length + (if ([] : List Keyword).isEmpty then 0 else 1) < 30)) = true := by rfl)
    (hline : (apos.endLine == cpos.line) = true := by rfl) (hs1 : starEach [a] X.env = (false, eval a X.env) :: starEach [] X.env := by rfl) (hplain : (backTo cpos (starEach [] X.env)).any (·.1) = false := by rfl)
    (hs : swapsWith (.Call (.Attribute (.Name x p1) "append" apos) [a] [] cpos) none pos.line X.env = pure false := by rfl) :
    VS G X E (.Expr (.Call (.Attribute (.Name x p1) "append" apos) [a] [] cpos) pos) (tDrop (tBM G.K "list" rAppend (tVar i) (tCons ta tNil))) (wAppPre i wa) := by
  refine ⟨ha.hK, ps_expr (by rw [← ha.hK]; exact pe_bm PySem.F.plainAttrs_list PySem.F.slot_list_append PySem.F.type_list_append mt_append (pe_var hN hv hd hcd) (pa_cons ha.pe pa_nil hs1) hbase hfew hline hs1 hplain) hs, fun W S H σ e A X hs hw hk D n _ _ _ => ?_⟩
  unfold wAppPre at hw
  split at hw
  · rename_i ds0 hi0
    obtain ⟨p, vs0, h1, h2, h3, h4⟩ := hs.sl i _ hi0
    refine ⟨_, h1, .inl ⟨rfl, vs0, .inl (.inl h3)⟩, ha.re W S H σ e _ X hs hw hk _ fun v d W1 S1 H1 e1 f1 s1 d1 hp => ?_⟩
    split at hp
    · rename_i ds hi
      obtain ⟨p', vs, k1, k2, k3, k4⟩ := s1.sl i _ hi
      rw [h1] at k1
      cases k1
      obtain ⟨hl, hn⟩ := hp
      obtain ⟨f2, s2⟩ := s1.put hi h1 k2 k3 (k4.app (.one d1))
      refine ⟨p, vs, v, rfl, rfl, k3, Nat.lt_of_lt_of_le (by rw [k4.len]; exact hl) (by decide : 1000000 ≤ sizeLine), n W1 S1 _ σ _ (f1.trans f2) s2 hn⟩
    · exact hp.elim
  · exact hw.elim
end
end VL

end
section
set_option Elab.async false
set_option linter.all false
set_option maxRecDepth 100000
set_option maxHeartbeats 2000000
namespace VL
open PySem PySem.Spec PyProof.Rows L2

/-! ### what is walked -/
/-- J yields these data one after the other, as long as S and H only grow -/
def Yld (G : Gx) (J : It) (ds : List PyData) (S0 H0 : Hp) : Prop := ∀ i S H, Ex S0 S → Ex S H → (∀ d, ds[i]? = some d → J.go i H ∧ ∀ x H', J.yld i H x H' → ∃ S', Nw S H S' H' ∧ Dt G.K S' x d) ∧ (ds[i]? = none → J.stop i H)
def RI (G : Gx) (E : XK) (wi : TI) (wit : WA) : Prop := ∀ W S H σ e P X, Sim G W S H σ e → wit e P X → KP G E W S H X → ∀ R : It → Hp → Prop,
  (∀ J ds W' S' H' e', Fw W S H W' S' H' → Sim G W' S' H' σ e' → Yld G J ds S' H' → P ds e' → R J H') → wi σ H R
structure VI (G : Gx) (X : Cx) (E : XK) (tg e : Expr) (wi : TI) (wit : WA) : Prop where
  hK : X.K = G.K
  pi : PI X tg e wi
  ri : RI G E wi wit
/-- the items of a list or a tuple -/
def wSeqI (we : WE) : WA := fun e P X => we e (fun d e1 => match d with | .list ds => P ds e1 | .tuple ds => P ds e1 | _ => False) X
def rng (lo : Int) (n : Nat) : List PyData := (List.range n).map fun i => .int (lo + (i : Nat))
def small62 (j : Int) : Prop := -(2 ^ 62) ≤ j ∧ j < 2 ^ 62
def wRng1 (wa : WA) : WA := fun e P X => wa e (fun ds e1 => match ds with | [.int j] => small62 j ∧ P (rng 0 j.toNat) e1 | _ => False) X
def wRng2 (wa : WA) : WA := fun e P X => wa e (fun ds e1 => match ds with | [.int i, .int j] => (small62 i ∧ small62 j) ∧ P (rng i (j - i).toNat) e1 | _ => False) X
def rngC (lo c : Int) (n : Nat) : List PyData := (List.range n).map fun i => .int (lo + (i : Nat) * c)
def wRng3 (wa : WA) : WA := fun e P X => wa e (fun ds e1 => match ds with | [.int i, .int j, .int c] => ∃ n, RgC i j c n ∧ P (rngC i c n) e1 | _ => False) X
def enumD (i : Nat) : List PyData → List PyData
  | [] => []
  | d :: ds => .tuple [.int i, d] :: enumD (i + 1) ds
def wEnum (wa : WA) : WA := fun e P X => wa e (fun ds e1 => match ds with | [.list ds] => P (enumD 0 ds) e1 | _ => False) X
def zipD (xs ys : List PyData) : List PyData := (xs.zip ys).map fun p => .tuple [p.1, p.2]
def wZip (wa : WA) : WA := fun e P X => wa e (fun ds e1 => match ds with | [.list xs, .list ys] => P (zipD xs ys) e1 | _ => False) X
theorem rng_get {lo : Int} {n i : Nat} {d : PyData} (h : (rng lo n)[i]? = some d) : i < n ∧ d = .int (lo + (i : Nat)) := by
  unfold rng at h
  rw [List.getElem?_map] at h
  cases q : (List.range n)[i]? with
  | none => rw [q] at h; cases h
  | some j =>
    rw [q] at h
    obtain ⟨q1, q2⟩ := List.getElem?_eq_some_iff.mp q
    rw [List.getElem_range] at q2
    rw [List.length_range] at q1
    subst q2
    exact ⟨q1, (Option.some.inj h).symm⟩
theorem rng_none {lo : Int} {n i : Nat} (h : (rng lo n)[i]? = none) : n ≤ i := by
  have := List.getElem?_eq_none_iff.mp h
  simpa [rng] using this
theorem rngC_get {lo c : Int} {n i : Nat} {d : PyData} (h : (rngC lo c n)[i]? = some d) : i < n ∧ d = .int (lo + (i : Nat) * c) := by
  unfold rngC at h
  rw [List.getElem?_map] at h
  cases q : (List.range n)[i]? with
  | none => rw [q] at h; cases h
  | some j =>
    rw [q] at h
    obtain ⟨q1, q2⟩ := List.getElem?_eq_some_iff.mp q
    rw [List.getElem_range] at q2
    rw [List.length_range] at q1
    subst q2
    exact ⟨q1, (Option.some.inj h).symm⟩
theorem rngC_none {lo c : Int} {n i : Nat} (h : (rngC lo c n)[i]? = none) : n ≤ i := by
  have := List.getElem?_eq_none_iff.mp h
  simpa [rngC] using this
theorem enumD_get : ∀ {ds : List PyData} {k i : Nat} {d : PyData}, (enumD k ds)[i]? = some d → ∃ x, ds[i]? = some x ∧ d = .tuple [.int ((k + i : Nat) : Int), x]
  | [], _, _, _, h => by simp [enumD] at h
  | x :: ds, k, 0, d, h => by simp [enumD] at h; exact ⟨x, rfl, by simp [← h]⟩
  | x :: ds, k, i + 1, d, h => by
    obtain ⟨y, h1, h2⟩ := enumD_get (ds := ds) (k := k + 1) (i := i) (d := d) (by simpa [enumD] using h)
    exact ⟨y, by simpa using h1, by rw [h2]; congr 4; omega⟩
theorem enumD_len : ∀ {ds : List PyData} {k : Nat}, (enumD k ds).length = ds.length
  | [], _ => rfl
  | x :: ds, k => by simp [enumD, enumD_len]
section
variable {G : Gx} {X : Cx} {E : XK} {pos : Pos} {a b c : Expr} {tg : Expr} {ta : TE} {wa : WE} {es : List Expr} {n : Nat} {tr : TA} {wr : WA}
theorem yld_list {ad : Addr} {xs : List V} {ds : List PyData} {S H : Hp} (hd : DtA G.K S xs ds) (ha : S ad = some (.lst xs)) : Yld G (Itl G.K ad) ds S H := fun i S' H' e e' => by
  have hH : H' ad = some (.lst xs) := e' _ _ (e _ _ ha)
  have hq : SqL G.K H' ad xs := .inl (.inl hH)
  refine ⟨fun d h => ?_, fun h => ⟨xs, hq, by rw [hd.len]; exact List.getElem?_eq_none_iff.mp h⟩⟩
  obtain ⟨v, h1, h2⟩ := hd.get h
  refine ⟨⟨xs, v, hq, h1⟩, fun x H2 y => ?_⟩
  obtain ⟨e2, y⟩ := y
  subst e2
  have z := y xs hq
  rw [h1] at z
  cases z
  exact ⟨S', .refl e', h2.up e⟩
theorem yld_tup {ad : Addr} {xs : List V} {ds : List PyData} {S H : Hp} (hd : DtA G.K S xs ds) (ha : SqT G.K S ad xs) : Yld G (Itt G.K ad) ds S H := fun i S' H' e e' => by
  have hq : SqT G.K H' ad xs := e'.st (e.st ha)
  refine ⟨fun d h => ?_, fun h => ⟨xs, hq, by rw [hd.len]; exact List.getElem?_eq_none_iff.mp h⟩⟩
  obtain ⟨v, h1, h2⟩ := hd.get h
  refine ⟨⟨xs, v, hq, h1⟩, fun x H2 y => ?_⟩
  obtain ⟨e2, y⟩ := y
  subst e2
  have z := y xs hq
  rw [h1] at z
  cases z
  exact ⟨S', .refl e', h2.up e⟩
theorem yld_rng {lo : Int} {n : Nat} {S H : Hp} : Yld G (Itr lo n) (rng lo n) S H := fun i S' H' e e' => by
  refine ⟨fun d h => ?_, fun h => rng_none h⟩
  obtain ⟨h1, h2⟩ := rng_get h
  subst h2
  refine ⟨h1, fun x H2 y => ?_⟩
  obtain ⟨e2, y⟩ := y
  subst e2 y
  exact ⟨S', .refl e', .int _⟩
theorem yld_rngC {lo c : Int} {n : Nat} {S H : Hp} : Yld G (Itc lo c n) (rngC lo c n) S H := fun i S' H' e e' => by
  refine ⟨fun d h => ?_, fun h => rngC_none h⟩
  obtain ⟨h1, h2⟩ := rngC_get h
  subst h2
  refine ⟨h1, fun x H2 y => ?_⟩
  obtain ⟨e2, y⟩ := y
  subst e2 y
  exact ⟨S', .refl e', .int _⟩
theorem yld_enum {ad : Addr} {xs : List V} {ds : List PyData} {S H : Hp} (hd : DtA G.K S xs ds) (ha : S ad = some (.lst xs)) : Yld G (Ite G.K ad) (enumD 0 ds) S H := fun i S' H' e e' => by
  have hH : H' ad = some (.lst xs) := e' _ _ (e _ _ ha)
  have hq : SqL G.K H' ad xs := .inl (.inl hH)
  refine ⟨fun d h => ?_, fun h => ⟨xs, hq, ?_⟩⟩
  · obtain ⟨x, h1, h2⟩ := enumD_get h
    obtain ⟨v, h3, h4⟩ := hd.get h1
    refine ⟨⟨xs, v, hq, h3⟩, fun y H2 hy => ?_⟩
    obtain ⟨T, x', hv, hT, hH2, hx⟩ := hy
    have z := hx xs hq
    rw [h3] at z
    cases z
    subst hv hH2 h2
    have nw := Nw.laid (o := .tup [.int (i : Nat), v]) e' hT
    refine ⟨_, nw, .tup (.inl (.inl upd_same)) (.cons ?_ (.one ((h4.up e).up nw.ss)))⟩
    rw [Nat.zero_add]
    exact .int _
  · have := List.getElem?_eq_none_iff.mp h
    rw [enumD_len] at this
    rw [hd.len]; exact this
theorem yld_zip {ad bd : Addr} {xs ys : List V} {ds es : List PyData} {S H : Hp} (hd : DtA G.K S xs ds) (ha : S ad = some (.lst xs)) (he : DtA G.K S ys es) (hb : S bd = some (.lst ys)) : Yld G (Itz G.K ad bd) (zipD ds es) S H := fun i S' H' e e' => by
  have hq : SqL G.K H' ad xs := .inl (.inl (e' _ _ (e _ _ ha)))
  have hq2 : SqL G.K H' bd ys := .inl (.inl (e' _ _ (e _ _ hb)))
  refine ⟨fun d h => ?_, fun h => ⟨xs, ys, hq, hq2, ?_⟩⟩
  · unfold zipD at h
    rw [List.getElem?_map] at h
    cases q : (ds.zip es)[i]? with
    | none => rw [q] at h; cases h
    | some p =>
      rw [q] at h
      obtain ⟨p1, p2⟩ := p
      rw [List.getElem?_zip_eq_some] at q
      have h2 : PyData.tuple [p1, p2] = d := Option.some.inj h
      subst h2
      obtain ⟨v, a1, a2⟩ := hd.get q.1
      obtain ⟨u, b1, b2⟩ := he.get q.2
      refine ⟨⟨xs, ys, v, u, hq, hq2, a1, b1⟩, fun y H2 hy => ?_⟩
      obtain ⟨T, x', y', hv, hT, hH2, hx, hy⟩ := hy
      have z := hx xs hq
      rw [a1] at z
      cases z
      have z := hy ys hq2
      rw [b1] at z
      cases z
      subst hv hH2
      have nw := Nw.laid (o := .tup [v, u]) e' hT
      exact ⟨_, nw, .tup (.inl (.inl upd_same)) (.cons ((a2.up e).up nw.ss) (.one ((b2.up e).up nw.ss)))⟩
  · have := List.getElem?_eq_none_iff.mp h
    unfold zipD at this
    rw [List.length_map, List.length_zip] at this
    rw [hd.len, he.len]
    omega
/-- a list or a tuple -/
def iSeq (K : PySem.W.Frag) (tl : TE) : TI := fun σ H R => tl σ H fun x H1 => ∃ a, x = .ref a ∧ (((∃ xs, SqL K H1 a xs) ∧ R (Itl K a) H1) ∨ ((∃ xs, SqT K H1 a xs) ∧ R (Itt K a) H1))
theorem pi_seq {l : Expr} {tl : TE} (hl : PE X l tl) : PI X tg l (iSeq X.K tl) := by
  refine ⟨fun pins s σ H R I h => ?_⟩
  refine thn (hl.run pins s σ H _ I h) fun v s1 ⟨x, H1, I1, r1, q1⟩ => ?_
  obtain ⟨a, e, q⟩ := q1
  subst e
  have cst : PE X l (fun σ' H' Q => σ' = σ ∧ H' = H1 ∧ Q (.ref a) H1) ∨ True := .inr trivial
  cases r1
  rcases q with ⟨⟨xs, hq⟩, q⟩ | ⟨⟨xs, hq⟩, q⟩
  · obtain ⟨its, rv, p, hz⟩ := I1.list hq
    refine wpAny_pyIter_list p.isList ⟨s1.heap.objs.size, [s1.heap.objs.size], _, _, H1, rfl, I1.kept (t' := s1.toks) fun b o e => Heap.get?_push_of_some _ e, turn_list a _, ⟨_, Heap.get?_push_size _ rfl, rfl, rfl⟩, fun b hb => ?_, q⟩
    obtain rfl : b = s1.heap.objs.size := by simpa using hb
    exact I1.fpOk (Nat.le_refl _) (I1.hok.fresh (Nat.le_refl _))
  · obtain ⟨its, rv, p, hz⟩ := I1.tuple hq
    refine wpAny_pyIter_tuple (show s1.heap.IsTuple a its.toArray from p) ⟨s1.heap.objs.size, [s1.heap.objs.size], _, _, H1, rfl, I1.kept (t' := s1.toks) fun b o e => Heap.get?_push_of_some _ e, turn_tuple a _, ⟨_, Heap.get?_push_size _ rfl, rfl, rfl⟩, fun b hb => ?_, q⟩
    obtain rfl : b = s1.heap.objs.size := by simpa using hb
    exact I1.fpOk (Nat.le_refl _) (I1.hok.fresh (Nat.le_refl _))
theorem vi_seq (ha : VE G X E a ta wa) : VI G X E tg a (iSeq G.K ta) (wSeqI wa) := ⟨ha.hK, by rw [← ha.hK]; exact pi_seq ha.pe, fun W S H σ e P X hs hw hk R q => ha.re W S H σ e _ X hs hw hk _ fun v d W1 S1 H1 e1 f1 s1 d1 hp => by
  split at hp
  · obtain ⟨ad, xs, rfl, h1, h2⟩ := dt_sl d1
    exact ⟨ad, rfl, .inl ⟨⟨xs, .inl (.inl (s1.gd.sh _ _ h1))⟩, q _ _ W1 S1 H1 e1 f1 s1 (yld_list h2 h1) hp⟩⟩
  · obtain ⟨ad, xs, rfl, h1, h2⟩ := dt_st d1
    exact ⟨ad, rfl, .inr ⟨⟨xs, s1.gd.sh.st h1⟩, q _ _ W1 S1 H1 e1 f1 s1 (yld_tup h2 h1) hp⟩⟩
  · exact hp.elim⟩
theorem vi_rng1 {p : Pos} (ha : VA G X E [a] 1 tr wr) (hm : X.mg "range" = none) (hg : Gl X "range" := by rfl) (hs : starEach [a] X.env = [(false, eval a X.env)] := by rfl) : VI G X E tg (.Call (.Name "range" p) [a] [] pos) (iRng1 tr) (wRng1 wr) :=
  ⟨ha.hK, pi_range1 hg hm ha.pa hs, fun W S H σ e P X hs hw hk R q => ha.ra W S H σ e _ X hs hw hk _ fun vs ds W1 S1 H1 e1 f1 s1 d1 _ hp => by
    split at hp
    · obtain ⟨v, rfl, h⟩ := rcs d1
      cases h
      exact ⟨_, rfl, hp.1.1, hp.1.2, q _ _ W1 S1 H1 e1 f1 s1 yld_rng hp.2⟩
    · exact hp.elim⟩
theorem vi_rng2 {p : Pos} (ha : VA G X E [a, b] 2 tr wr) (hm : X.mg "range" = none) (hg : Gl X "range" := by rfl) (hs : starEach [a, b] X.env = [(false, eval a X.env), (false, eval b X.env)] := by rfl) (hs2 : starEach [b] X.env = [(false, eval b X.env)] := by rfl) : VI G X E tg (.Call (.Name "range" p) [a, b] [] pos) (iRng2 tr) (wRng2 wr) :=
  ⟨ha.hK, pi_range2 hg hm ha.pa hs hs2, fun W S H σ e P X hs hw hk R q => ha.ra W S H σ e _ X hs hw hk _ fun vs ds W1 S1 H1 e1 f1 s1 d1 _ hp => by
    split at hp
    · obtain ⟨v, u, rfl, h, h'⟩ := rcs2 d1
      cases h; cases h'
      exact ⟨_, _, rfl, ⟨hp.1.1.1, hp.1.1.2, hp.1.2.1, hp.1.2.2⟩, q _ _ W1 S1 H1 e1 f1 s1 yld_rng hp.2⟩
    · exact hp.elim⟩
theorem vi_rng3 {p : Pos} (ha : VA G X E [a, b, c] 3 tr wr) (hm : X.mg "range" = none) (hg : Gl X "range" := by rfl) (hs : starEach [a, b, c] X.env = (false, eval a X.env) :: starEach [b, c] X.env := by rfl) (hpl : (backTo pos (starEach [b, c] X.env)).any (·.1) = false := by rfl) : VI G X E tg (.Call (.Name "range" p) [a, b, c] [] pos) (iRng3 tr) (wRng3 wr) :=
  ⟨ha.hK, pi_range3 hg hm ha.pa hs hpl, fun W S H σ e P X hs hw hk R q => ha.ra W S H σ e _ X hs hw hk _ fun vs ds W1 S1 H1 e1 f1 s1 d1 _ hp => by
    split at hp
    · cases d1 with
      | cons h t =>
        obtain ⟨v, u, rfl, h', h''⟩ := rcs2 t
        cases h; cases h'; cases h''
        obtain ⟨n, h1, h2⟩ := hp
        exact ⟨_, _, _, n, rfl, h1, q _ _ W1 S1 H1 e1 f1 s1 yld_rngC h2⟩
    · exact hp.elim⟩
theorem vi_enum {p tpos : Pos} {elts : List Expr} {kk : Nat} (ha : VA G X E [a] 1 tr wr) (hm : X.mg "enumerate" = none) (hg : Gl X "enumerate" := by rfl) (hs : starEach [a] X.env = [(false, eval a X.env)] := by rfl) : VI G X E (.Tuple elts kk tpos) (.Call (.Name "enumerate" p) [a] [] pos) (iEnum G.K tr) (wEnum wr) :=
  ⟨ha.hK, by rw [← ha.hK]; exact pi_enum hg hm ha.pa hs, fun W S H σ e P X hs hw hk R q => ha.ra W S H σ e _ X hs hw hk _ fun vs ds W1 S1 H1 e1 f1 s1 d1 _ hp => by
    split at hp
    · obtain ⟨v, rfl, h⟩ := rcs d1
      obtain ⟨ad, xs, rfl, h1, h2⟩ := dt_sl h
      exact ⟨ad, xs, rfl, .inl (.inl (s1.gd.sh _ _ h1)), q _ _ W1 S1 H1 e1 f1 s1 (yld_enum h2 h1) hp⟩
    · exact hp.elim⟩
theorem vi_zip {p tpos : Pos} {elts : List Expr} {kk : Nat} (ha : VA G X E [a, b] 2 tr wr) (hm : X.mg "zip" = none) (hg : Gl X "zip" := by rfl) (hs : starEach [a, b] X.env = (false, eval a X.env) :: starEach [b] X.env := by rfl) (hpl : (backTo pos (starEach [b] X.env)).any (·.1) = false := by rfl) : VI G X E (.Tuple elts kk tpos) (.Call (.Name "zip" p) [a, b] [] pos) (iZip G.K tr) (wZip wr) :=
  ⟨ha.hK, by rw [← ha.hK]; exact pi_zip hg hm ha.pa hs hpl, fun W S H σ e P X hs hw hk R q => ha.ra W S H σ e _ X hs hw hk _ fun vs ds W1 S1 H1 e1 f1 s1 d1 _ hp => by
    split at hp
    · obtain ⟨v, u, rfl, h, h'⟩ := rcs2 d1
      obtain ⟨ad, xs, rfl, h1, h2⟩ := dt_sl h
      obtain ⟨bd, ys, rfl, h3, h4⟩ := dt_sl h'
      exact ⟨ad, bd, xs, ys, rfl, .inl (.inl (s1.gd.sh _ _ h1)), .inl (.inl (s1.gd.sh _ _ h3)), q _ _ W1 S1 H1 e1 f1 s1 (yld_zip h2 h1 h4 h3) hp⟩
    · exact hp.elim⟩

/-! ### for -/
def loop (wg : WG) (wb : WS) (A : EV) (X : XP) : List PyData → En → Prop
  | [] => A.nx
  | d :: ds => fun e => wg d e fun e1 => wb { nx := loop wg wb A X ds, rt := A.rt, bk := A.nx, ct := loop wg wb A X ds } X e1
def wFor (wi : WA) (wg : WG) (wb : WS) : WS := fun A X e => wi e (fun ds e1 => loop wg wb A X ds e1) X
theorem rs_for {wi : TI} {wit : WA} {g : TG} {wg : WG} {tb : TS} {wb : WS} (hi : RI G E wi wit) (hg : RG G g wg) (hb : RS G E tb wb) : RS G E (tFor wi g tb) (wFor wit wg wb) := fun W S H σ e A X hs hw hk D n r b c =>
  hi W S H σ e _ X hs hw hk _ fun J ds W1 S1 H1 e1 f1 s1 y1 h1 => by
    refine ⟨fun i m σ' H' => m = ds.length - i ∧ i ≤ ds.length ∧ ∃ W' S' e', Fw W1 S1 H1 W' S' H' ∧ Sim G W' S' H' σ' e' ∧ loop wg wb A X (ds.drop i) e', ⟨ds.length, rfl, Nat.zero_le _, W1, S1, e1, .refl, s1, h1⟩, ?_⟩
    rintro i m σ' H' ⟨rfl, hi, W', S', e', f', s', hl⟩
    obtain ⟨yg, ys⟩ := y1 i S' H' f'.ss s'.gd.sh
    by_cases hlt : i < ds.length
    · have hd : ds[i]? = some ds[i] := List.getElem?_eq_getElem hlt
      rw [List.drop_eq_getElem_cons hlt] at hl
      obtain ⟨go, yv⟩ := yg _ hd
      refine .inr ⟨go, fun σ2 H2 => ∃ W2 S2 e2, Fw W1 S1 H1 W2 S2 H2 ∧ Sim G W2 S2 H2 σ2 e2 ∧ loop wg wb A X (ds.drop (i + 1)) e2, fun σ2 H2 ⟨W2, S2, e2, f2, s2, h2⟩ => ⟨ds.length - (i + 1), by omega, rfl, hlt, W2, S2, e2, f2, s2, h2⟩, fun x H2 hy => ?_⟩
      obtain ⟨S2, nw, hx⟩ := yv x H2 hy
      refine hg W' S2 H2 σ' e' x _ _ (s'.new nw) hx hl _ fun W3 S3 H3 σ3 e3 f3 s3 h3 => ?_
      have f03 := f'.trans (nw.fw.trans f3)
      exact hb W3 S3 H3 σ3 e3 _ X s3 h3 (hk.next (f1.trans f03)) _ (fun W4 S4 H4 σ4 e4 f4 s4 h4 => ⟨W4, S4, e4, f03.trans f4, s4, h4⟩) (fun v d W4 S4 H4 n4 f4 g4 d4 h4 => r v d W4 S4 H4 n4 ((f1.trans f03).trans f4) g4 d4 h4)
        (fun W4 S4 H4 σ4 e4 f4 s4 h4 => n W4 S4 H4 σ4 e4 ((f1.trans f03).trans f4) s4 h4) (fun W4 S4 H4 σ4 e4 f4 s4 h4 => ⟨W4, S4, e4, f03.trans f4, s4, h4⟩)
    · have e0 : i = ds.length := by omega
      rw [e0, List.drop_length] at hl
      exact .inl ⟨ys (by rw [e0]; simp), n W' S' H' σ' e' (f1.trans f') s' hl⟩
theorem vs_for {body : List Stmt} {wi : TI} {wit : WA} {g : TG} {wg : WG} {tb : TS} {wb : WS} (hp : PassesOwn (model X.prog X.w) X.A X.env X.xe) (hi : VI G X E tg a wi wit) (hg : VG G X tg g wg) (hb : VSs G X E body tb wb) (hc : X.calm = true := by rfl)
    (hs : ∀ x, foldedSetIterable a X.env x = pure x := by intro _; rfl) : VS G X E (.For tg a body [] pos) (tFor wi g tb) (wFor wit wg wb) := ⟨hi.hK, ps_for hp hc hi.pi hg.pg hb.ps hs, rs_for hi.ri hg.rg hb.rs⟩

/-! ### while -/
def wWhile (wt : WT) (wb : WS) : WS := fun A X e => ∃ I : Nat → En → Prop, (∃ m, I m e) ∧ ∀ m e', I m e' → wt e' (fun b e1 => (b = true → wb { nx := fun e2 => ∃ m', m' < m ∧ I m' e2, rt := A.rt, bk := A.nx, ct := fun e2 => ∃ m', m' < m ∧ I m' e2 } X e1) ∧ (b = false → A.nx e1)) X
theorem rs_while {tc : TT} {wt : WT} {tb : TS} {wb : WS} (hc : RT G E tc wt) (hb : RS G E tb wb) : RS G E (tWhile tc tb) (wWhile wt wb) := fun W S H σ e A X hs hw hk D n r b c => by
  obtain ⟨I, ⟨m0, i0⟩, turn⟩ := hw
  refine ⟨fun m σ' H' => ∃ W' S' e', Fw W S H W' S' H' ∧ Sim G W' S' H' σ' e' ∧ I m e', ⟨m0, W, S, e, .refl, hs, i0⟩, ?_⟩
  rintro m σ' H' ⟨W', S', e', f', s', hi⟩
  refine hc W' S' H' σ' e' _ X s' (turn m e' hi) (hk.next f') _ fun k W1 S1 H1 e1 f1 s1 h1 => ?_
  have f01 := f'.trans f1
  cases k with
  | true =>
    rw [if_pos rfl]
    refine ⟨fun σ2 H2 => ∃ W2 S2 e2, Fw W S H W2 S2 H2 ∧ Sim G W2 S2 H2 σ2 e2 ∧ ∃ m', m' < m ∧ I m' e2, fun σ2 H2 ⟨W2, S2, e2, f2, s2, m', hm, h2⟩ => ⟨m', hm, W2, S2, e2, f2, s2, h2⟩, ?_⟩
    exact hb W1 S1 H1 σ' e1 _ X s1 (h1.1 rfl) (hk.next f01) _ (fun W4 S4 H4 σ4 e4 f4 s4 h4 => ⟨W4, S4, e4, f01.trans f4, s4, h4⟩) (fun v d W4 S4 H4 n4 f4 g4 d4 h4 => r v d W4 S4 H4 n4 (f01.trans f4) g4 d4 h4)
        (fun W4 S4 H4 σ4 e4 f4 s4 h4 => n W4 S4 H4 σ4 e4 (f01.trans f4) s4 h4) (fun W4 S4 H4 σ4 e4 f4 s4 h4 => ⟨W4, S4, e4, f01.trans f4, s4, h4⟩)
  | false => rw [if_neg Bool.false_ne_true]; exact n W1 S1 H1 σ' e1 f01 s1 (h1.2 rfl)
theorem vs_while {body : List Stmt} {tc : TT} {wt : WT} {tb : TS} {wb : WS} (hp : PassesOwn (model X.prog X.w) X.A X.env X.xe) (hc : VT G X E a tc wt) (hb : VSs G X E body tb wb) : VS G X E (.While a body [] pos) (tWhile tc tb) (wWhile wt wb) := ⟨hc.hK, ps_while hp hc.pt hb.ps, rs_while hc.rt hb.rs⟩

/-! ### list comprehensions -/
abbrev E00 : XK := fun _ _ _ => False
theorem kp0 {W : Addr → Option Nat} {S H : Hp} {X : XP} (h : ∀ C d n, ¬ X C d n) : KP G E00 W S H X := fun C x v d W' S' H' n' _ _ _ _ q => absurd q (h C d n')
end
end VL

end
section
set_option Elab.async false
set_option linter.all false
set_option maxRecDepth 100000
set_option maxHeartbeats 2000000
namespace VL
open PySem PySem.Spec PyProof.Rows L2

section
variable {G : Gx} {X : Cx} {E : XK} {pos : Pos}
/-! ### a fresh list as data -/
theorem Fw.seal {W0 W : Addr → Option Nat} {S0 H0 S H : Hp} {p : Addr} {o : HO} (f : Fw W0 S0 H0 W S H) (h0 : H0 p = none) (hS : S p = none) : Fw W0 S0 H0 W (upd S p o) H :=
  ⟨f.ss.trans (Ex.new hS), f.hh, f.ht, fun q a b c => by rw [upd_ne (fun z => b (by rw [z]; exact h0))]; exact f.nw q a b c, f.wn, f.gn, f.tb⟩
theorem Sim.seal {W : Addr → Option Nat} {S H : Hp} {σ : L2.St} {e : En} {p : Addr} {vs : List V} (h : Sim G W S H σ e) (hS : S p = none) (hW : W p = none) (hH : H p = some (.lst vs)) : Sim G W (upd S p (.lst vs)) H σ e := by
  have ex : Ex S (upd S p (.lst vs)) := Ex.new hS
  refine ⟨⟨fun a o q => ?_, fun q j w => ?_, h.gd.ge, h.gd.tb, h.gd.tw, fun q ps z => ?_⟩, h.ln, h.sm, fun i s hs => ?_⟩
  · by_cases ha : a = p
    · subst ha; rw [upd_same] at q; cases q; exact hH
    · rw [upd_ne ha] at q; exact h.gd.sh a o q
  · obtain ⟨a, b⟩ := h.gd.wo q j w
    exact ⟨by rw [upd_ne (fun z => by rw [z, hW] at w; cases w)]; exact a, b⟩
  · by_cases hq : q = p
    · subst hq; rw [upd_same] at z; cases z
    · rw [upd_ne hq] at z; exact h.gd.st q ps z
  · have q := h.sl i s hs
    cases s with
    | un => trivial
    | da d => obtain ⟨v, h1, h2⟩ := q; exact ⟨v, h1, h2.up ex⟩
    | op v => exact q
    | ow ds => obtain ⟨p', vs', h1, h2, h3, h4⟩ := q; exact ⟨p', vs', h1, h2, h3, h4.up ex⟩
    | ge => exact q
    | er C d => obtain ⟨v, h1, h2⟩ := q; exact ⟨v, h1, h2.up ex fun b o w _ e => ⟨e, w⟩⟩
    | sq ns => obtain ⟨b, h1, h2⟩ := q; exact ⟨b, h1, ex.sl h2⟩
theorem VF.ve {a : Expr} {ta : TE} {wl : WA} (h : VF G X E a ta wl) : VE G X E a ta (wLst wl) := ⟨h.hK, h.pe, fun W S H σ e P X hs hw hk Q q => h.rf W S H σ e _ X hs hw hk _ fun p vs ds W1 S1 H1 e1 f1 s1 n1 n2 n3 h1 d1 hp =>
  q (.ref p) (.list ds) W1 _ H1 e1 (f1.seal n1 n2) (s1.seal n2 n3 h1) (.lst upd_same (d1.up (Ex.new n2))) hp⟩
/-- a private list is written -/
theorem Sim.priv {W : Addr → Option Nat} {S H : Hp} {σ : L2.St} {e : En} {p : Addr} {vs us : List V} (h : Sim G W S H σ e) (hS : S p = none) (hW : W p = none) (hH : H p = some (.lst vs)) : Sim G W S (upd H p (.lst us)) σ e := by
  have other : ∀ q, q ≠ p → upd H p (.lst us) q = H q := fun q hq => upd_ne hq
  have nW : ∀ q i, W q = some i → q ≠ p := fun q i w z => by rw [z, hW] at w; cases w
  refine ⟨⟨fun q o z => ?_, fun q j w => ?_, fun q w => ?_, fun t ht => ?_, fun q j w => ?_, h.gd.st⟩, h.ln, h.sm, fun j s hs => ?_⟩
  · rw [other q (fun y => by rw [y, hS] at z; cases z)]; exact h.gd.sh q o z
  · rw [other q (nW q j w)]; exact h.gd.wo q j w
  · obtain ⟨x, y, z, h1, h2⟩ := h.gd.ge q w
    exact ⟨x, y, z, by rw [other q (nW q _ w)]; exact h1, h2⟩
  · obtain ⟨ps, a1, a2, a3⟩ := h.gd.tb t ht
    refine ⟨ps, by rw [other _ (fun y => by rw [y, hH] at a1; cases a1)]; exact a1, a2, fun q cv hc => ?_⟩
    obtain ⟨c, b1, b2⟩ := a3 q cv hc
    exact ⟨c, b1, by rw [other _ (fun y => by rw [y, hH] at b2; unfold LamX.CodeO at b2; cases b2)]; exact b2⟩
  · rw [other q (nW q j w)]; exact h.gd.tw q j w
  · have q := h.sl j s hs
    cases s with
    | un => trivial
    | da d => exact q
    | op v => exact q
    | ow ds' => obtain ⟨p', vs', h1, h2, h3, h4⟩ := q; exact ⟨p', vs', h1, h2, by rw [other p' (nW p' _ h2)]; exact h3, h4⟩
    | ge => exact q
    | er C d => obtain ⟨v, h1, h2⟩ := q; exact ⟨v, h1, h2.up (Ex.refl _) fun b o w iu e => ⟨by rw [other b (fun z => iu.2 vs (by rw [z, hH] at e; exact (Option.some.inj e).symm))]; exact e, w⟩⟩
    | sq ns => exact q
theorem Fw.priv {W0 W : Addr → Option Nat} {S0 H0 S H : Hp} {p : Addr} {vs us : List V} (f : Fw W0 S0 H0 W S H) (h0 : H0 p = none) (hH : H p = some (.lst vs)) : Fw W0 S0 H0 W S (upd H p (.lst us)) :=
  ⟨f.ss, fun q o a b c => by rw [upd_ne (fun z => by rw [z, h0] at c; cases c)]; exact f.hh q o a b c, fun q a => by rw [upd_ne (fun z => a (by rw [z]; exact h0))]; exact f.ht q a, f.nw, f.wn, f.gn, fun q ps a => by
    rw [upd_ne (fun z => by rw [z, h0] at a; cases a)]; exact f.tb q ps a⟩

/-! ### the block's own slots -/
def En.wipe (e : En) (vs : List Nat) : En := ⟨vs.foldr (fun v s => s.set v .un) e.sl, e.fu⟩
theorem wipe_len (l : List Sl) (vs : List Nat) : (vs.foldr (fun v s => s.set v Sl.un) l).length = l.length := by
  induction vs with
  | nil => rfl
  | cons v vs ih => rw [List.foldr_cons, List.length_set, ih]
theorem wipe_sl {l : List Sl} {vs : List Nat} {i : Nat} {s : Sl} (h : (vs.foldr (fun v s => s.set v Sl.un) l)[i]? = some s) : s = .un ∨ (i ∉ vs ∧ l[i]? = some s) := by
  induction vs with
  | nil => exact .inr ⟨by simp, h⟩
  | cons v vs ih =>
    rw [List.foldr_cons] at h
    by_cases hv : v = i
    · subst hv
      have hlt : v < (vs.foldr (fun v s => s.set v Sl.un) l).length := by
        have z := (List.getElem?_eq_some_iff.mp h).1
        rwa [List.length_set] at z
      rw [List.getElem?_set_self hlt] at h
      exact .inl (Option.some.inj h).symm
    · rw [List.getElem?_set_ne hv] at h
      rcases ih h with z | ⟨z1, z2⟩
      · exact .inl z
      · exact .inr ⟨by simp only [List.mem_cons, not_or]; exact ⟨fun e => hv e.symm, z1⟩, z2⟩
theorem Sim.wipe {W : Addr → Option Nat} {S H : Hp} {σ σ2 : L2.St} {e : En} {vs : List Nat} (h : Sim G W S H σ2 e) (hw : L2.wipe σ2 vs = L2.wipe σ vs) : Sim G W S H (L2.wipe σ vs) (e.wipe vs) := by
  refine ⟨h.gd, ?_, ?_, fun i s hs => ?_⟩
  · show (vs.foldr _ e.sl).length ≤ _
    rw [wipe_len, ← hw, L2.wipe_length]; exact h.ln
  · show (vs.foldr _ e.sl).length ≤ _
    rw [wipe_len]; exact h.sm
  · rcases wipe_sl hs with z | ⟨z1, z2⟩
    · subst z; trivial
    · have q := h.sl i s z2
      rw [← hw, L2.wipe_out z1]; exact q
theorem Sim.unwipe {W : Addr → Option Nat} {S H : Hp} {σ : L2.St} {e : En} {vs : List Nat} (h : Sim G W S H (L2.wipe σ vs) e) : Sim G W S H σ e := by
  refine ⟨h.gd, by have := h.ln; rwa [L2.wipe_length] at this, h.sm, fun i s hs => ?_⟩
  have q := h.sl i s hs
  have up : ∀ v, (L2.wipe σ vs)[i]? = some (some v) → σ[i]? = some (some v) := fun v z => (L2.wipe_some z).1
  cases s with
  | un => trivial
  | da d => obtain ⟨v, h1, h2⟩ := q; exact ⟨v, up _ h1, h2⟩
  | op v => exact up _ q
  | ow ds => obtain ⟨p', vs', h1, h2, h3, h4⟩ := q; exact ⟨p', vs', up _ h1, h2, h3, h4⟩
  | ge => obtain ⟨p', h1, h2⟩ := q; exact ⟨p', up _ h1, h2⟩
  | er C d => obtain ⟨v, h1, h2⟩ := q; exact ⟨v, up _ h1, h2⟩
  | sq ns => obtain ⟨b, h1, h2⟩ := q; exact ⟨b, up _ h1, h2⟩
/-- the target sets no slots but those in vs -/
def GW (vs : List Nat) (g : TG) : Prop := ∀ v σ H Q Q', (∀ σ' H', Q σ' H' → L2.wipe σ' vs = L2.wipe σ vs → Q' σ' H') → g v σ H Q → g v σ H Q'
def GWs (vs : List Nat) (g : TGs) : Prop := ∀ v σ H Q Q', (∀ σ' H', Q σ' H' → L2.wipe σ' vs = L2.wipe σ vs → Q' σ' H') → g v σ H Q → g v σ H Q'
theorem wipe_setIn {σ : L2.St} {i : Nat} {o : Option V} : ∀ {vs : List Nat}, i ∈ vs → L2.wipe (σ.set i o) vs = L2.wipe σ vs
  | [], h => by simp at h
  | v :: vs, h => by
    show (L2.wipe (σ.set i o) vs).set v none = (L2.wipe σ vs).set v none
    by_cases hi : i ∈ vs
    · rw [wipe_setIn hi]
    · have e : i = v := by
        rcases List.mem_cons.mp h with z | z
        · exact z
        · exact absurd z hi
      subst e
      have key : ∀ {ws : List Nat}, i ∉ ws → L2.wipe (σ.set i o) ws = (L2.wipe σ ws).set i o := by
        intro ws
        induction ws with
        | nil => intro _; rfl
        | cons w ws ih =>
          intro hn
          simp only [List.mem_cons, not_or] at hn
          show (L2.wipe (σ.set i o) ws).set w none = ((L2.wipe σ ws).set w none).set i o
          rw [ih hn.2, List.set_comm _ _ hn.1]
      rw [key hi, List.set_set]
theorem set_wipe {σ : L2.St} {w : Nat} : ∀ {vs : List Nat}, w ∈ vs → (L2.wipe σ vs).set w none = L2.wipe σ vs
  | [], h => by simp at h
  | v :: vs, h => by
    show ((L2.wipe σ vs).set v none).set w none = (L2.wipe σ vs).set v none
    by_cases e : w = v
    · subst e; rw [List.set_set]
    · have hw : w ∈ vs := by
        rcases List.mem_cons.mp h with z | z
        · exact absurd z e
        · exact z
      rw [List.set_comm _ _ (Ne.symm e), set_wipe hw]
theorem wipe_sub {σ : L2.St} {vs : List Nat} : ∀ {ws : List Nat}, (∀ w ∈ ws, w ∈ vs) → L2.wipe (L2.wipe σ vs) ws = L2.wipe σ vs
  | [], _ => rfl
  | w :: ws, h => by
    show (L2.wipe (L2.wipe σ vs) ws).set w none = _
    rw [wipe_sub fun x hx => h x (List.mem_cons_of_mem _ hx), set_wipe (h w (List.mem_cons_self ..))]
theorem wipe_wipe {σ : L2.St} {vs : List Nat} : L2.wipe (L2.wipe σ vs) vs = L2.wipe σ vs := wipe_sub fun _ h => h
theorem gw_n {vs : List Nat} {i : Nat} (h : i ∈ vs) : GW vs (gName i) := fun v σ H Q Q' m q => m _ _ q (wipe_setIn h)
theorem gw_nil {vs : List Nat} : GWs vs gNil := fun v σ H Q Q' m q => ⟨q.1, m _ _ q.2 rfl⟩
theorem gw_cons {vs : List Nat} {t : TG} {u : TGs} (ht : GW vs t) (hu : GWs vs u) : GWs vs (gCons t u) := fun v σ H Q Q' m q => by
  obtain ⟨x, r, e, q⟩ := q
  exact ⟨x, r, e, ht x σ H _ _ (fun σ1 H1 q1 w1 => hu r σ1 H1 _ _ (fun σ2 H2 q2 w2 => m σ2 H2 q2 (w2.trans w1)) q1) q⟩
theorem gw_t {vs : List Nat} {K : PySem.W.Frag} {n : Nat} {t : TGs} (ht : GWs vs t) : GW vs (gSq K n t) := fun v σ H Q Q' m q => by
  rcases q with ⟨a, xs, e, h1, h2, q⟩ | ⟨a, xs, e, h1, h2, q⟩
  · exact .inl ⟨a, xs, e, h1, h2, ht xs σ H _ _ m q⟩
  · exact .inr ⟨a, xs, e, h1, h2, ht xs σ H _ _ m q⟩

/-! ### the comprehension -/
def lcLoop (vs : List Nat) (wg : WG) (wt : WT) (we : WE) (P : List PyData → En → Prop) (X : XP) : List PyData → List PyData → En → Prop
  | [], acc => P acc
  | d :: ds, acc => fun e => wg d e fun e1 => wt e1 (fun b e2 => (b = true → we e2 (fun y e3 => lcLoop vs wg wt we P X ds (acc ++ [y]) (e3.wipe vs)) X) ∧ (b = false → lcLoop vs wg wt we P X ds acc (e2.wipe vs))) X
abbrev X00 : XP := fun _ _ _ => False
def wLc (vs : List Nat) (wi : WA) (wg : WG) (wt : WT) (we : WE) : WA := fun e P X => wi e (fun ds e1 => ds.length ≤ 1000000 ∧ lcLoop vs wg wt we P X00 ds [] (e1.wipe vs)) X
def wYes : WT := fun e P _ => P true e
theorem rt_yes : RT G E tYes wYes := fun W S H σ e P X hs hw hk Q q => q true W S H e .refl hs hw
theorem rf_lc {vs : List Nat} {wi : TI} {wit : WA} {g : TG} {wg : WG} {tt : TT} {wt : WT} {te : TE} {we : WE} (hi : RI G E wi wit) (hg : RG G g wg) (hgw : GW vs g) (ht : RT G (fun _ _ _ => False) tt wt) (he : RE G (fun _ _ _ => False) te we) : RF G E (tLc wi g tt te vs) (wLc vs wit wg wt we) := fun W S H σ e P X hs hw hk Q q =>
  hi W S H σ e _ X hs hw hk _ fun J ds W1 S1 H1 e1 f1 s1 y1 h1 D hD => by
    obtain ⟨hsz, h1⟩ := h1
    have f10 : Fw W1 S1 H1 W1 S1 (upd H1 D (.lst [])) := (Nw.own (o := .lst []) s1.gd.sh hD).fw
    have s10 := s1.new (Nw.own (o := .lst []) s1.gd.sh hD)
    have k0 : ∀ {W' : Addr → Option Nat} {S' H' : Hp}, KP G (fun _ _ _ => False) W' S' H' X00 := fun C x v d W' S' H' n' _ _ _ _ z => z
    have prv : ∀ {W' : Addr → Option Nat} {S' H' : Hp} {W2 : Addr → Option Nat} {S2 H2 : Hp}, S' D = none ∧ W' D = none → H' D ≠ none → Fw W' S' H' W2 S2 H2 → S2 D = none ∧ W2 D = none := fun {W' S' H' W2 S2 H2} p hH f =>
      ⟨f.nw D p.1 hH p.2, opt_none fun z => (f.wn D z).elim (fun y => y p.2) hH⟩
    have p0 : S1 D = none ∧ W1 D = none := ⟨ex_none s1.gd.sh hD, w_none s1.gd hD⟩
    refine ⟨fun i m H' => m = ds.length - i ∧ i ≤ ds.length ∧ ∃ W' S' e' accV acc, Fw W1 S1 H1 W' S' H' ∧ Sim G W' S' H' (L2.wipe σ vs) e' ∧ (S' D = none ∧ W' D = none) ∧ H' D = some (.lst accV) ∧ DtA G.K S' accV acc ∧ acc.length ≤ i ∧ lcLoop vs wg wt we P X00 (ds.drop i) acc e',
      ⟨ds.length, rfl, Nat.zero_le _, W1, S1, e1.wipe vs, [], [], f10, s10.wipe rfl, p0, upd_same, .nil, Nat.le_refl _, h1⟩, ?_⟩
    rintro i m H' ⟨rfl, hi, W', S', e', accV, acc, f', s', pp, hacc, dacc, lacc, hl⟩
    obtain ⟨yg, ys⟩ := y1 i S' H' f'.ss s'.gd.sh
    by_cases hlt : i < ds.length
    · have hd : ds[i]? = some ds[i] := List.getElem?_eq_getElem hlt
      rw [List.drop_eq_getElem_cons hlt] at hl
      obtain ⟨go, yv⟩ := yg _ hd
      refine .inr ⟨go, fun H2 => ∃ W2 S2 e2 accV acc, Fw W1 S1 H1 W2 S2 H2 ∧ Sim G W2 S2 H2 (L2.wipe σ vs) e2 ∧ (S2 D = none ∧ W2 D = none) ∧ H2 D = some (.lst accV) ∧ DtA G.K S2 accV acc ∧ acc.length ≤ i + 1 ∧ lcLoop vs wg wt we P X00 (ds.drop (i + 1)) acc e2,
        fun H2 ⟨W2, S2, e2, accV, acc, h2⟩ => ⟨ds.length - (i + 1), by omega, rfl, hlt, W2, S2, e2, accV, acc, h2⟩, fun x H2 hy => ?_⟩
      obtain ⟨S2, nw, hx⟩ := yv x H2 hy
      have hw := hg W' S2 H2 (L2.wipe σ vs) e' x _ _ (s'.new nw) hx hl
      refine hgw _ _ _ _ _ (fun σ3 H3 q3 w3 => ?_) (hw (fun σ3 H3 => ∃ W3 S3 e3, Fw W' S2 H2 W3 S3 H3 ∧ Sim G W3 S3 H3 σ3 e3 ∧ wt e3 (fun b e2 => (b = true → we e2 (fun y e3 => lcLoop vs wg wt we P X00 (ds.drop (i + 1)) (acc ++ [y]) (e3.wipe vs)) X00) ∧ (b = false → lcLoop vs wg wt we P X00 (ds.drop (i + 1)) acc (e2.wipe vs))) X00) fun W3 S3 H3 σ3 e3 f3 s3 h3 => ⟨W3, S3, e3, f3, s3, h3⟩)
      obtain ⟨W3, S3, e3, f3, s3, h3⟩ := q3
      have ww : L2.wipe σ3 vs = L2.wipe σ vs := w3.trans wipe_wipe
      refine ⟨ww, ht W3 S3 H3 σ3 e3 _ X00 s3 h3 k0 _ fun b W4 S4 H4 e4 f4 s4 h4 => ?_⟩
      have fA := (nw.fw.trans f3).trans f4
      have dA : H4 D = some (.lst accV) := fA.hh D _ pp.2 (fun _ z => by cases z) hacc
      have pA := prv pp (by rw [hacc]; exact fun z => by cases z) fA
      have aA : DtA G.K S4 accV acc := dacc.up fA.ss
      cases b with
      | false => rw [if_neg Bool.false_ne_true]; exact ⟨W4, S4, _, accV, acc, f'.trans fA, s4.wipe ww, pA, dA, aA, Nat.le_succ_of_le lacc, h4.2 rfl⟩
      | true =>
        rw [if_pos rfl]
        refine he W4 S4 H4 σ3 e4 _ X00 s4 (h4.1 rfl) k0 _ fun y d W5 S5 H5 e5 f5 s5 d5 h5 => ?_
        have fB := fA.trans f5
        have dB : H5 D = some (.lst accV) := f5.hh D _ pA.2 (fun _ z => by cases z) dA
        have pB := prv pA (by rw [dA]; exact fun z => by cases z) f5
        have aB : DtA G.K S5 accV acc := aA.up f5.ss
        refine ⟨accV, dB, ?_, W5, S5, _, accV ++ [y], acc ++ [d], (f'.trans fB).priv hD dB, (s5.priv pB.1 pB.2 dB).wipe ww, pB, upd_same, aB.app (.one d5), by rw [List.length_append]; exact Nat.succ_le_succ lacc, h5⟩
        rw [aB.len]
        exact Nat.lt_of_le_of_lt (Nat.le_trans lacc (Nat.le_trans (Nat.le_of_lt hlt) hsz)) (by decide : 1000000 < sizeLine)
    · have e0 : i = ds.length := by omega
      rw [e0, List.drop_length] at hl
      exact .inl ⟨ys (by rw [e0]; simp), q D accV acc W' S' H' e' (f1.trans f') s'.unwipe (f1.back hD) pp.1 pp.2 hacc dacc hl⟩
/-- the body's context -/
abbrev blkX (X : Cx) (scope : Scope) (s : Shared) (H : Hp) (C : Addr) (cl : List (Str × Addr)) (fp : List Addr) : Cx := X.blk s H scope (compEnvC scope cl C X.env) fp
/-- a clause's tests -/
structure VTs (G : Gx) (X : Cx) (E : XK) (ifs : List Expr) (tt : TT) (wt : WT) : Prop where
  pts : PTs X ifs tt
  rt : RT G E tt wt
theorem vts_nil : VTs G X E [] tYes wYes := ⟨pts_nil, rt_yes⟩
theorem vts_one {c : Expr} {tt : TT} {wt : WT} (h : VT G X E c tt wt) : VTs G X E [c] tt wt := ⟨pts_one h.pt, h.rt⟩
variable {elt tg iter : Expr} {ifs : List Expr} {scope : Scope} {own : List (Str × Nat)} {wi : TI} {wit : WA} {g : TG} {wg : WG} {tt : TT} {wt : WT} {te : TE} {we : WE}
theorem vf_lc (own : List (Str × Nat)) (hN : X.N.Nodup) (hi : VI G X E tg iter wi wit) (hg : ∀ s H C cl fp, VG G (blkX X scope s H C cl fp) tg g wg) (ht : ∀ s H C cl fp, VTs G (blkX X scope s H C cl fp) (fun _ _ _ => False) ifs tt wt) (he : ∀ s H C cl fp, VE G (blkX X scope s H C cl fp) (fun _ _ _ => False) elt te we)
    (hgw : GW (own.map (·.2)) g) (ok : blkC X.N X.env.scope scope own = true := by rfl) (hc : X.calm = true := by rfl) (hs : ∀ x, foldedSetIterable iter X.env x = pure x := by intro _; rfl) :
    VF G X E (.ListComp elt [⟨tg, iter, ifs, 0⟩] scope pos) (tLc wi g tt te (own.map (·.2))) (wLc (own.map (·.2)) wit wg wt we) :=
  ⟨hi.hK, pe_lc hc hN hi.pi (blkOk_by ok) (fun s H C cl fp => (hg s H C cl fp).pg) (fun s H C cl fp => (ht s H C cl fp).pts) (fun s H C cl fp => (he s H C cl fp).pe) hs,
    rf_lc hi.ri (hg X.s_0 X.H_0 0 [] []).rg hgw (ht X.s_0 X.H_0 0 [] []).rt (he X.s_0 X.H_0 0 [] []).re⟩
/-- name = [..] on one line -/
theorem vs_setLc (i : Nat) (own : List (Str × Nat)) {y : Str} {py spos : Pos} (hN : X.N.Nodup) (hi : VI G X E tg iter wi wit) (hg : ∀ s H C cl fp, VG G (blkX X scope s H C cl fp) tg g wg) (ht : ∀ s H C cl fp, VTs G (blkX X scope s H C cl fp) (fun _ _ _ => False) ifs tt wt) (he : ∀ s H C cl fp, VE G (blkX X scope s H C cl fp) (fun _ _ _ => False) elt te we)
    (hgw : GW (own.map (·.2)) g) (hy : X.N[i]? = some y := by rfl) (hyl : X.env.scope.names.lookup y = some .local := by rfl) (hsw : swapsWith (.ListComp elt [⟨tg, iter, ifs, 0⟩] scope pos) (some (.Name y py)) spos.line X.env = pure true := by rfl)
    (ok : blkC X.N X.env.scope scope own = true := by rfl) (hc : X.calm = true := by rfl) (hs : ∀ x, foldedSetIterable iter X.env x = pure x := by intro _; rfl) :
    VS G X E (.Assign [.Name y py] (.ListComp elt [⟨tg, iter, ifs, 0⟩] scope pos) spos) (tAsg (tLc wi g tt te (own.map (·.2))) (gName i)) (wAsg (wLst (wLc (own.map (·.2)) wit wg wt we)) (gN i)) :=
  have vf := vf_lc (pos := pos) own hN hi hg ht he hgw ok hc hs
  ⟨hi.hK, ps_setLc hc hN hy hyl hsw hi.pi (blkOk_by ok) (fun s H C cl fp => (hg s H C cl fp).pg) (fun s H C cl fp => (ht s H C cl fp).pts) (fun s H C cl fp => (he s H C cl fp).pe) hs, fun W S H σ e A X hs hw hk D n _ _ _ => vf.ve.re W S H σ e _ X hs hw hk _ fun v d W1 S1 H1 e1 f1 s1 d1 h1 =>
    n W1 S1 H1 _ _ f1 (s1.setD d1) h1⟩
theorem vs_setLcOw (i : Nat) (own : List (Str × Nat)) {y : Str} {py spos : Pos} (hN : X.N.Nodup) (hi : VI G X E tg iter wi wit) (hg : ∀ s H C cl fp, VG G (blkX X scope s H C cl fp) tg g wg) (ht : ∀ s H C cl fp, VTs G (blkX X scope s H C cl fp) (fun _ _ _ => False) ifs tt wt) (he : ∀ s H C cl fp, VE G (blkX X scope s H C cl fp) (fun _ _ _ => False) elt te we)
    (hgw : GW (own.map (·.2)) g) (hy : X.N[i]? = some y := by rfl) (hyl : X.env.scope.names.lookup y = some .local := by rfl) (hsw : swapsWith (.ListComp elt [⟨tg, iter, ifs, 0⟩] scope pos) (some (.Name y py)) spos.line X.env = pure true := by rfl)
    (ok : blkC X.N X.env.scope scope own = true := by rfl) (hc : X.calm = true := by rfl) (hs : ∀ x, foldedSetIterable iter X.env x = pure x := by intro _; rfl) (hgc : i < gcode := by decide) :
    VS G X E (.Assign [.Name y py] (.ListComp elt [⟨tg, iter, ifs, 0⟩] scope pos) spos) (tAsg (tLc wi g tt te (own.map (·.2))) (gName i)) (wSetOw i (wLc (own.map (·.2)) wit wg wt we)) :=
  have vf := vf_lc (pos := pos) own hN hi hg ht he hgw ok hc hs
  ⟨hi.hK, ps_setLc hc hN hy hyl hsw hi.pi (blkOk_by ok) (fun s H C cl fp => (hg s H C cl fp).pg) (fun s H C cl fp => (ht s H C cl fp).pts) (fun s H C cl fp => (he s H C cl fp).pe) hs, fun W S H σ e A X hs hw hk D n _ _ _ => vf.rf W S H σ e _ X hs hw hk _ fun p vs ds W1 S1 H1 e1 f1 s1 n1 n2 n3 h1 d1 hp =>
    n _ S1 H1 _ _ (f1.own n1 n3) (s1.own hgc n2 n3 h1 d1) hp⟩
end
end VL

end
section
set_option Elab.async false
set_option linter.all false
set_option maxRecDepth 100000
set_option maxHeartbeats 4000000
/-! Own errors whose __init__ says super().__init__(value) and keeps the value. -/
namespace VX
open PySem PySem.W PySem.Calls PyProof.Rows PySem.HandSPX PySem.Spec
def eA (a1 a2 : Pos) (dp : Expr) : Arguments := { posonlyargs := [], args := [{ arg := "self", annotation := none, pos := a1 }, { arg := "value", annotation := none, pos := a2 }], vararg := none, kwonlyargs := [], kw_defaults := [], kwarg := none, defaults := [dp] }
def eB (b1 b2 b3 b4 b5 b6 b7 b8 b9 b10 : Pos) : List Stmt := [.Expr (.Call (.Attribute (.Call (.Name "super" b1) [] [] b2) "__init__" b3) [.Name "value" b4] [] b5) b6, .Assign [.Attribute (.Name "self" b7) "value" b8] (.Name "value" b9) b10]
def eS : Scope := { kind := .function, names := [(PySem.Str.ofString "self", .local), (PySem.Str.ofString "value", .local), (PySem.Str.ofString "__class__", .free), (PySem.Str.ofString "super", .globalImplicit)], isGenerator := false, isCoroutine := false, more := [] }
/-- what the written part says of the error class at C and its __init__ at fI -/
structure ErrTxt (P : Program) (K : Frag) (C fI : Addr) : Prop where
  cls : ∃ nm q N bs bm sn sub ab col dd k0 k1 k2 k3 k5, K.lookup C = some (excClassObj nm q C N bs bm true sn sub ab col dd k0 k1 k2 k3 k5 "ValueError.__new__") ∧ refsVE bm = true
  sa : findIn K (.ref C) "__setattr__" = some (some (.builtin "object.__setattr__"))
  ga : findIn K (.ref C) "__getattribute__" = some (some (.builtin "BaseException.__getattribute__"))
  gg : findIn K (.ref C) "__getattr__" = some none
  noV : findIn K (.ref C) "value" = some none
  iC : findIn K (.ref C) "__init__" = some (some (.ref fI))
  tC : typeIn K (.ref fI) = some (.type "function")
  kC : keepIn K (.ref C) = true
  exC : subIn K (.ref C) (.type "BaseException") = some true
  tyC : typeIn K (.ref C) = some (.type "type")
  hdC : hasDictIn K C = true
  op : nsIn K cStatics "thirdparty.any" = some none
  sup : nsIn K mainGlobals "super" = some none
  si : ks_superIn K C C "__init__" = some (some (.builtin "ValueError.__init__"))
  ve : subIn K (.ref C) (.type "ValueError") = some true
  me : mroIn K C (.ref C) = some true
  top : (P.main.scope.names.lookup ("super" : Str)).isSome = false
  fn : ∃ (oc : Value) (od : Option Addr) (kV doc pm : Value) (an : Option Addr) (ct : Value) (osl : Array (Option Value)) (T cda cc : Addr) (oT : Obj) (nT : Nat) (ccl cl : Value) (cdd cld : Option Addr) (ccs csl : Array (Option Value)) (vs : Array Value) (file : Str) (tf : Tok) (q : Str) (a1 a2 b1 b2 b3 b4 b5 b6 b7 b8 b9 b10 : Pos) (dp : Expr),
    K.lookup fI = some ⟨oc, od, .func (ksFn "__init__" q (eA a1 a2 dp) (eB b1 b2 b3 b4 b5 b6 b7 b8 b9 b10) eS (.ref T) kV doc pm an (.ref cda) ct cc), osl⟩ ∧ codeIn K (.ref cda) q = true ∧
    K.lookup T = some oT ∧ oT.data = .seq #[.none] nT ∧ K.lookup cda = some ⟨ccl, cdd, .fields vs, ccs⟩ ∧ vs[2]? = some (.str file tf) ∧ ((P.main.file : Str) == file) = true ∧ K.lookup cc = some ⟨cl, cld, .cell (some (.ref C)), csl⟩ ∧ (b3.endLine == b5.line) = true
/-- the ground that a call stands on -/
structure Gnd (K : Frag) (h : Heap) : Prop where
  glob : ∃ mg, h.Ns mainGlobals mg ∧ mg "super" = none
  blt : ∃ mb, h.Ns builtinsNs mb ∧ mb "super" = some (.type "super")
theorem boot_super : bootBuiltins "super" = some (.type "super") := by decide +kernel
theorem gnd_of {K : Frag} {mg : Str → Option Value} {base : Heap} (M : L2.Mod K mg base) (hs : nsIn K mainGlobals "super" = some none) {h : Heap} (k : ∀ b o, base.get? b = some o → h.get? b = some o) : Gnd K h := by
  obtain ⟨mb, h1, h2⟩ := M.blt
  exact ⟨⟨mg, M.glob.keeps k, mg_none_of M.kin M.glob hs⟩, ⟨mb, h1.keeps k, (h2 "super" (by decide)).trans boot_super⟩⟩
theorem Gnd.keeps {K : Frag} {h h' : Heap} (g : Gnd K h) (k : ∀ b o, h.get? b = some o → h'.get? b = some o) : Gnd K h' := by
  obtain ⟨⟨mg, a, b⟩, ⟨mb, c, d⟩⟩ := g
  exact ⟨⟨mg, a.keeps k, b⟩, ⟨mb, c.keeps k, d⟩⟩
/-- what __init__ leaves of a fresh exception at x -/
structure InitEnd (h h' : Heap) (x C dx t1 : Addr) (v : Value) : Prop where
  keep : ∀ b o, b ≠ x → h.get? b = some o → h'.get? b = some o
  obj : h'.get? x = some { cls := .ref C, dict := some dx, data := .fields #[.ref t1, .none, .none, .none, .bool false, .none] }
  dbig : h.objs.size ≤ dx
  dne : dx ≠ x
  ns : h'.Ns1 dx (fun y => if y = "value" then some v else none)
structure Made (h h' : Heap) (e C d : Addr) (v : Value) : Prop where
  keep : ∀ b o, h.get? b = some o → h'.get? b = some o
  new : h.objs.size ≤ e
  obj : ∃ oe vs, h'.get? e = some oe ∧ oe.cls = .ref C ∧ oe.dict = some d ∧ oe.data = .fields vs ∧ vs[1]? = some .none
  dbig : h.objs.size ≤ d
  dne : d ≠ e
  ns : h'.Ns1 d (fun y => if y = "value" then some v else none)
theorem one_ok (v : Value) : [v].length ≤ sizeLine := by
  rw [sizeLine_eq]
  exact (by decide : 1 ≤ 16777216)
section
variable {prog : Program} {w : World} {A : Around} {E : Value → Shared → Prop} {s : Shared} {env : Env} {m : Str → Option Value} {pos : Pos} {v : Value} {Q : Value → Shared → Prop} {x : Str}
theorem ldL (hn : s.heap.Ns env.locals m) (hv : m x = some v) (h : Q v s) (hk : env.scope.kind = .function) (hl : env.kindOf x = some .local) (hd : (x == ("__debug__" : Str)) = false := by decide) : wpAny (model prog w) A (eval (.Name x pos) env) Q E s := wpAny_Name (wpAny_loadName_local hk hl hn hv h) hd
end
section
variable {prog : Program} {w : World} {A : Around} {E : Value → Shared → Prop} {h : Heap} {g : Array GenState} {d : Drawn} {t : Nat} {os : OsState}
/-- the bound ValueError.__init__ is called: the args are laid anew -/
theorem call_mw {nm q : Str} {C N : Addr} {bs bm : List Value} {hdct : Bool} {sn : List Str} {sub : List Value} {ab : Bool} {col : Option Bool} {dd : Option Addr} {k0 k1 k2 k3 k5 : Option Value} {u e t0 : Addr} {rest : List Value} {Q : Value → Shared → Prop}
    (hC : h.get? C = some (excClassObj nm q C N bs bm hdct sn sub ab col dd k0 k1 k2 k3 k5 "ValueError.__new__")) (hT : ∀ X : String, bm.contains (.type X) = veTail.contains (.type X)) (he : h.get? e = some (excO C t0)) (hu : h.get? u = some (kxs_mw "ValueError.__init__" e)) (hrest : rest.length ≤ sizeLine)
    (hq : ∀ h' t1, (∀ b o, b ≠ e → h.get? b = some o → h'.get? b = some o) → h'.get? e = some (excO C t1) → Q .none ⟨h', g, d, t, os⟩) :
    wpAny (model prog w) A (call (.ref u) rest) Q E ⟨h, g, d, t, os⟩ := by
  refine wpAny_call (codeAny_of_tree ?_)
  show wpAny _ A.in1 (callAny (.ref u) ⟨rest, []⟩) _ _ _
  simp only [callAny]
  refine wpAny_bind (wpAny_load hu ?_)
  simp only [kxs_mw, show (Value.type "method-wrapper" == Value.type "method" || Value.type "method-wrapper" == Value.type "builtin_function_or_method" || Value.type "method-wrapper" == Value.type "method-wrapper") = true by decide, if_true]
  refine W.KFB.if_so (by decide) ?_
  refine wpAny_bind (ESX.check_bound F.excBase_ValueError hC he rfl ?_)
  refine wpAny_bind (wpAny_pure (wpAny_pure ?_))
  refine ⟨Code.quiet_builtin _ (by decide +kernel), codeAny_builtin F.excBase_ValueError.initEntry ?_⟩
  rw [Around.under_plainId F.excBase_ValueError.init.plain _]
  wp_walk
  refine hq _ h.objs.size (fun b o hb ho => ?_) ?_
  · rw [Heap.get?_update_other _ _ (Ne.symm hb)]
    exact Heap.get?_push_of_some _ ho
  · rw [Heap.get?_update_self _ (Heap.get?_push_of_some _ he) rfl]
    rfl
end
end VX

end
section
set_option Elab.async false
set_option linter.all false
set_option maxRecDepth 100000
set_option maxHeartbeats 4000000
namespace VX
open PySem PySem.W PySem.Calls PyProof.Rows PySem.HandSPX PySem.Spec
theorem eS_nc : ∀ y ∈ eS.names, y.2 ≠ NameKind.cell := by decide
theorem at_call {M : Model} {A : Around} {c : Code} {E : Value → Shared → Prop} {s : Shared} {env : Env} {o : Expr} {name : Str} {apos pos : Pos} {args : List Expr} {Q : Value → Shared → Prop} (hform : methodCallForm args.length (backTo pos (starEach args env)) [] = true) (hline : (apos.endLine == pos.line) = true)
    (h : _root_.PySem.wpAt M A c (attributeBase o name env (eval o env)) (fun ov s₁ => wpAny M A (getMethod ov name (do return (← importBound o env).getD true)) (fun fx s₂ => wpAny M A (callWith pos fx.1 fx.2 (backTo pos (starEach args env)) []) Q E s₂) E s₁) E s) :
    _root_.PySem.wpAt M A c (eval (.Call (.Attribute o name apos) args [] pos) env) Q E s := by
  rw [arm_eval_Call]
  refine _root_.PySem.wpAt_bind (_root_.PySem.wpAt_mono h (fun ov s₁ h₁ => _root_.PySem.wpAt_of_wpAny (wpAny_bind (wpAny_standAt ?_))) fun _ _ x => x)
  have hpos : methodCallPos true o env apos pos = pure pos := by unfold methodCallPos; simp [hline]
  show wpAny _ _ (methodCall o name apos pos env ov (args.length + ([] : List Keyword).length) (backTo pos (starEach args env)) (backToKw pos (keywordEach [] env))) _ _ _
  have hf' : methodCallForm (args.length + ([] : List Keyword).length) (backTo pos (starEach args env)) (backToKw pos (keywordEach [] env)) = true := hform
  unfold methodCall
  rw [hf']
  refine wpAny_bind (wpAny_holding (wpAny_mono h₁ (fun fx s₂ h₂ => ?_) fun _ _ x => x))
  exact wpAny_bind (wpAny_of_eq hpos h₂)
section
variable {prog : Program} {w : World} {A : Around} {E : Value → Shared → Prop} {R : Result → Shared → Prop} {s : Shared} {K : Frag} {C fI : Addr}
theorem err_init (T : ErrTxt prog K C fI) {x t0 : Addr} {v : Value} (X : K.In s.heap) (G : Gnd K s.heap) (hlim : s.heap.NoLimit) (hx : s.heap.get? x = some (excO C t0)) (hnx : K.lookup x = none) (hroom : A.depth < recursionLimit)
    (hq : ∀ h' tk dx t1, InitEnd s.heap h' x C dx t1 v → R (.ok (.ret .none)) { s with heap := h', toks := tk }) :
    codeAny (model prog w) A (.call (.ref fI) ⟨[.ref x, v], []⟩) R s := by
  obtain ⟨oc, od, kV, doc, pm, an, ct, osl, TT, cda, cc, oT, nT, ccl, cl, cdd, cld, ccs, csl, vs, file, tf, q, a1, a2, b1, b2, b3, b4, b5, b6, b7, b8, b9, b10, dp, ho, hcd, lT, oTd, lC, hvs, hfile, lcc, hl35⟩ := T.fn
  obtain ⟨nm, q', N, bs, bm, sn, sub, ab, col, dd, k0, k1, k2, k3, k5, hC, hbm⟩ := T.cls
  have hcl : clsIn K C = some { name := nm, bases := bs, mro := .ref C :: bm, ns := N, qualname := q', hasDict := true, slotNames := sn, subclasses := sub, abstract := ab, collection := col, hasDel := false } := by unfold clsIn; rw [hC] <;> rfl
  refine ks_codeAny_call_defAt (fd := ksFn "__init__" q (eA a1 a2 dp) (eB b1 b2 b3 b4 b5 b6 b7 b8 b9 b10) eS (.ref TT) kV doc pm an (.ref cda) ct cc) (body := eB b1 b2 b3 b4 b5 b6 b7 b8 b9 b10) (binds := [("self", .ref x), ("value", v)]) hroom (X _ _ ho) rfl hlim (codeRec_of X hcd) rfl ?hbind (fun y hy => eS_nc y hy) (by
    intro y hy
    rcases List.mem_cons.mp hy with e | hy
    · rw [e]; rfl
    · rcases List.mem_cons.mp hy with e | hy
      · rw [e]; rfl
      · cases hy) (fun h₁ hns k => ?_) rfl rfl rfl
  case hbind =>
    refine L2.BindsTo.of_looks fun M => ?_
    exact L2.looks_items X lT oTd (Looks.of_pure rfl)
  have X₁ : K.In h₁ := X.keeps k
  have hx₁ := k _ _ hx
  obtain ⟨⟨mg, hmg, hms⟩, ⟨mb, hmb, hmbs⟩⟩ := G.keeps k
  refine ks_wpAt_execs_cons (ks_wpAt_Expr_any (at_call rfl hl35 (ks_wpAt_super_base (attr := "__init__") (ar := ⟨"self", none, a1⟩) rfl rfl (by decide) rfl (k _ _ (X _ _ ho)) rfl rfl rfl (k _ _ (X _ _ lC)) rfl hvs hfile T.top ?_)))
  refine ks_loadName_global rfl rfl (loadGlobal_builtin hmg hms hmb hmbs ⟨rfl, ?_⟩)
  refine wpAny_loadName_free rfl rfl rfl ⟨_, k _ _ (X _ _ lcc), rfl⟩ ?_
  refine wpAny_loadName_local (m := fun y => ([("self", Value.ref x), ("value", v)] : List (Str × Value)).reverse.lookup y) rfl rfl hns (by rfl) ?_
  have hC1 := X₁ _ _ hC
  refine ks_wpAny_isType_cls hC1 rfl ⟨rfl, ?_⟩
  refine ks_wpAny_call_super hC1 rfl hx₁ rfl (fun c e => nomatch e) (looks_mroIn X₁ T.me) (fun h₂ hso k₂ => ?_)
  have X₂ : K.In h₂ := X₁.keeps k₂
  have hx₂ := k₂ _ _ hx₁
  have I₂ : InstAt h₂ x (excO C t0) C none := ⟨hx₂, rfl, rfl, trivial⟩
  have hf := T.si
  unfold ks_superIn at hf
  rw [hcl] at hf
  refine kxs_getMethod kxs_ValueError hso (looks_opaque X₂ T.op) (l₀ := .ref C :: bm) (fun A Q E s k q => wpAny_bind ((looks_clsIn X₂ hcl) A _ E s k (wpAny_pure q))) rfl X₂ hf (I₂.type.andThen (looks_subIn X₂ T.ve)) (ks_ne X₂ I₂ hcl) (by decide) ?_
  have hn₂ : h₂.Ns s.heap.objs.size (fun y => ([("self", Value.ref x), ("value", v)] : List (Str × Value)).reverse.lookup y) := hns.keeps k₂
  have hn₃ : (h₂.push (kxs_mw "ValueError.__init__" x)).Ns s.heap.objs.size (fun y => ([("self", Value.ref x), ("value", v)] : List (Str × Value)).reverse.lookup y) := hn₂.keeps fun b o e => Heap.get?_push_of_some _ e
  refine kxs_callWith (i := "ValueError.__init__") (x := x) rfl (evalArgs_plain (Calls.spliced_cons (ldL hn₃ (by rfl) (Calls.spliced_nil ⟨Heap.get?_push_size _ rfl, ?_⟩) rfl rfl)))
  have up : ∀ b o, h₁.get? b = some o → (h₂.push (kxs_mw "ValueError.__init__" x)).get? b = some o := fun b o e => Heap.get?_push_of_some _ (k₂ b o e)
  refine call_mw (C := C) (up _ _ hC1) (fun Y => refsVE_contains Y bm hbm) (up _ _ hx₁) (Heap.get?_push_size _ rfl) (one_ok v) (fun h₄ t1 k₄ hx₄ => ?_)
  refine _root_.PySem.wpAt_of_wpAny ?_
  have nx : ∀ b, (∃ o, K.lookup b = some o) → b ≠ x := fun b ⟨o, e⟩ z => by rw [z, hnx] at e; cases e
  have X₄ : K.In h₄ := fun b o e => k₄ b o (nx b ⟨o, e⟩) (up b o (X₁ b o e))
  have hLx : s.heap.objs.size ≠ x := Nat.ne_of_gt (Heap.lt_size hx)
  have hn₄ : h₄.Ns s.heap.objs.size (fun y => ([("self", Value.ref x), ("value", v)] : List (Str × Value)).reverse.lookup y) := by
    obtain ⟨o, es, ep, e1, e2⟩ := hn₃
    exact ⟨o, es, ep, k₄ _ _ hLx e1, e2⟩
  refine wpAny_execs_cons (plainObj_wpAny_Assign_Attribute (ldL (v := v) hn₄ (by rfl) (ldL (v := .ref x) hn₄ (by rfl) ?_ rfl rfl) rfl rfl))
  refine set_plain X₄ (ox := excO C t1) (od := none) ⟨hx₄, rfl, rfl, trivial⟩ T.sa ?_
  refine exc_osa X₄ hx₄ hcl (show refsVE (.ref C :: bm) = true from hbm) rfl T.noV (fun h₅ tk₅ dx k₅ dn dne hx₅ hn₅ => ?_)
  show wpAny _ _ (execs _ _) _ _ _
  have z : s.heap.objs.size < h₄.objs.size := hn₄.lt
  exact wpAny_execs_nil (hq h₅ tk₅ dx t1 ⟨fun b o hb e => k₅ b o hb (k₄ b o hb (up b o (k b o e))), hx₅, Nat.le_of_lt (Nat.lt_of_lt_of_le z dn), dne, hn₅⟩)
theorem err_made (T : ErrTxt prog K C fI) {v : Value} (X : K.In s.heap) (G : Gnd K s.heap) (hlim : s.heap.NoLimit) (hroom : A.depth + 1 < recursionLimit)
    (hq : ∀ h' tk e d, Made s.heap h' e C d v → R (.ok (.ret (.ref e))) { s with heap := h', toks := tk }) :
    codeAny (model prog w) A (.call (.ref C) ⟨[v], []⟩) R s := by
  obtain ⟨nm, q, N, bs, bm, sn, sub, ab, col, dd, k0, k1, k2, k3, k5, hC, hbm⟩ := T.cls
  obtain ⟨hp, g, dr, tk, os⟩ := s
  have k : ∀ b o, hp.get? b = some o → ((hp.push (kdv_tup [v])).push (excO C hp.objs.size)).get? b = some o := fun b o e => Heap.get?_push_of_some _ (Heap.get?_push_of_some _ e)
  have hget : ((hp.push (kdv_tup [v])).push (excO C hp.objs.size)).get? (hp.objs.size + 1) = some (excO C hp.objs.size) := by heap_get
  have hnx : K.lookup (hp.objs.size + 1) = none := by
    cases e : K.lookup (hp.objs.size + 1) with
    | none => rfl
    | some o =>
      have z : hp.get? (hp.objs.size + 1) = some o := X _ _ e
      exact absurd (Nat.lt_of_succ_lt (Heap.lt_size z)) (Nat.lt_irrefl _)
  refine call_own F.excBase_ValueError (fun Y => refsVE_contains Y bm hbm) (X _ _ hC) (looks_findIn X T.iC) (fun self => bind_fn X self T.tC) (one_ok v) ?_
  refine err_init (s := ⟨(hp.push (kdv_tup [v])).push (excO C hp.objs.size), g, dr, tk, os⟩) T (X.keeps k) (G.keeps k) (hlim.keeps k) hget hnx hroom fun h' tk' dx t1 ie => ?_
  obtain ⟨k', hx, dn, dne, hns⟩ := ie
  have old : ∀ b o, hp.get? b = some o → h'.get? b = some o := fun b o e => k' b o (Nat.ne_of_lt (Nat.lt_succ_of_lt (Heap.lt_size e))) (k b o e)
  have z : hp.objs.size ≤ dx := by
    have dn2 : ((hp.push (kdv_tup [v])).push (excO C hp.objs.size)).objs.size ≤ dx := dn
    rw [Heap.size_push, Heap.size_push] at dn2
    omega
  exact ⟨rfl, hq h' tk' (hp.objs.size + 1) dx ⟨old, Nat.le_succ _, ⟨_, _, hx, rfl, rfl, rfl, rfl⟩, z, dne, hns⟩⟩
end
end VX

end
section
set_option Elab.async false
set_option linter.all false
set_option maxRecDepth 100000
set_option maxHeartbeats 4000000
namespace VL
open PySem PySem.Spec PyProof.Rows L2
theorem relO_val {v : V} {u : Value} (r : RelV v u) (f : Str) : RelO (List.lookup f [(("value" : Str), v)]) (if f = "value" then some u else none) := by
  by_cases hw : f = "value"
  · subst hw
    rw [if_pos rfl]
    have q : List.lookup ("value" : Str) [(("value" : Str), v)] = some v := by simp [List.lookup]
    rw [q]
    exact r
  · rw [if_neg hw]
    have qw : (f == ("value" : Str)) = false := by simpa using hw
    have q2 : List.lookup f [(("value" : Str), v)] = none := by simp [List.lookup, qw]
    rw [q2]
    trivial
section
variable {X : Cx} {C fI : Addr}
/-- an error of the class at C is made of e -/
def tMkErr (C : Addr) (ta : TA) : L2.St → Hp → XK → Prop := fun σ H Q => ta σ H fun vs H1 => ∃ v, vs = [v] ∧ ∀ d, H1 d = none → Q (.ref C) (some d) (upd H1 d (.xd [(("value" : Str), v)]))
theorem pmk_err {x : Str} {a : Expr} {ta : TA} {p pos : Pos} {k : Nat} (T : VX.ErrTxt X.prog X.K C fI) (hr : Room k X.A) (ha : PA X [a] ta) (hg : Gl X x) (hm : X.mg x = some (.ref C)) (hdb : (x == ("__debug__" : Str)) = false := by decide)
    (he : starEach (a :: []) X.env = (false, eval a X.env) :: starEach [] X.env := by rfl) (hpl : (backTo pos (starEach [] X.env)).any (·.1) = false := by rfl) :
    PMk X (.Call (.Name x p) [a] [] pos) (tMkErr C ta) := by
  intro pins s σ H Q I h
  refine wpAny_Call_Name_kw (ld_glob I hg hm ?_ hdb)
  refine PySem.W.callWith_K (h₀ := X.base) I.ok.mod.kin T.kC (thn (ha.run pos pins s σ H _ I h) fun us s1 hh => ?_) he hpl
  obtain ⟨vs, H1, I1, r1, v, ev, q1⟩ := hh
  subst ev
  refine ⟨I1.kIn, ?_⟩
  cases r1 with
  | cons rv rn =>
    rename_i v' us'
    cases rn
    show wpAny _ _ (call (.ref C) [v']) _ _ _
    have hlim := I1.nolimit
    have G := VX.gnd_of I1.ok.mod T.sup I1.bk
    obtain ⟨hp, g, dr, tk, os⟩ := s1
    refine wpAny_call (VX.err_made T I1.kIn G hlim (by have := hr.dp; omega) fun h' tk' e d M => ?_)
    show MkP X pins σ Q (.ref e) ⟨h', g, dr, tk', os⟩
    obtain ⟨oe, fv, hoe, hc, hd, hdat, h1⟩ := M.obj
    have hns := M.ns
    obtain ⟨G', g1, g2⟩ := restrict h' fun b => decide (b ≠ e)
    have gk : ∀ b, b ≠ e → G'.get? b = h'.get? b := fun b hb => g1 b (decide_eq_true hb)
    have ge : G'.get? e = none := g2 e (by simp)
    have old : ∀ b o, hp.get? b = some o → G'.get? b = some o := fun b o q => (gk b (Nat.ne_of_lt (Nat.lt_of_lt_of_le (Heap.lt_size q) M.new))).trans (M.keep b o q)
    have ob : ObjOk X.prog X.w (upd H1 d (.xd [(("value" : Str), v)])) G' d (.xd [(("value" : Str), v)]) :=
      ⟨_, hns.at (fun o q => (gk d M.dne).trans q), fun f => relO_val rv f⟩
    have J : Inv X pins σ (upd H1 d (.xd [(("value" : Str), v)])) ⟨G', g, dr, tk', os⟩ := I1.laid (t' := tk') old M.dbig ob
    refine ⟨e, oe, fv, ⟨G', g, dr, tk', os⟩, _, .ref C, some d, rfl, J, fun b o q => ?_, ge, hoe, ⟨hc, hd⟩, hdat, h1, ?_, rfl, I1.bare, raises_own T.exC T.tyC, q1 d (I1.hok.fresh M.dbig)⟩
    · by_cases hb : b = e
      · have q' : G'.get? b = some o := q
        rw [hb, ge] at q'; cases q'
      · exact (gk b hb).symm.trans q
    · rw [upd_ne (Ne.symm M.dne)]
      exact I1.hok.fresh M.new
end
/-! ### raise at the value level -/
def wRaise (C : Addr) (we : WE) : WS := fun A X e => we e (fun d e1 => X C d e1.fu) X
section
variable {G : Gx} {X : Cx} {E : XK} {C fI : Addr}
theorem vs_raise {x : Str} {a : Expr} {ta : TE} {wa : WE} {p pos pos2 : Pos} {k : Nat} (T : VX.ErrTxt X.prog X.K C fI) (tk : Takes X (fun c d _ H => E c d H)) (hr : Room k X.A) (ha : VE G X E a ta wa) (hm : X.mg x = some (.ref C)) (hg : Gl X x := by rfl) (hc : X.calm = true := by rfl) (hdb : (x == ("__debug__" : Str)) = false := by decide)
    (he : starEach (a :: []) X.env = (false, eval a X.env) :: starEach [] X.env := by rfl) (hpl : (backTo pos (starEach [] X.env)).any (·.1) = false := by rfl) :
    VS G X E (.Raise (some (.Call (.Name x p) [a] [] pos)) none pos2) (fun _ σ H => tMkErr C (tCons ta tNil) σ H fun cls d H' => E cls d H') (wRaise C wa) :=
  ⟨ha.hK, ps_raise hc tk (pmk_err T hr (pa_cons ha.pe pa_nil he) hg hm hdb he hpl), fun W S H σ e A X hs hw hk D _ _ _ _ => ha.re W S H σ e _ X hs hw hk _ fun v d W1 S1 H1 e1 f1 s1 d1 hp => ⟨v, rfl, fun x hx => by
    have nw := Nw.own (o := .xd [(("value" : Str), v)]) s1.gd.sh hx
    exact hk C x v d W1 S1 _ e1.fu (f1.trans nw.fw) (nw.good s1.gd) upd_same d1 hp⟩⟩
end
end VL

end
section
set_option Elab.async false
set_option linter.all false
set_option maxRecDepth 100000
set_option maxHeartbeats 2000000
namespace VL
open PySem PySem.Spec PyProof.Rows L2

/-! ### argument lists -/
inductive ArsOk (K : PySem.W.Frag) (W : Addr → Option Nat) (S H : Hp) : List V → List Ar → Prop
  | nil : ArsOk K W S H [] []
  | cons {v : V} {vs : List V} {a : Ar} {as : List Ar} : ArOk K W S H v a → ArsOk K W S H vs as → ArsOk K W S H (v :: vs) (a :: as)
section
variable {K : PySem.W.Frag} {W W' : Addr → Option Nat} {S S' H H' : Hp}
theorem Fw.er {v : V} {C : Addr} {d : PyData} (f : Fw W S H W' S' H') (h : ErOk K W S H v C d) : ErOk K W' S' H' v C d := h.up f.ss fun p o w iu e => ⟨f.hh p o w iu.1 e, opt_none fun z => (f.wn p z).elim (fun q => q w) fun q => by rw [e] at q; cases q⟩
theorem ArOk.up {v : V} {a : Ar} (h : ArOk K W S H v a) (f : Fw W S H W' S' H') : ArOk K W' S' H' v a := by
  cases a with
  | da d => exact Dt.up h f.ss
  | op u => exact h
  | ge => obtain ⟨p, e, w⟩ := h; exact ⟨p, e, f.gn p w⟩
  | er C d => exact f.er h
  | sq ns => obtain ⟨b, h1, h2⟩ := h; exact ⟨b, h1, f.ss.sl h2⟩
theorem ArsOk.up : ∀ {vs : List V} {as : List Ar}, ArsOk K W S H vs as → Fw W S H W' S' H' → ArsOk K W' S' H' vs as
  | _, _, .nil, _ => .nil
  | _, _, .cons a t, f => .cons (a.up f) (t.up f)
theorem ArsOk.len : ∀ {vs : List V} {as : List Ar}, ArsOk K W S H vs as → vs.length = as.length
  | _, _, .nil => rfl
  | _, _, .cons _ t => by rw [List.length_cons, List.length_cons, t.len]
theorem ArsOk.get : ∀ {vs : List V} {as : List Ar} {i : Nat} {a : Ar}, ArsOk K W S H vs as → as[i]? = some a → ∃ v, vs[i]? = some v ∧ ArOk K W S H v a
  | _, _, _, _, .nil, e => by simp at e
  | _, _, 0, _, .cons a _, e => by simp at e; subst e; exact ⟨_, rfl, a⟩
  | _, _, i + 1, d, .cons _ t, e => by
    obtain ⟨v, h1, h2⟩ := ArsOk.get (i := i) (a := d) t (by simpa using e)
    exact ⟨v, by simpa using h1, h2⟩
theorem ArsOk.app : ∀ {vs : List V} {as : List Ar} {us : List V} {bs : List Ar}, ArsOk K W S H vs as → ArsOk K W S H us bs → ArsOk K W S H (vs ++ us) (as ++ bs)
  | _, _, _, _, .nil, h => h
  | _, _, _, _, .cons a t, h => .cons a (ArsOk.app t h)
end
abbrev WR := En → (List Ar → En → Prop) → XP → Prop
abbrev WX' := En → (Ar → En → Prop) → XP → Prop
def RR (G : Gx) (E : XK) (n : Nat) (ta : TA) (wr : WR) : Prop := ∀ W S H σ e P X, Sim G W S H σ e → wr e P X → KP G E W S H X → ∀ Q : List V → Hp → Prop,
  (∀ vs as W' S' H' e', Fw W S H W' S' H' → Sim G W' S' H' σ e' → ArsOk G.K W' S' H' vs as → as.length = n → P as e' → Q vs H') → ta σ H Q
structure VR (G : Gx) (X : Cx) (E : XK) (es : List Expr) (n : Nat) (ta : TA) (wr : WR) : Prop where
  hK : X.K = G.K
  pa : PA X es ta
  rr : RR G E n ta wr
/-- an argument -/
def RX (G : Gx) (E : XK) (te : TE) (wx : WX') : Prop := ∀ W S H σ e P X, Sim G W S H σ e → wx e P X → KP G E W S H X → ∀ Q : VK,
  (∀ v r W' S' H' e', Fw W S H W' S' H' → Sim G W' S' H' σ e' → ArOk G.K W' S' H' v r → P r e' → Q v H') → te σ H Q
structure VX (G : Gx) (X : Cx) (E : XK) (e : Expr) (te : TE) (wx : WX') : Prop where
  hK : X.K = G.K
  pe : PE X e te
  rx : RX G E te wx
def xD (we : WE) : WX' := fun e P X => we e (fun d e1 => P (.da d) e1) X
def xOp (v : V) : WX' := fun e P _ => P (.op v) e
def xN (i : Nat) : WX' := fun e P _ => match e.sl[i]? with
  | some (.op v) => P (.op v) e
  | some .ge => P .ge e
  | some (.da d) => P (.da d) e
  | some (.er C d) => P (.er C d) e
  | some (.sq ns) => P (.sq ns) e
  | _ => False
def wD (wx : WX') : WE := fun e P X => wx e (fun r e1 => match r with | .da d => P d e1 | _ => False) X
def rNil : WR := fun e P _ => P [] e
def rCons (wx : WX') (wr : WR) : WR := fun e P X => wx e (fun r e1 => wr e1 (fun as e2 => P (r :: as) e2) X) X
section
variable {G : Gx} {X : Cx} {E : XK} {pos : Pos} {a : Expr} {ta : TE} {wa : WE} {wx : WX'} {es : List Expr} {n : Nat} {tr : TA} {wr : WR}
theorem VE.vx (h : VE G X E a ta wa) : VX G X E a ta (xD wa) := ⟨h.hK, h.pe, fun W S H σ e P X hs hw hk Q q => h.re W S H σ e _ X hs hw hk _ fun v d W1 S1 H1 e1 f1 s1 d1 hp => q v (.da d) W1 S1 H1 e1 f1 s1 d1 hp⟩
theorem VX.ve (h : VX G X E a ta wx) : VE G X E a ta (wD wx) := ⟨h.hK, h.pe, fun W S H σ e P X hs hw hk Q q => h.rx W S H σ e _ X hs hw hk _ fun v r W1 S1 H1 e1 f1 s1 d1 hp => by
  split at hp
  · exact q v _ W1 S1 H1 e1 f1 s1 d1 hp
  · exact hp.elim⟩
theorem vx_op {x : Str} {v : V} {u : Value} (hm : X.mg x = some u) (r : RelV v u) (hg : Gl X x := by rfl) (hdb : (x == ("__debug__" : Str)) = false := by decide) (hK : X.K = G.K := by rfl) : VX G X E (.Name x pos) (tC v) (xOp v) :=
  ⟨hK, pe_glob hg hm r hdb, fun W S H σ e P X hs hw hk Q q => q v (.op v) W S H e .refl hs rfl hw⟩
theorem vx_n (i : Nat) {x : Str} (hN : X.N[i]? = some x := by rfl) (hv : Vis X.env.scope x := by first | exact Or.inl rfl | exact Or.inr (Or.inl rfl) | exact Or.inr (Or.inr rfl)) (hd : (x == ("__debug__" : Str)) = false := by decide)
    (hcd : (x == ("__classdict__" : Str)) = false := by decide) (hK : X.K = G.K := by rfl) : VX G X E (.Name x pos) (tVar i) (xN i) := ⟨hK, pe_var hN hv hd hcd, fun W S H σ e P X hs hw hk Q q => by
  unfold xN at hw
  split at hw
  · rename_i v hi
    have h1 := hs.sl i _ hi
    exact ⟨v, h1, q v (.op v) W S H e .refl hs rfl hw⟩
  · rename_i hi
    obtain ⟨p, h1, h2⟩ := hs.sl i _ hi
    exact ⟨_, h1, q _ .ge W S H e .refl hs ⟨p, rfl, h2⟩ hw⟩
  · rename_i d hi
    obtain ⟨v, h1, h2⟩ := hs.sl i _ hi
    exact ⟨v, h1, q v (.da d) W S H e .refl hs h2 hw⟩
  · rename_i C d hi
    obtain ⟨v, h1, h2⟩ := hs.sl i _ hi
    exact ⟨v, h1, q v (.er C d) W S H e .refl hs h2 hw⟩
  · rename_i ns hi
    obtain ⟨b, h1, h2⟩ := hs.sl i _ hi
    exact ⟨_, h1, q _ (.sq ns) W S H e .refl hs ⟨b, rfl, h2⟩ hw⟩
  · exact hw.elim⟩
theorem rr_nil : RR G E 0 tNil rNil := fun W S H σ e P X hs hw _ Q q => q [] [] W S H e .refl hs .nil rfl hw
theorem rr_cons (ha : RX G E ta wx) (hr : RR G E n tr wr) : RR G E (n + 1) (tCons ta tr) (rCons wx wr) := fun W S H σ e P X hs hw hk Q q =>
  ha W S H σ e _ X hs hw hk _ fun v r W1 S1 H1 e1 f1 s1 d1 h1 => hr W1 S1 H1 σ e1 _ X s1 h1 (hk.next f1) _ fun vs as W2 S2 H2 e2 f2 s2 d2 l2 h2 =>
    q (v :: vs) (r :: as) W2 S2 H2 e2 (f1.trans f2) s2 (.cons (d1.up f2) d2) (by rw [List.length_cons, l2]) h2
theorem vr_nil (hK : X.K = G.K := by rfl) : VR G X E [] 0 tNil rNil := ⟨hK, pa_nil, rr_nil⟩
theorem vr_cons (ha : VX G X E a ta wx) (hr : VR G X E es n tr wr) (hs : starEach (a :: es) X.env = (false, eval a X.env) :: starEach es X.env := by rfl) : VR G X E (a :: es) (n + 1) (tCons ta tr) (rCons wx wr) := ⟨ha.hK, pa_cons ha.pe hr.pa hs, rr_cons ha.rx hr.rr⟩
end
/-- keywords -/
structure VKs (G : Gx) (X : Cx) (E : XK) (kws : List Keyword) (n : Nat) (ta : TA) (wr : WR) : Prop where
  pk : PK X kws ta
  rr : RR G E n ta wr
section
variable {G : Gx} {X : Cx} {E : XK} {pos kpos : Pos} {a : Expr} {ta : TE} {wx : WX'} {kws : List Keyword} {n : Nat} {tr : TA} {wr : WR} {nm : Option Str}
theorem vk_nil : VKs G X E [] 0 tNil rNil := ⟨pk_nil, rr_nil⟩
theorem vk_cons (ha : VX G X E a ta wx) (hr : VKs G X E kws n tr wr) : VKs G X E (⟨nm, a, kpos⟩ :: kws) (n + 1) (tCons ta tr) (rCons wx wr) := ⟨pk_cons ha.pe hr.pk, rr_cons ha.rx hr.rr⟩
end

/-! ### what a def promises, by data -/
/-- no error comes back as a value -/
def Ar.plain : Ar → Prop
  | .er _ _ => False
  | _ => True
abbrev Ct := List Ar → Nat → (Ar → Nat → Prop) → XP → Prop
/-- no owned lists but the drawing ones -/
def gens (W : Addr → Option Nat) : Addr → Option Nat := fun p => if W p = some gcode then some gcode else none
def OnlyG (W : Addr → Option Nat) : Prop := ∀ p i, W p = some i → i = gcode
def spV (G : Gx) (c : Ct) (m : Nat) : Sp := fun vs H Q E => vs.length = m ∧ ∃ W S n as P X, Good G W S H n ∧ OnlyG W ∧ ArsOk G.K W S H vs as ∧ c as n P X ∧ KP G E W S H X ∧
  ∀ v r W' S' H' n', Fw W S H W' S' H' → Good G W' S' H' n' → ArOk G.K W' S' H' v r → r.plain → P r n' → Q v H'
section
variable {G : Gx} {W W' : Addr → Option Nat} {S S' H H' : Hp} {n n' : Nat}
theorem gens_some {p : Addr} {i : Nat} (h : gens W p = some i) : W p = some gcode ∧ i = gcode := by
  unfold gens at h
  split at h
  · rename_i z; exact ⟨z, (Option.some.inj h).symm⟩
  · cases h
theorem gens_of {p : Addr} (h : W p = some gcode) : gens W p = some gcode := by unfold gens; rw [if_pos h]
theorem gens_none {p : Addr} (h : W p ≠ some gcode) : gens W p = none := by unfold gens; rw [if_neg h]
theorem gens_only : OnlyG (gens W) := fun p i h => (gens_some h).2
theorem Good.gens (g : Good G W S H n) : Good G (gens W) S H n := ⟨g.sh, fun p i h => g.wo p _ (gens_some h).1, fun p h => g.ge p (gens_some h).1, g.tb, fun p i h => g.tw p _ (gens_some h).1, g.st⟩
/-- the caller's owned lists again -/
def back (W W' : Addr → Option Nat) : Addr → Option Nat := fun p => match W p with
  | some i => some i
  | none => gens W' p
theorem back_fw (g : Good G W S H n) (f : Fw (gens W) S H W' S' H') : Fw W S H (back W W') S' H' where
  ss := f.ss
  hh := fun p o w t h => f.hh p o (gens_none (by rw [w]; exact fun z => by cases z)) t h
  ht := f.ht
  nw := fun p s h w => f.nw p s h (gens_none (by rw [w]; exact fun z => by cases z))
  wn := fun p h => by
    cases e : W p with
    | some i => exact .inl fun z => by cases z
    | none =>
      refine .inr ?_
      unfold back at h
      rw [e] at h
      have h1 : W' p ≠ none := fun z => h (gens_none (by rw [z]; exact fun y => by cases y))
      rcases f.wn p h1 with z | z
      · exact absurd (gens_none (by rw [e]; exact fun y => by cases y)) z
      · exact z
  gn := fun p h => by unfold back; rw [h]
  tb := f.tb
theorem back_good (g : Good G W S H n) (f : Fw (gens W) S H W' S' H') (g' : Good G W' S' H' n') : Good G (back W W') S' H' n' := by
  have old : ∀ p i, W p = some i → i ≠ gcode → S' p = none ∧ ∀ o, H p = some o → (∀ ps, o ≠ .tbl ps) → H' p = some o := fun p i w hi => by
    have z : gens W p = none := gens_none (by rw [w]; exact fun y => hi (Option.some.inj y))
    exact ⟨f.nw p (g.wo p i w).1 (g.wo p i w).2 z, fun o e t => f.hh p o z t e⟩
  refine ⟨g'.sh, fun p i w => ?_, fun p w => ?_, g'.tb, fun p i w => ?_, g'.st⟩
  · unfold back at w
    cases e : W p with
    | some j =>
      rw [e] at w
      cases w
      by_cases hi : i = gcode
      · subst hi; exact g'.wo p _ (f.gn p (gens_of e))
      · exact ⟨(old p i e hi).1, f.ht p (g.wo p i e).2⟩
    | none => rw [e] at w; exact g'.wo p _ (gens_some w).1
  · unfold back at w
    cases e : W p with
    | some j => rw [e] at w; cases w; exact g'.ge p (f.gn p (gens_of e))
    | none => rw [e] at w; exact g'.ge p (gens_some w).1
  · unfold back at w
    cases e : W p with
    | some j =>
      rw [e] at w
      cases w
      by_cases hi : i = gcode
      · subst hi; exact g'.tw p _ (f.gn p (gens_of e))
      · obtain ⟨xs, eH⟩ := g.tw p i e
        exact ⟨xs, (old p i e hi).2 _ eH fun _ z => by cases z⟩
    | none => rw [e] at w; exact g'.tw p _ (gens_some w).1
theorem back_sim {σ : L2.St} {e : En} (s : Sim G W S H σ e) (f : Fw (gens W) S H W' S' H') (g' : Good G W' S' H' n') : Sim G (back W W') S' H' σ ⟨e.sl, n'⟩ := by
  refine ⟨back_good s.gd f g', s.ln, s.sm, fun i t ht => ?_⟩
  have ht' : e.sl[i]? = some t := ht
  have q := s.sl i t ht'
  have hi : i < gcode := Nat.lt_of_lt_of_le (List.getElem?_eq_some_iff.mp ht').1 s.sm
  cases t with
  | un => trivial
  | da d => obtain ⟨v, h1, h2⟩ := q; exact ⟨v, h1, h2.up f.ss⟩
  | op v => exact q
  | ow ds =>
    obtain ⟨p, vs, h1, h2, h3, h4⟩ := q
    refine ⟨p, vs, h1, by unfold back; rw [h2], f.hh p _ (gens_none (by rw [h2]; exact fun z => absurd (Option.some.inj z) (Nat.ne_of_lt hi))) (fun ps z => by cases z) h3, h4.up f.ss⟩
  | ge => obtain ⟨p, h1, h2⟩ := q; exact ⟨p, h1, by unfold back; rw [h2]⟩
  | er C d => obtain ⟨v, h1, h2⟩ := q; exact ⟨v, h1, (back_fw s.gd f).er h2⟩
  | sq ns => obtain ⟨b, h1, h2⟩ := q; exact ⟨b, h1, f.ss.sl h2⟩
theorem back_ar {v : V} {r : Ar} (hr : r.plain) (h : ArOk G.K W' S' H' v r) (g : Good G W S H n) (f : Fw (gens W) S H W' S' H') : ArOk G.K (back W W') S' H' v r := by
  cases r with
  | da d => exact h
  | op u => exact h
  | ge =>
    obtain ⟨p, e, w⟩ := h
    refine ⟨p, e, ?_⟩
    unfold back
    cases eW : W p with
    | none => exact gens_of w
    | some i =>
      by_cases hi : i = gcode
      · rw [hi]
      · have z : gens W p = none := gens_none (by rw [eW]; exact fun y => hi (Option.some.inj y))
        rcases f.wn p (by rw [w]; exact fun y => by cases y) with y | y
        · exact absurd z y
        · exact absurd y (g.wo p i eW).2
  | er C d => exact hr.elim
  | sq ns => exact h
theorem ArsOk.gens {vs : List V} {as : List Ar} : ArsOk G.K W S H vs as → ArsOk G.K (gens W) S H vs as := fun h => by
  induction h with
  | nil => exact .nil
  | @cons v vs a as h _ ih =>
    refine .cons ?_ ih
    cases a with
    | da d => exact h
    | op u => exact h
    | ge => obtain ⟨p, e, w⟩ := h; exact ⟨p, e, gens_of w⟩
    | er C d => exact ErOk.up h (Ex.refl _) fun p o w _ e => ⟨e, gens_none (by rw [w]; exact fun y => by cases y)⟩
    | sq ns => exact h
theorem KP.gens {E : XK} {X : XP} (h : KP G E W S H X) (g : Good G W S H n) : KP G E (VL.gens W) S H X := fun C x v d W' S' H' n' f g' hx hd q => h C x v d (back W W') S' H' n' (back_fw g f) (back_good g f g') hx hd q
end
end VL

end
section
set_option Elab.async false
set_option linter.all false
set_option maxRecDepth 100000
set_option maxHeartbeats 2000000
namespace VL
open PySem PySem.Spec PyProof.Rows L2

/-- a def that keeps its promise where nothing is guarded (so that repr may be asked) -/
structure FnG (P : Program) (w : World) (K : PySem.W.Frag) (mg : Str → Option Value) (base : Heap) (k : Nat) (f : Addr) (fd : FuncData) (ps : List Str) (sp : Sp) : Prop where
  go : ∀ (A : Around) (out : List Env) (s : Shared) (H : Hp) (args : Args) (us : List Value) (vs : List V) (Q : VK) (E : XK), Room k A → A.guards = some [] → Env0 P w K mg base A out s H → BindsTo s fd args (ps.zip us) → Vals vs us → vs.length = ps.length → sp vs H Q E →
    codeAny (model P w) A (.call (.ref f) args) (CR (L2.CX P w) out P w H s Q E) s
section
variable {P : Program} {w : World} {K : PySem.W.Frag} {mg : Str → Option Value} {base : Heap} {f : Addr} {fd : FuncData} {ps : List Str}
theorem FnG.up {j k : Nat} {sp : Sp} (F : FnG P w K mg base j f fd ps sp) (h : j ≤ k) : FnG P w K mg base k f fd ps sp := ⟨fun A out s H args us vs Q E hr => F.go A out s H args us vs Q E (hr.mono h)⟩
theorem FnG.no {k : Nat} {G : Gx} {m : Nat} : FnG P w K mg base k f fd ps (spV G (fun _ _ _ _ => False) m) := ⟨fun A out s H args us vs Q E _ _ _ _ _ _ h => by
  obtain ⟨_, _, _, _, _, _, _, _, _, _, z, _⟩ := h
  exact z.elim⟩
theorem spV_imp {G : Gx} {c c' : Ct} {m : Nat} (h : ∀ as n P X, c' as n P X → c as n P X) {vs : List V} {H : Hp} {Q : VK} {E : XK} (q : spV G c' m vs H Q E) : spV G c m vs H Q E := by
  obtain ⟨l, W, S, n, as, P, X, g, o, a, q, r⟩ := q
  exact ⟨l, W, S, n, as, P, X, g, o, a, h _ _ _ _ q, r⟩
theorem FnG.imp {k : Nat} {G : Gx} {c c' : Ct} {m : Nat} (F : FnG P w K mg base k f fd ps (spV G c m)) (h : ∀ as n P X, c' as n P X → c as n P X) : FnG P w K mg base k f fd ps (spV G c' m) :=
  ⟨fun A out s H args us vs Q E a b c d e l q => F.go A out s H args us vs Q E a b c d e l (spV_imp h q)⟩
/-! ### a def by its body -/
def Ar.sl : Ar → Sl
  | .da d => .da d
  | .op v => .op v
  | .ge => .ge
  | .er C d => .er C d
  | .sq ns => .sq ns
def entry (N : List Str) (as : List Ar) (n : Nat) : En := ⟨as.map Ar.sl ++ List.replicate (N.length - as.length) .un, n⟩
def outA (P : Ar → Nat → Prop) : EV := { nx := fun e => P (.da .none) e.fu, rt := fun r n => match r with | .er _ _ => False | r => P r n }
theorem entry_sim {G : Gx} {W : Addr → Option Nat} {S H : Hp} {n : Nat} {N : List Str} {vs : List V} {as : List Ar} (g : Good G W S H n) (a : ArsOk G.K W S H vs as) (hN : N.length ≤ gcode) (hl : vs.length ≤ N.length) : Sim G W S H (L2.start N vs) (entry N as n) := by
  have la := a.len
  have len : (as.map Ar.sl ++ List.replicate (N.length - as.length) Sl.un).length = N.length := by
    rw [List.length_append, List.length_map, List.length_replicate]; omega
  refine ⟨g, ?_, ?_, fun i s hs => ?_⟩
  · show (as.map Ar.sl ++ _).length ≤ _
    rw [len]
    unfold L2.start
    rw [List.length_append, List.length_map, List.length_replicate]; omega
  · show (as.map Ar.sl ++ _).length ≤ _
    rw [len]; exact hN
  · have hs' : (as.map Ar.sl ++ List.replicate (N.length - as.length) Sl.un)[i]? = some s := hs
    by_cases hi : i < as.length
    · rw [List.getElem?_append_left (by rw [List.length_map]; exact hi), List.getElem?_map] at hs'
      cases q : as[i]? with
      | none => rw [q] at hs'; cases hs'
      | some b =>
        rw [q] at hs'
        cases hs'
        obtain ⟨v, h1, h2⟩ := a.get q
        have hv : (L2.start N vs)[i]? = some (some v) := by
          unfold L2.start
          rw [List.getElem?_append_left (by rw [List.length_map]; omega), List.getElem?_map, h1]; rfl
        cases b with
        | da d => exact ⟨v, hv, h2⟩
        | op u => show (L2.start N vs)[i]? = _; rw [hv, show v = u from h2]
        | ge => obtain ⟨p, e, w⟩ := h2; exact ⟨p, by rw [hv, e], w⟩
        | er C d => exact ⟨v, hv, h2⟩
        | sq ns => obtain ⟨p, e, q⟩ := h2; exact ⟨p, by rw [hv, e], q⟩
    · rw [List.getElem?_append_right (by rw [List.length_map]; omega), List.getElem?_replicate] at hs'
      split at hs'
      · cases hs'; trivial
      · cases hs'
/-- the def at f has this code object -/
def CodeOf (K : PySem.W.Frag) (f : Addr) (q : Str) (cdv : Value) : Prop := PySem.W.codeIn K cdv q = true ∧ ∃ oc od fd osl, K.lookup f = some ⟨oc, od, .func fd, osl⟩ ∧ fd.code = cdv
theorem fn_V {G : Gx} {x qual : Str} {params : Arguments} {body : List Stmt} {scope : Scope} {dvs : List V} {kws : List (Str × V)} {N : List Str} {k : Nat} {c : Ct} {ws : WS} (F : FunD K x qual params body scope dvs kws f fd) (S : FnScope N ps scope) (hN : N.length ≤ gcode) (hb0 : N.length ≥ ps.length)
    (hc : ∀ as n P X, c as n P X → as.length = ps.length → ws (outA P) X (entry N as n))
    (hbody : ∀ (cdv : Value) (A : Around) (out : List Env) (s : Shared) (H : Hp) (E : XK), CodeOf K f qual cdv → Room k (A.deeper (envOfC qual scope s.heap.objs.size f cdv)) → (A.deeper (envOfC qual scope s.heap.objs.size f cdv)).guards = some [] →
      ∃ ts, VSs G (cxOf (L2.CX P w) P w K mg base N qual scope f cdv A out s H E) E body ts ws) : FnG P w K mg base (k + 1) f fd ps (spV G c ps.length) := by
  obtain ⟨oc, od, dV, kV, doc, pm, an, cdv, ct, osl, rfl, lk, hcd, _, _⟩ := F.ex
  refine ⟨fun A out s H args us vs Q E hr hg e0 hb hv hl hsp => ?_⟩
  refine LamX.run_ofS (N := N) lk hcd S hr e0 hb hv hl fun hr2 => ?_
  obtain ⟨ts, hb⟩ := hbody cdv A out s H E ⟨hcd, oc, od, _, osl, lk, rfl⟩ hr2 hg
  obtain ⟨_, W, S0, n, as, P0, X0, g, _, ha, hcc, hk, hq⟩ := hsp
  refine ⟨ts, hb.ps, hb.rs W S0 H (L2.start N vs) (entry N as n) (outA P0) X0 (entry_sim g ha hN (by omega)) (hc _ _ _ _ hcc (by rw [← ha.len, hl])) hk _ (fun W1 S1 H1 σ1 e1 f1 s1 h1 => ?_) (fun v r W1 S1 H1 n1 f1 g1 a1 h1 => ?_) (fun _ _ _ _ _ _ _ z => z.elim) (fun _ _ _ _ _ _ _ z => z.elim)⟩
  · exact hq .non (.da .none) W1 S1 H1 e1.fu f1 s1.gd .non trivial h1
  · cases r with
    | er C d => exact h1.elim
    | da d => exact hq v _ W1 S1 H1 n1 f1 g1 a1 trivial h1
    | op u => exact hq v _ W1 S1 H1 n1 f1 g1 a1 trivial h1
    | ge => exact hq v _ W1 S1 H1 n1 f1 g1 a1 trivial h1
    | sq ns => exact hq v _ W1 S1 H1 n1 f1 g1 a1 trivial h1
end
/-! ### calls -/
section
variable {G : Gx} {X : Cx} {E : XK} {k n m : Nat} {f : Addr} {fd : FuncData} {ps ks : List Str} {c : Ct} {x : Str} {p pos : Pos} {a : Expr} {es : List Expr} {kws : List Keyword} {t tk' : TA} {wr wk : WR} {g : List Value → List Value → List Value} {gV : List V → List V → List V} {gA : List Ar → List Ar → List Ar}
/-- how the written arguments are bound -/
structure Bnd (K : PySem.W.Frag) (fd : FuncData) (ps : List Str) (n : Nat) (ks : List Str) (g : List Value → List Value → List Value) (gV : List V → List V → List V) (gA : List Ar → List Ar → List Ar) : Prop where
  to : ∀ (s : Shared) (us ws : List Value), K.In s.heap → us.length = n → ws.length = ks.length → BindsTo s fd ⟨us, ks.zip ws⟩ (ps.zip (g us ws))
  rel : ∀ {vs : List V} {us : List Value} {zs : List V} {ws : List Value}, vs.length = n → zs.length = ks.length → Vals vs us → Vals zs ws → Vals (gV vs zs) (g us ws)
  ar : ∀ {W : Addr → Option Nat} {S H : Hp} {vs zs : List V} {as bs : List Ar}, vs.length = n → zs.length = ks.length → ArsOk K W S H vs as → ArsOk K W S H zs bs → ArsOk K W S H (gV vs zs) (gA as bs)
  len : ∀ (vs zs : List V), vs.length = n → zs.length = ks.length → (gV vs zs).length = ps.length
def wCall (c : Ct) (gA : List Ar → List Ar → List Ar) (wr wk : WR) : WX' := fun e P X => wr e (fun as e1 => wk e1 (fun bs e2 => c (gA as bs) e2.fu (fun r n => P r ⟨e2.sl, n⟩) X) X) X
theorem run_fnG {pins : List (Addr × Obj)} {σ : L2.St} {H : Hp} {s : Shared} {Q : VK} {us ws : List Value} {vs zs : List V} {sp : Sp} (F : FnG X.prog X.w X.K X.mg X.base k f fd ps sp) (hr : Room k X.A) (hgd : X.A.guards = some []) (hb : Bnd X.K fd ps n ks g gV gA) (tk : Takes X (fun c d _ H => E c d H))
    (I : Inv X pins σ H s) (rv : Vals vs us) (rz : Vals zs ws) (l1 : vs.length = n) (l2 : zs.length = ks.length) (h : sp (gV vs zs) H Q E) : wpAny (model X.prog X.w) X.A (call (.ref f) us (ks.zip ws)) (EP X pins σ Q) X.xe s := by
  have run := F.go X.A X.stack s H ⟨us, ks.zip ws⟩ (g us ws) (gV vs zs) Q E hr hgd I.env0 (hb.to s us ws I.kIn (by rw [← l1, rv.length]) (by rw [← l2, rz.length])) (hb.rel l1 l2 rv rz) (hb.len vs zs l1 l2) h
  refine wpAny_call (codeAny_mono run fun r s2 hq => ?_)
  cases r with
  | error e => exact passes_call tk (fun _ _ _ _ z => z) pins σ H s e s2 I hq
  | ok fl =>
    cases fl with
    | ret u => exact I.after hq
    | next => exact False.elim hq
    | brk => exact False.elim hq
    | cont => exact False.elim hq
theorem rx_call (hG : X.K = G.K) (hb : Bnd X.K fd ps n ks g gV gA) (ha : RR G E n t wr) (hk : RR G E ks.length tk' wk) : RX G E (tCallN n ks.length (spV G c ps.length) gV E t tk') (wCall c gA wr wk) := fun W S H σ e P X hs hw hkp Q q =>
  ha W S H σ e _ X hs hw hkp _ fun vs as W1 S1 H1 e1 f1 s1 a1 l1 h1 => hk W1 S1 H1 σ e1 _ X s1 h1 (hkp.next f1) _ fun zs bs W2 S2 H2 e2 f2 s2 a2 l2 h2 => by
    have f12 := f1.trans f2
    have a1' := a1.up f2
    have lv : vs.length = n := by rw [a1.len, l1]
    have lz : zs.length = ks.length := by rw [a2.len, l2]
    have ars : ArsOk G.K W2 S2 H2 (gV vs zs) (gA as bs) := by
      rw [← hG] at a1' a2 ⊢
      exact hb.ar lv lz a1' a2
    refine ⟨lv, lz, hb.len vs zs lv lz, gens W2, S2, e2.fu, gA as bs, _, X, s2.gd.gens, gens_only, ars.gens, h2, (hkp.next f12).gens s2.gd, fun v r W3 S3 H3 n3 f3 g3 a3 hpl h3 => ?_⟩
    exact q v r (back W2 W3) S3 H3 ⟨e2.sl, n3⟩ (f12.trans (back_fw s2.gd f3)) (back_sim s2 f3 g3) (back_ar hpl a3 s2.gd f3) h3
/-- f(a, ..) -/
theorem vx_call (F : FnG X.prog X.w X.K X.mg X.base k f fd ps (spV G c ps.length)) (hb : Bnd X.K fd ps n [] g gV gA) (hm : X.mg x = some (.ref f)) (hkp : PySem.W.keepIn X.K (.ref f) = true) (hr : Room k X.A) (hgd : X.A.guards = some []) (tk : Takes X (fun c d _ H => E c d H))
    (ha : VR G X E (a :: es) n t wr) (hg : Gl X x := by rfl) (hdb : (x == ("__debug__" : Str)) = false := by decide) (he : starEach (a :: es) X.env = (false, eval a X.env) :: starEach es X.env := by rfl) (hpl : (backTo pos (starEach es X.env)).any (·.1) = false := by rfl) :
    VX G X E (.Call (.Name x p) (a :: es) [] pos) (tCallN n 0 (spV G c ps.length) gV E t tNil) (wCall c gA wr rNil) := by
  refine ⟨ha.hK, ⟨fun pins s σ H Q I h => ?_⟩, rx_call (ks := []) ha.hK hb ha.rr rr_nil⟩
  refine wpAny_Call_Name_kw (ld_glob I hg hm ?_ hdb)
  refine PySem.W.callWith_K (h₀ := X.base) I.ok.mod.kin hkp (thn (ha.pa.run pos pins s σ H _ I h) fun us s1 hh => ?_) he hpl
  obtain ⟨vs, H1, I1, rv, l1, l2, q⟩ := hh
  exact ⟨I1.kIn, run_fnG (ks := []) (ws := []) F hr hgd hb tk I1 rv .nil l1 l2 q⟩
theorem vx_call0 (F : FnG X.prog X.w X.K X.mg X.base k f fd ps (spV G c ps.length)) (hb : Bnd X.K fd ps 0 [] g gV gA) (hm : X.mg x = some (.ref f)) (hkp : PySem.W.keepIn X.K (.ref f) = true) (hr : Room k X.A) (hgd : X.A.guards = some []) (tk : Takes X (fun c d _ H => E c d H))
    (hg : Gl X x := by rfl) (hdb : (x == ("__debug__" : Str)) = false := by decide) (hK : X.K = G.K := by rfl) :
    VX G X E (.Call (.Name x p) [] [] pos) (tCallN 0 0 (spV G c ps.length) gV E tNil tNil) (wCall c gA rNil rNil) := by
  refine ⟨hK, ⟨fun pins s σ H Q I h => ?_⟩, rx_call (ks := []) hK hb rr_nil rr_nil⟩
  refine wpAny_Call_Name_kw (ld_glob I hg hm ?_ hdb)
  obtain ⟨l1, l2, q⟩ := h
  exact PySem.W.callWith_K0 I.kIn hkp (run_fnG (ks := []) (us := []) (ws := []) (vs := []) (zs := []) F hr hgd hb tk I .nil .nil rfl rfl q)
/-- f(a, .., k = b, ..) -/
theorem vx_callK (F : FnG X.prog X.w X.K X.mg X.base k f fd ps (spV G c ps.length)) (hb : Bnd X.K fd ps n ks g gV gA) (hm : X.mg x = some (.ref f)) (hkp : PySem.W.keepIn X.K (.ref f) = true) (hr : Room k X.A) (hgd : X.A.guards = some []) (tk : Takes X (fun c d _ H => E c d H))
    (ha : VR G X E (a :: es) n t wr) (hkw : VKs G X E kws ks.length tk' wk) (hall : (backToKw pos (keywordEach kws X.env)).all (·.1.isSome) = true := by rfl) (hks : (backToKw pos (keywordEach kws X.env)).filterMap (·.1) = ks := by rfl) (hg : Gl X x := by rfl) (hdb : (x == ("__debug__" : Str)) = false := by decide)
    (he : starEach (a :: es) X.env = (false, eval a X.env) :: starEach es X.env := by rfl) (hpl : ((backTo pos (starEach (a :: es) X.env)).any (·.1) || (backToKw pos (keywordEach kws X.env)).any (·.1.isNone)) = false := by rfl) :
    VX G X E (.Call (.Name x p) (a :: es) kws pos) (tCallN n ks.length (spV G c ps.length) gV E t tk') (wCall c gA wr wk) := by
  refine ⟨ha.hK, ⟨fun pins s σ H Q I h => ?_⟩, rx_call ha.hK hb ha.rr hkw.rr⟩
  refine wpAny_Call_Name_kw (ld_glob I hg hm ?_ hdb)
  refine PySem.W.callWith_KW (h₀ := X.base) I.ok.mod.kin hkp hall (thn (ha.pa.run pos pins s σ H _ I h) fun us s1 hh => ?_) hpl he
  obtain ⟨vs, H1, I1, rv, q⟩ := hh
  refine thn (hkw.pk.run pos pins s1 σ H1 _ I1 q) fun ws s2 hh => ?_
  obtain ⟨zs, H2, I2, rz, l1, l2, q2⟩ := hh
  refine ⟨I2.kIn, ?_⟩
  rw [hks]
  exact run_fnG F hr hgd hb tk I2 rv rz l1 l2 q2
theorem vx_callK0 (F : FnG X.prog X.w X.K X.mg X.base k f fd ps (spV G c ps.length)) (hb : Bnd X.K fd ps 0 ks g gV gA) (hm : X.mg x = some (.ref f)) (hkp : PySem.W.keepIn X.K (.ref f) = true) (hr : Room k X.A) (hgd : X.A.guards = some []) (tk : Takes X (fun c d _ H => E c d H))
    (hkw : VKs G X E kws ks.length tk' wk) (hall : (backToKw pos (keywordEach kws X.env)).all (·.1.isSome) = true := by rfl) (hks : (backToKw pos (keywordEach kws X.env)).filterMap (·.1) = ks := by rfl) (hg : Gl X x := by rfl) (hdb : (x == ("__debug__" : Str)) = false := by decide)
    (hpl : ((backTo pos (starEach [] X.env)).any (·.1) || (backToKw pos (keywordEach kws X.env)).any (·.1.isNone)) = false := by rfl) (hK : X.K = G.K := by rfl) :
    VX G X E (.Call (.Name x p) [] kws pos) (tCallN 0 ks.length (spV G c ps.length) gV E tNil tk') (wCall c gA rNil wk) := by
  refine ⟨hK, ⟨fun pins s σ H Q I h => ?_⟩, rx_call hK hb rr_nil hkw.rr⟩
  refine wpAny_Call_Name_kw (ld_glob I hg hm ?_ hdb)
  refine PySem.W.callWith_KW0 (h₀ := X.base) I.ok.mod.kin hkp hall (thn (hkw.pk.run pos pins s σ H _ I h) fun ws s2 hh => ?_) hpl
  obtain ⟨zs, H2, I2, rz, l1, l2, q2⟩ := hh
  refine ⟨I2.kIn, ?_⟩
  rw [hks]
  exact run_fnG (us := []) (vs := []) F hr hgd hb tk I2 .nil rz l1 l2 q2
/-- a local name that holds one of several defs -/
def wCallL (i : Nat) (cs : Addr → Option Ct) (wr : WR) : WX' := fun e P X => match e.sl[i]? with
  | some (.op (.ref f)) => match cs f with
    | some c => wr e (fun as e2 => c as e2.fu (fun r n => P r ⟨e2.sl, n⟩) X) X
    | none => False
  | _ => False
def HeldG (X : Cx) (G : Gx) (k n : Nat) (f : Addr) (c : Ct) : Prop := ∃ fd ps, FnG X.prog X.w X.K X.mg X.base k f fd ps (spV G c ps.length) ∧ PySem.W.keepIn X.K (.ref f) = true ∧ Bnd X.K fd ps n [] (fun us _ => us) (fun vs _ => vs) (fun as _ => as)
theorem vx_callL {cs : Addr → Option Ct} (i : Nat) (F : ∀ f c, cs f = some c → HeldG X G k n f c) (hr : Room k X.A) (hgd : X.A.guards = some []) (tk : Takes X (fun c d _ H => E c d H))
    (ha : VR G X E (a :: es) n t wr) (hN : X.N[i]? = some x := by rfl) (hv : Vis X.env.scope x := by first | exact Or.inl rfl | exact Or.inr (Or.inl rfl) | exact Or.inr (Or.inr rfl)) (hdb : (x == ("__debug__" : Str)) = false := by decide) (hcd : (x == ("__classdict__" : Str)) = false := by decide)
    (he : starEach (a :: es) X.env = (false, eval a X.env) :: starEach es X.env := by rfl) (hpl : (backTo pos (starEach es X.env)).any (·.1) = false := by rfl) :
    VX G X E (.Call (.Name x p) (a :: es) [] pos) (fun σ H Q => ∃ f c, σ[i]? = some (some (.ref f)) ∧ cs f = some c ∧ tCallN n 0 (spV G c n) (fun vs _ => vs) E t tNil σ H Q) (wCallL i cs wr) := by
  refine ⟨ha.hK, ⟨fun pins s σ H Q I h => ?_⟩, fun W S H σ e P X' hs hw hk Q q => ?_⟩
  · obtain ⟨f, c, hs, hc, h⟩ := h
    obtain ⟨fd, ps, FG, hkp, hb⟩ := F f c hc
    have hn : ps.length = n := by
      have z := hb.len (List.replicate n .non) [] (by simp) rfl
      simpa using z.symm
    rw [← hn] at h
    refine wpAny_Call_Name_kw (thn ((pe_var (pos := p) (i := i) hN hv hdb hcd).run pins s σ H (fun v H1 => v = .ref f ∧ H1 = H) I ⟨.ref f, hs, rfl, rfl⟩) fun u s1 hh => ?_)
    obtain ⟨v, H1, I1, r1, ev, eH⟩ := hh
    subst ev
    rw [eH] at I1
    obtain rfl : u = Value.ref f := r1
    refine PySem.W.callWith_K (h₀ := X.base) I.ok.mod.kin hkp (thn (ha.pa.run pos pins s1 σ H _ I1 h) fun us s2 hh => ?_) he hpl
    obtain ⟨vs, H2, I2, rv, l1, l2, q⟩ := hh
    exact ⟨I2.kIn, run_fnG (ks := []) (ws := []) FG hr hgd hb tk I2 rv .nil (by rw [← hn]; exact l1) l2 q⟩
  · unfold wCallL at hw
    split at hw
    · rename_i f hi
      split at hw
      · rename_i c hc
        obtain ⟨fd, ps, FG, hkp, hb⟩ := F f c hc
        have hn : ps.length = n := by
          have z := hb.len (List.replicate n .non) [] (by simp) rfl
          simpa using z.symm
        refine ⟨f, c, hs.sl i _ hi, hc, ?_⟩
        have z := rx_call (E := E) (c := c) (ks := []) (t := t) (wr := wr) (tk' := tNil) (wk := rNil) ha.hK hb ha.rr rr_nil W S H σ e P X' hs hw hk Q q
        rw [hn] at z
        exact z
      · exact hw.elim
    · exact hw.elim
end
end VL

end
section
set_option Elab.async false
set_option linter.all false
set_option maxRecDepth 100000
set_option maxHeartbeats 2000000
namespace VL
open PySem PySem.Spec PyProof.Rows L2

section
variable {G : Gx} {X : Cx} {E : XK} {pos : Pos} {a b : Expr} {ta tb : TE} {wa wb : WE} {wx : WX'}
/-! ### a drawing list -/
theorem GenOk.lower {n m : Nat} {H : Hp} {p : Addr} (h : GenOk n H p) (l : m ≤ n) : GenOk m H p := h.up (Ex.refl _) l
theorem Sim.genPut {W : Addr → Option Nat} {S H : Hp} {σ : L2.St} {e : En} {p : Addr} {vs us : List V} {n' : Nat} (h : Sim G W S H σ e) (hW : W p = some gcode) (hH : H p = some (.lst vs)) (hn : n' ≤ e.fu) (hg : GenOk n' (upd H p (.lst us)) p) :
    Fw W S H W S (upd H p (.lst us)) ∧ Sim G W S (upd H p (.lst us)) σ ⟨e.sl, n'⟩ := by
  have hS := (h.gd.wo p _ hW).1
  have other : ∀ q, q ≠ p → upd H p (.lst us) q = H q := fun q hq => upd_ne hq
  have there : ∀ q, H q ≠ none → upd H p (.lst us) q ≠ none := fun q hq => by
    by_cases e : q = p
    · rw [e, upd_same]; exact fun z => by cases z
    · rw [other q e]; exact hq
  refine ⟨⟨Ex.refl _, fun q o w _ z => ?_, there, fun _ z _ _ => z, fun _ z => .inl z, fun _ z => z, fun q ps z => ⟨ps, ?_⟩⟩, ⟨⟨fun q o z => ?_, fun q j w => ⟨(h.gd.wo q j w).1, there q (h.gd.wo q j w).2⟩, fun q w => ?_, fun t ht => ?_, fun q j w => ?_, h.gd.st⟩, h.ln, h.sm, fun j s hs => ?_⟩⟩
  · rw [other q (fun y => by rw [y, hW] at w; cases w)]; exact z
  · rw [other q (fun y => by rw [y, hH] at z; cases z)]; exact z
  · rw [other q (fun y => by rw [y, hS] at z; cases z)]; exact h.gd.sh q o z
  · by_cases e : q = p
    · rw [e]; exact hg
    · obtain ⟨x, y, z, h1, h2⟩ := (h.gd.ge q w).lower hn
      exact ⟨x, y, z, by rw [other q e]; exact h1, h2⟩
  · obtain ⟨ps, a1, a2, a3⟩ := h.gd.tb t ht
    refine ⟨ps, by rw [other _ (fun y => by rw [y, hH] at a1; cases a1)]; exact a1, a2, fun q cv hc => ?_⟩
    obtain ⟨c, b1, b2⟩ := a3 q cv hc
    exact ⟨c, b1, by rw [other _ (fun y => by rw [y, hH] at b2; unfold LamX.CodeO at b2; cases b2)]; exact b2⟩
  · by_cases hq : q = p
    · rw [hq, upd_same]; exact ⟨_, rfl⟩
    · rw [other q hq]; exact h.gd.tw q j w
  · have hs' : e.sl[j]? = some s := hs
    have q := h.sl j s hs'
    have hj : j < gcode := Nat.lt_of_lt_of_le (List.getElem?_eq_some_iff.mp hs').1 h.sm
    cases s with
    | un => trivial
    | da d => exact q
    | op v => exact q
    | ow ds' => obtain ⟨p', vs', h1, h2, h3, h4⟩ := q; exact ⟨p', vs', h1, h2, by rw [other p' (fun y => by rw [y, hW] at h2; exact absurd (Option.some.inj h2) (Nat.ne_of_gt hj))]; exact h3, h4⟩
    | ge => exact q
    | er C d => obtain ⟨v, h1, h2⟩ := q; exact ⟨v, h1, h2.up (Ex.refl _) fun b o w iu e => ⟨by rw [other b (fun z => iu.2 vs (by rw [z, hH] at e; exact (Option.some.inj e).symm))]; exact e, w⟩⟩
    | sq ns => exact q
/-- what a draw list may hold -/
def GeB (a b c : Int) (n : Nat) : Prop := 0 ≤ a ∧ a < 10 ^ 600 ∧ 0 ≤ b ∧ b < 2147483647 ∧ 0 ≤ c ∧ c + n ≤ 2 ^ 60
/-- g[j] -/
def wGeIx (i : Nat) (wb : WE) : WE := fun e P X => match e.sl[i]? with
  | some .ge => wb e (fun y e1 => e1.sl[i]? = some .ge ∧ ∀ a b c, GeB a b c e1.fu → match y with | .int 0 => P (.int a) e1 | .int 1 => P (.int b) e1 | .int 2 => P (.int c) e1 | _ => False) X
  | _ => False
theorem ve_geIx (i : Nat) {x : Str} {p1 : Pos} (hb : VE G X E b tb wb) (hs : PlainIx b := by intro _ _; rfl) (hN : X.N[i]? = some x := by rfl) (hv : Vis X.env.scope x := by first | exact Or.inl rfl | exact Or.inr (Or.inl rfl) | exact Or.inr (Or.inr rfl)) (hd : (x == ("__debug__" : Str)) = false := by decide)
    (hcd : (x == ("__classdict__" : Str)) = false := by decide) : VE G X E (.Subscript (.Name x p1) b pos) (tOp (rIxD G.K) (tVar i) tb) (wGeIx i wb) := ⟨hb.hK, pe_ix (by rw [← hb.hK]; exact ix_D) (pe_var hN hv hd hcd) hb.pe hs, fun W S H σ e P X hs hw hk Q q => by
  unfold wGeIx at hw
  split at hw
  · rename_i hi
    obtain ⟨p, h1, h2⟩ := hs.sl i _ hi
    refine ⟨_, h1, hb.re W S H σ e _ X hs hw hk _ fun y dy W1 S1 H1 e1 f1 s1 d1 hp => ?_⟩
    obtain ⟨hi1, hp⟩ := hp
    have w1 := f1.gn p h2
    obtain ⟨a, b, c, hl, g1, g2, g3, g4, g5, g6⟩ := s1.gd.ge p w1
    have hp := hp a b c ⟨g1, g2, g3, g4, g5, g6⟩
    split at hp
    · cases d1
      exact .inl ⟨p, _, 0, .int a, rfl, rfl, .inl (.inl hl), rfl, q _ _ W1 S1 H1 e1 f1 s1 (.int a) hp⟩
    · cases d1
      exact .inl ⟨p, _, 1, .int b, rfl, rfl, .inl (.inl hl), rfl, q _ _ W1 S1 H1 e1 f1 s1 (.int b) hp⟩
    · cases d1
      exact .inl ⟨p, _, 2, .int c, rfl, rfl, .inl (.inl hl), rfl, q _ _ W1 S1 H1 e1 f1 s1 (.int c) hp⟩
    · exact hp.elim
  · exact hw.elim⟩
/-- g[j] = e -/
def wGeSet (i : Nat) (wa wb : WE) : WS := fun A X e => wa e (fun d e1 => wb e1 (fun y e2 => e2.sl[i]? = some .ge ∧ e1.sl[i]? = some .ge ∧ match d, y with
  | .int x, .int 0 => 0 ≤ x ∧ x < 10 ^ 600 ∧ A.nx e2
  | .int x, .int 2 => 0 ≤ x ∧ ∃ n, n ≤ e2.fu ∧ x + n ≤ 2 ^ 60 ∧ A.nx ⟨e2.sl, n⟩
  | _, _ => False) X) X
def wGeSet' (i : Nat) (wa wb : WE) : WS := fun A X e => wa e (fun d e1 => match e1.sl[i]? with
  | some .ge => wb e1 (fun y e2 => match d, y with
    | .int x, .int 0 => 0 ≤ x ∧ x < 10 ^ 600 ∧ A.nx e2
    | .int x, .int 2 => 0 ≤ x ∧ ∃ n, n ≤ e2.fu ∧ x + n ≤ 2 ^ 60 ∧ A.nx ⟨e2.sl, n⟩
    | _, _ => False) X
  | _ => False) X
theorem vs_geSet (i : Nat) {x : Str} {p1 p2 : Pos} (ha : VE G X E a ta wa) (hb : VE G X E b tb wb) (hN : X.N[i]? = some x := by rfl) (hv : Vis X.env.scope x := by first | exact Or.inl rfl | exact Or.inr (Or.inl rfl) | exact Or.inr (Or.inr rfl)) (hd : (x == ("__debug__" : Str)) = false := by decide) (hcd : (x == ("__classdict__" : Str)) = false := by decide)
    (hst : ∀ v, assign (.Subscript (.Name x p1) b p2) X.env v = (do
      let ov ← holding [v] (eval (.Name x p1) X.env)
      let iv ← holding [v, ov] (eval b X.env)
      standAt p2
      holding [v, ov, iv] (setItem ov iv v)
      release [v, ov, iv] []) := by intro _; rfl)
    (hs : swapsWithSole [.Subscript (.Name x p1) b p2] a pos.line X.env = pure false := by rfl) (hw : swappedStores [.Subscript (.Name x p1) b p2] a X.env = pure none := by rfl)
    (h1 : (assignEach [.Subscript (.Name x p1) b p2] X.env).map (·.2) = [assign (.Subscript (.Name x p1) b p2) X.env] := by rfl) :
    VS G X E (.Assign [.Subscript (.Name x p1) b p2] a pos) (tAsg ta (gSub (tVar i) tb rSetL)) (wGeSet' i wa wb) :=
  ⟨ha.hK, ps_asg ha.pe (pg_sub (pe_var hN hv hd hcd) hb.pe set_list hst) hs hw h1, fun W S H σ e A X hs hw hk D n _ _ _ => ha.re W S H σ e _ X hs hw hk _ fun v d W1 S1 H1 e1 f1 s1 d1 h1 => by
    split at h1
    · rename_i hi
      obtain ⟨p, g1, g2⟩ := s1.sl i _ hi
      refine ⟨_, g1, hb.re W1 S1 H1 σ e1 _ X s1 h1 (hk.next f1) _ fun y dy W2 S2 H2 e2 f2 s2 d2 h2 => ?_⟩
      have w2 := f2.gn p g2
      obtain ⟨x0, y0, z0, hl, b1, b2, b3, b4, b5, b6⟩ := s2.gd.ge p w2
      have f12 := f1.trans f2
      split at h2
      · cases d1; cases d2
        rename_i x
        obtain ⟨k1, k2, k3⟩ := h2
        obtain ⟨f3, s3⟩ := s2.genPut (us := [.int x, .int y0, .int z0]) (n' := e2.fu) w2 hl (Nat.le_refl _) ⟨x, y0, z0, upd_same, k1, k2, b3, b4, b5, b6⟩
        exact ⟨p, _, 0, 0, rfl, rfl, hl, rfl, n W2 S2 _ σ _ (f12.trans f3) s3 k3⟩
      · cases d1; cases d2
        rename_i x
        obtain ⟨k1, m, k2, k3, k4⟩ := h2
        obtain ⟨f3, s3⟩ := s2.genPut (us := [.int x0, .int y0, .int x]) (n' := m) w2 hl k2 ⟨x0, y0, x, upd_same, b1, b2, b3, b4, k1, k3⟩
        exact ⟨p, _, 2, 2, rfl, rfl, hl, rfl, n W2 S2 _ σ _ (f12.trans f3) s3 k4⟩
      · exact h2.elim
    · exact h1.elim⟩
/-! ### name = what a call brings -/
def wSetX (i : Nat) (wx : WX') : WS := fun A X e => wx e (fun r e1 => A.nx (e1.set i r.sl)) X
theorem vs_setX (i : Nat) {x : Str} {p1 : Pos} (hN : X.N.Nodup) (ha : VX G X E a ta wx) (hi : X.N[i]? = some x := by rfl) (hx : Loc X.env.scope x := by first | exact Or.inl rfl | exact Or.inr rfl) (hs : swapsWith a (some (.Name x p1)) pos.line X.env = pure false := by rfl)
    (hf : X.fn x = true ∨ X.env.scope.names.lookup x = some .local := by first | exact Or.inl rfl | exact Or.inr rfl) : VS G X E (.Assign [.Name x p1] a pos) (tAsg ta (gName i)) (wSetX i wx) := ⟨ha.hK, ps_set hN hi hx ha.pe hs hf, fun W S H σ e A X hs hw hk D n _ _ _ => ha.rx W S H σ e _ X hs hw hk _ fun v r W1 S1 H1 e1 f1 s1 d1 h1 => by
  refine n W1 S1 H1 _ _ f1 (s1.set (i := i) (v := v) (s := r.sl) fun _ => ?_) h1
  cases r with
  | da d => exact ⟨v, rfl, d1⟩
  | op u => show some (some v) = some (some u); rw [show v = u from d1]
  | ge => obtain ⟨p, e, w⟩ := d1; exact ⟨p, by rw [e], w⟩
  | er C d => exact ⟨v, rfl, d1⟩
  | sq ns => obtain ⟨b, e, w⟩ := d1; exact ⟨b, by rw [e], w⟩⟩
/-- return [a, b, c], from now on a drawing list -/
def wRetGe (wl : WA) : WS := fun A X e => wl e (fun ds e1 => match ds with
  | [.int a, .int b, .int c] => GeB a b c e1.fu ∧ A.rt .ge e1.fu
  | _ => False) X
theorem Good.gen {W : Addr → Option Nat} {S H : Hp} {n : Nat} {p : Addr} {a b c : Int} (g : Good G W S H n) (hS : S p = none) (hW : W p = none) (hH : H p = some (.lst [.int a, .int b, .int c])) (hb : GeB a b c n) : Good G (fun q => if q = p then some gcode else W q) S H n := by
  refine ⟨g.sh, fun q j w => ?_, fun q w => ?_, g.tb, fun q j w => ?_, g.st⟩
  · have w' : (if q = p then some gcode else W q) = some j := w
    by_cases hq : q = p
    · rw [hq]; exact ⟨hS, by rw [hH]; exact fun z => by cases z⟩
    · rw [if_neg hq] at w'; exact g.wo q j w'
  · have w' : (if q = p then some gcode else W q) = some gcode := w
    by_cases hq : q = p
    · obtain ⟨b1, b2, b3, b4, b5, b6⟩ := hb
      rw [hq]; exact ⟨a, b, c, hH, b1, b2, b3, b4, b5, b6⟩
    · rw [if_neg hq] at w'; exact g.ge q w'
  · have w' : (if q = p then some gcode else W q) = some j := w
    by_cases hq : q = p
    · rw [hq, hH]; exact ⟨_, rfl⟩
    · rw [if_neg hq] at w'; exact g.tw q j w'
theorem vs_retGe {wl : WA} (ha : VF G X E a ta wl) : VS G X E (.Return (some a) pos) (tRet ta) (wRetGe wl) := ⟨ha.hK, ps_ret ha.pe, fun W S H σ e A X hs hw hk D _ r _ _ => ha.rf W S H σ e _ X hs hw hk _ fun p vs ds W1 S1 H1 e1 f1 s1 n1 n2 n3 h1 d1 hp => by
  split at hp
  · cases d1 with
    | cons x1 t1 =>
      cases t1 with
      | cons x2 t2 =>
        cases t2 with
        | cons x3 t3 =>
          cases t3; cases x1; cases x2; cases x3
          exact r (.ref p) .ge _ S1 H1 e1.fu (f1.own n1 n3) (s1.gd.gen n2 n3 h1 hp.1) ⟨p, rfl, if_pos rfl⟩ hp.2
  · exact hp.elim⟩
/-- return f(..) -/
def wRetX (wx : WX') : WS := fun A X e => wx e (fun r e1 => A.rt r e1.fu) X
theorem vs_retX (ha : VX G X E a ta wx) : VS G X E (.Return (some a) pos) (tRet ta) (wRetX wx) := ⟨ha.hK, ps_ret ha.pe, fun W S H σ e A X hs hw hk D _ r _ _ => ha.rx W S H σ e _ X hs hw hk _ fun v d W1 S1 H1 e1 f1 s1 d1 h1 => r v d W1 S1 H1 e1.fu f1 s1.gd d1 h1⟩
end
end VL

end
section
set_option Elab.async false
set_option linter.all false
set_option maxRecDepth 100000
set_option maxHeartbeats 4000000
namespace VL
open PySem PySem.Spec PyProof.Rows L2

section
variable {X : Cx} {pins : List (Addr × Obj)} {σ : L2.St} {H : Hp} {s : Shared} {a : Addr} {oe : Obj}
/-- a pinned object is tracked from now on -/
theorem Inv.hold {o : HO} (I : L2.Inv X ((a, oe) :: pins) σ H s) (h0 : X.s_0.heap.get? a = none) (hp : ∀ p ∈ X.pn ++ pins, p.1 ≠ a) (hx : Inert o) (hown : ∀ b, o ≠ .own b) (htup : ∀ xs, o ≠ .tup xs) (ok : ObjOk X.prog X.w (upd H a o) s.heap a o) : L2.Inv X pins σ (upd H a o) s := by
  obtain ⟨p1, p2, p3, p4, p5⟩ := I.pin (a, oe) (List.mem_append_right _ (List.mem_cons_self ..))
  have p1 : s.heap.get? a = some oe := p1
  have p2 : H a = none := p2
  have ne : ∀ b u, H b = some u → b ≠ a := fun b u e z => by rw [z, p2] at e; cases e
  refine ⟨I.ok, I.os, I.bare, ⟨I.base.keep, I.base.slot, fun b ob e n hb => ?_, I.base.there, fun b xs e => ?_, fun b ob u e => ?_, fun b ps e => ?_⟩, I.loc, I.cell, ?_, fun x c e => ?_, fun p hm => ?_, fun b u e => ?_, I.len⟩
  · rw [upd_ne (fun z => by rw [z, h0] at e; cases e)]; exact I.base.free b ob e n hb
  · have q := I.base.tups b xs e
    rw [upd_ne (ne b _ q)]; exact q
  · have q := I.base.frzs b ob u e
    rw [upd_ne (ne b _ q)]; exact q
  · obtain ⟨more, q⟩ := I.base.tbls b ps e
    exact ⟨more, by rw [upd_ne (ne b _ q)]; exact q⟩
  · rw [upd_ne (fun z => p3 z.symm)]; exact I.free
  · have hc : c ≠ a := fun z => by
      obtain ⟨v, oc, ho, hd⟩ := I.cell x c e
      rw [z, p1] at ho
      cases ho
      exact p5 _ hd
    rw [upd_ne hc]; exact I.freeC x c e
  · obtain ⟨q1, q2, q3, q4, q5⟩ := I.pin p (by
      rcases List.mem_append.mp hm with z | z
      · exact List.mem_append_left _ z
      · exact List.mem_append_right _ (List.mem_cons_of_mem _ z))
    exact ⟨q1, by rw [upd_ne (hp p hm)]; exact q2, q3, q4, q5⟩
  · by_cases hb : b = a
    · subst hb
      rw [upd_same] at e
      cases e
      exact ok
    · rw [upd_ne hb] at e
      refine (I.hok b u e).stay (fun c w' hc q => q) (fun c q => ?_) fun c xs q => ?_
      · rw [upd_ne (ne c _ q)]; exact q
      · rw [upd_ne (ne c _ q)]; exact q
theorem exT_ok {P : Program} {w : World} {H : Hp} {h : Heap} {cls : Value} {d : Option Addr} {vs : Array Value} (e : h.get? a = some oe) (z : Zc cls d oe) (hd : oe.data = .fields vs) : ObjOk P w H h a (ExT cls d a) :=
  ⟨⟨oe, vs, e, z, hd⟩, ⟨_, e⟩, fun h1 h2 ⟨o, ws, e1, e2, e3⟩ k => ⟨o, ws, k _ e1, e2, e3⟩⟩
end
/-- what 'except x as n: y = n' wishes of an exception of the body -/
def wKeep (K : PySem.W.Frag) (c : Value) (i j : Nat) (D : Ends) : WX := fun cls d σ H => PySem.W.exmOne K cls c = some true ∧ ∀ a, H a = none → D.nx ((σ.set j (some (.ref a))).set i none) (upd H a (ExT cls d a))
section
variable {X : Cx} {x n y : Str} {c : Value} {i j : Nat} {body : List Stmt} {np pos pos' p1 p2 p3 : Pos} {tb : WX → TS}
theorem ps_try_keep (hs : X.stack = X.env :: X.outer) (hf : X.env.frame = some X.env.locals) (hex : X.ex = []) (hN : X.N.Nodup) (hi : X.N[i]? = some n) (hj : X.N[j]? = some y) (hij : i ≠ j) (hln : X.env.kindOf n = some .local) (hly : X.env.kindOf y = some .local) (hdn : (n == ("__debug__" : Str)) = false) (hcn : (n == ("__classdict__" : Str)) = false) (hc : Names X x c)
    (hsw : swapsWith (.Name n p2) (some (.Name y p1)) p3.line X.env = pure false)
    (hb : ∀ (W : WX) (pn : List (Addr × Obj)) (xe : Value → Shared → Prop), Takes (X.tr pn xe) W → PassesOwn (model X.prog X.w) X.A X.env xe → PSs (X.tr pn xe) body (tb W)) :
    PS X (.Try body [.ExceptHandler (some (.Name x np)) (some n) [.Assign [.Name y p1] (.Name n p2) p3] pos'] [] [] pos) (fun D σ H => tb (wKeep X.K c i j D) D σ H) := by
  refine ⟨fun pins s σ H D I h => ?_⟩
  have ok := I.ok
  have hfr : X.A.frames = some (X.env :: X.outer) := by rw [ok.frames, hs]
  refine wpAny_Try_except ?_
  refine wpAny_mono ((hb (wKeep X.K c i j D) (X.pn ++ pins) (fun e s₁ => wpAny (model X.prog X.w) X.A (noteFrame e X.env) (fun _ s₂ => wpAny (model X.prog X.w) X.A (setFlight e none) (fun _ s₃ =>
    wpAny (model X.prog X.w) X.A (handleBy e X.env [.ExceptHandler (some (.Name x np)) (some n) [.Assign [.Name y p1] (.Name n p2) p3] pos']) (SP X pins D) X.xe s₃) X.xe s₂) X.xe s₁) (fun u s' xx => ?_) PassesOwn.looking).run [] s σ H D (I.toTry _) h) (fun f s1 hsp => ?_) (fun e s1 he => he)
  · obtain ⟨a, B, sI, pins', σ', H', cls, d, rfl, J', nb, up, sky, na, os, ag, hb1, hyes⟩ := xx
    have J : L2.Inv X pins σ' H' sI := J'.ofTry ok
    have sky' : Sky B (X.env :: X.outer) a (Zc cls d) X.env.locals s'.heap := by rw [← hs]; exact sky
    show wpAny (model X.prog X.w) X.A (noteFrame (.ref a) X.env) _ _ _
    refine Sky.land Zc.steady hfr hf sky' fun h3 fl3 up3 => ?_
    have J3 : L2.Inv X pins σ' H' { s' with heap := h3 } := J.landed nb fl3.1 (up.trans up3) os ag
    obtain ⟨oe3, vs3, he3, hz3, hd3⟩ := fl3.there
    have nfr : a ∉ frs (X.env :: X.outer) := fun hm => by
      obtain ⟨_, o', e', hnf⟩ := fl3.2.2.1.mem hm
      rw [he3] at e'; cases e'
      exact hnf _ hd3
    have nL : a ≠ X.env.locals := fun z => nfr (List.mem_filterMap.mpr ⟨X.env, List.mem_cons_self, by rw [hf, z]⟩)
    have nF : a ∉ X.fs := fun hm => by
      obtain ⟨e, he, q⟩ := List.mem_filterMap.mp hm
      exact nfr (List.mem_filterMap.mpr ⟨e, List.mem_cons_of_mem _ he, q⟩)
    have nB : B.get? a = none := fl3.2.1
    have nI : sI.heap.get? a = none := opt_none fun z => by
      cases e : sI.heap.get? a with
      | none => exact z e
      | some o => rw [nb a o e (by rw [hs]; exact nfr)] at nB; cases nB
    have n0 : X.s_0.heap.get? a = none := opt_none fun z => by
      cases e : X.s_0.heap.get? a with
      | none => exact z e
      | some o =>
        obtain ⟨o', e'⟩ := J.base.there a o e (by rw [hex]; simp)
        rw [nI] at e'; cases e'
    have nP : ∀ p ∈ X.pn ++ pins, p.1 ≠ a := fun p hp z => by
      have q := (J.pin p hp).1
      rw [z, nI] at q; cases q
    have S3 := J3.suite he3 hd3 na nL nF
    refine wpAny_handleBy_cons (codeAny_handlers_test ?_) (by intro q; cases q)
    have LT : PySem.W.Looks (model X.prog X.w) h3 (typeOf (.ref a)) cls := fun A Q E s k q => wpAny_typeOf_ref (k _ _ he3) (by rw [hz3.1]; exact q)
    have LM := PySem.W.exm_one (M := model X.prog X.w) (J3.kIn) LT hb1
    have test : ∀ {Q : Value → Shared → Prop} {E : Value → Shared → Prop}, Q c { s' with heap := h3 } → wpAny (model X.prog X.w) (X.A.mark (some (.ref a))) (eval (.Name x np) X.env) Q E { s' with heap := h3 } := fun {Q E} q => by
      obtain ⟨hg, hdbg, hm | ⟨hm, hv, hnn⟩⟩ := hc
      · exact ld_glob (X := X.suite a ((a, oe3) :: (X.pn ++ pins))) S3 hg hm q hdbg
      · exact ld_blt (X := X.suite a ((a, oe3) :: (X.pn ++ pins))) S3 hg hm hv q hnn hdbg
    refine test (LM.here ?_)
    refine codeAny_handlers_suite_as ?_
    refine HandSPX.lands_againZ fl3 fun h4 fl4 up4 => ?_
    have J4 : L2.Inv X pins σ' H' { s' with heap := h4 } := J.landed nb fl4.1 ((up.trans up3).trans up4) os ag
    obtain ⟨oe4, vs4, he4, hz4, hd4⟩ := fl4.there
    have S4 := J4.suite he4 hd4 na nL nF
    refine store_ok (X := X.suite a ((a, oe4) :: (X.pn ++ pins))) (v := .ref a) S4 hN hi (.inl hln) rfl (fun s5 S5 => ?_) (.inr hln)
    have body : PSs (X.suite a ((a, oe4) :: (X.pn ++ pins))) [.Assign [.Name y p1] (.Name n p2) p3] (tAsg (tVar i) (gName j)) :=
      pss_one (ps_set (X := X.suite a ((a, oe4) :: (X.pn ++ pins))) hN hj (.inl hly) (pe_var hi (.inl hln) hdn hcn) hsw (.inr hly))
    have hlt : i < σ'.length := by
      rw [J.len]
      exact (List.getElem?_eq_some_iff.mp hi).1
    refine wpAny_mono (body.run [] s5 _ H' (D := { nx := fun σ6 H6 => σ6 = (σ'.set i (some (.ref a))).set j (some (.ref a)) ∧ H6 = H', rt := fun _ _ => False }) S5 ⟨.ref a, List.getElem?_set_self hlt, rfl, rfl⟩) (fun f s6 hsp => ?_) (fun _ _ z => False.elim z)
    cases f with
    | next =>
      obtain ⟨σ6, H6, S6, e6, eH⟩ := hsp
      subst e6 eH
      have J6 : L2.Inv X ((a, oe4) :: pins) ((σ'.set i (some (.ref a))).set j (some (.ref a))) H6 s6 := ⟨ok, S6.os, S6.bare, S6.base, S6.loc, S6.cell, S6.free, S6.freeC, fun p hp => S6.pin p (by
        rcases List.mem_append.mp hp with z | z
        · exact List.mem_append_left _ (List.mem_cons_of_mem _ (List.mem_append_left _ z))
        · rcases List.mem_cons.mp z with e | z
          · rw [e]; exact List.mem_append_left _ (List.mem_cons_self ..)
          · exact List.mem_append_left _ (List.mem_cons_of_mem _ (List.mem_append_right _ z))), S6.hok, S6.len⟩
      refine gone_ok J6 hN hi hln fun s7 J7 => ?_
      obtain ⟨q1, _⟩ := J7.pin (a, oe4) (List.mem_append_right _ (List.mem_cons_self ..))
      have J8 := Inv.hold (o := ExT cls d a) J7 n0 nP ExT.inert (fun b z => by unfold ExT at z; cases z) (fun xs z => by unfold ExT at z; cases z) (exT_ok q1 hz4 hd4)
      refine ⟨_, _, J8, ?_⟩
      have q := hyes a na
      have e : (((σ'.set i (some (V.ref a))).set j (some (V.ref a))).set i none) = ((σ'.set j (some (V.ref a))).set i none) := by
        rw [List.set_comm _ _ hij, List.set_set]
      show D.nx _ _
      rw [e]; exact q
    | brk => obtain ⟨_, _, _, z⟩ := hsp; exact False.elim z
    | cont => obtain ⟨_, _, _, z⟩ := hsp; exact False.elim z
    | ret u => obtain ⟨_, _, _, _, _, z⟩ := hsp; exact False.elim z
  · cases f with
    | next =>
      obtain ⟨σ', H', J', q⟩ := hsp
      exact wpAny_execs_nil ⟨σ', H', J'.ofTry ok, q⟩
    | brk =>
      obtain ⟨σ', H', J', q⟩ := hsp
      exact ⟨σ', H', J'.ofTry ok, q⟩
    | cont =>
      obtain ⟨σ', H', J', q⟩ := hsp
      exact ⟨σ', H', J'.ofTry ok, q⟩
    | ret u =>
      obtain ⟨v, σ', H', J', r, q⟩ := hsp
      exact ⟨v, σ', H', J'.ofTry ok, r, q⟩
end
end VL

end
section
set_option Elab.async false
set_option linter.all false
set_option maxRecDepth 100000
set_option maxHeartbeats 2000000
namespace VX
open PySem PySem.W PySem.Spec PySem.Calls PyProof.Rows
section
variable {prog : Program} {w : World} {A : Around} {E : Value → Shared → Prop} {s : Shared} {K : Frag} {x D : Addr} {ox : Obj} {od : Obj}
/-- the class of an error that has its own dict is asked -/
theorem er_class (EC : L2.ExcC K D) {Q : Option Value → Shared → Prop} (X : K.In s.heap) (I : InstAt s.heap x ox D (some od)) (h : Q (some (.ref D)) { s with toks := s.toks + 1 }) : wpAny (model prog w) A (getAttr? (.ref x) "__class__") Q E s := by
  have fnd : findObj K D (some od) "__class__" = some (.bind (.builtin "getset_descriptor.__get__") (.builtin "object.__class__")) := findObj_data (by obtain ⟨cd, hc, _⟩ := any_some EC.hd; rw [hc]; rfl) EC.ha EC.hn EC.ht
  obtain ⟨hp, g, d, t, os⟩ := s
  have ty := I.type (M := model prog w)
  have own := looks_findIn (M := model prog w) X EC.hg
  have no := looks_findIn (M := model prog w) X EC.hk
  have at_ := looks_find (M := model prog w) X I fnd
  have base : Looks (model prog w) hp (isInstance (.ref x) (.type "BaseException")) true := ty.andThen (looks_subIn X EC.hs)
  have q1 : (Value.builtin "BaseException.__getattribute__" == Value.builtin "object.__getattribute__") = false := by decide +kernel
  have q2 : (onTheHeap (Value.ref D) && Value.builtin "BaseException.__getattribute__" == Value.builtin "object.__getattribute__") = false := by rw [q1]; rfl
  have q3 : (false && onTheHeap (Value.builtin "BaseException.__getattribute__")) = false := rfl
  unfold getAttr? getAttrBy? getAttrBy
  refine wpAny_bind (wpAny_mkText (wpAny_bind (wpAny_attempt (wpAny_holding (wpAny_bind (ty.at (wpAny_bind (own.at ?_))))))))
  show wpAny _ _ (if (onTheHeap (Value.ref D) && Value.builtin "BaseException.__getattribute__" == Value.builtin "object.__getattribute__") = true then _ else _) _ _ _
  rw [q2, if_neg Bool.false_ne_true]
  unfold getAttrByItsOwn hookBefore
  refine wpAny_bind ?_
  rw [if_pos (show onTheHeap (Value.ref D) = true from rfl)]
  refine no.at (wpAny_bind (wpAny_attempt (wpAny_holding ?_)))
  unfold callGetattribute
  rw [q3, if_neg Bool.false_ne_true]
  unfold boundAndCalled
  rw [PySem.F.excAttr_ValueError.ga.bind (.ref x)]
  refine wpAny_bind (wpAny_pure ?_)
  show wpAny _ _ (call (.builtin "BaseException.__getattribute__") [.ref x, .str "__class__" t]) _ _ _
  refine wpAny_call (codeAny_call_builtin PySem.F.excAttr_ValueError.ga.plain PySem.F.entry_bexc_ga ?_)
  refine @check_slot (model prog w) _ _ ⟨hp, g, d, t + 1, os⟩ "BaseException.__getattribute__" "BaseException" "__getattribute__" (.ref x) [.str "__class__" t] [] _ (by decide +kernel) (by decide +kernel) base (PySem.F.args_bexc_ga (.ref x) (.str "__class__" t)) ?_
  unfold Builtin.«object.__getattribute__»
  refine wpAny_bind (wpAny_of_eq (a := ((Value.ref x : Value), [Value.str "__class__" t])) (by first | rfl | (simp only [slotArgs]; rfl)) ?_)
  refine wpAny_bind (wpAny_pure (wpAny_bind (ty.at (wpAny_bind (at_.at ?_)))))
  show wpAny _ _ (holding [Value.builtin "object.__class__"] (call (.builtin "getset_descriptor.__get__") [.builtin "object.__class__", .ref x, .ref D]) >>= ret) _ _ _
  refine wpAny_bind (wpAny_holding (wpAny_call (class_get (s := ⟨hp, g, d, t + 1, os⟩) (ox := ox) (od := some od) X I EC.hm ?_)))
  refine wpAny_pure ?_
  show wpAny _ _ (handedOut (.ref D)) _ _ _
  rw [handedOut_of (v := .ref D) rfl]
  first
    | exact wpAny_pure (wpAny_pure h)
    | exact wpAny_pure h
    | exact wpAny_pure (wpAny_bind (wpAny_pure (wpAny_pure h)))
theorem er_kit (EC : L2.ExcC K D) : KitX K (.ref x) (.ref D) (fun h => InstAt h x ox D (some od)) := by
  have none := handS_kitx_exc (K := K) (D := D) (x := x) (ox := ox) EC.hg EC.hk EC.hs EC.hd EC.ha EC.hn EC.ht EC.hm
  obtain ⟨cdD, hcD, _⟩ := any_some EC.hd
  refine ⟨fun _ _ _ I => I.type, fun M h X _ => ?_, fun h tp dd its n sl X htp => none.ne h tp dd its n sl X htp, fun X I k => er_class EC X I k⟩
  unfold clsIn at hcD
  split at hcD
  · rename_i c' d' cd' sl' ho
    intro A' Q' E' s' k q
    unfold isType loadHead
    exact wpAny_bind (wpAny_loadPart (k _ _ (X _ _ ho)) (wpAny_pure q))
  · cases hcD
end
end VX
namespace VL
open PySem PySem.Spec PyProof.Rows L2
section
variable {G : Gx} {X : Cx} {E : XK} {pos p p1 p2 : Pos} {x y : Str}
/-! ### an error held in a slot -/
/-- is not None -/
def wErNN (i : Nat) : WE := fun e P _ => match e.sl[i]? with
  | some (.er _ _) => P (.bool true) e
  | some (.da .none) => P (.bool false) e
  | _ => False
theorem re_erNN {i : Nat} : RE G E (tOp (fun x y H Q => y = .non ∧ Q (.bl (!decide (x = .non))) H) (tVar i) (tC .non)) (wErNN i) := fun W S H σ e P X hs hw hk Q q => by
  unfold wErNN at hw
  split at hw
  · rename_i C d hi
    obtain ⟨v, h1, a, dd, u, h2, _⟩ := hs.sl i _ hi
    subst h2
    refine ⟨_, h1, rfl, q _ _ W S H e .refl hs (.bl _) ?_⟩
    simpa using hw
  · rename_i hi
    obtain ⟨v, h1, h2⟩ := hs.sl i _ hi
    cases h2
    refine ⟨_, h1, rfl, q _ _ W S H e .refl hs (.bl _) ?_⟩
    simpa using hw
  · exact hw.elim
theorem ve_erNN (i : Nat) {j : Nat} (hN : X.N[i]? = some x := by rfl) (hv : Vis X.env.scope x := by first | exact Or.inl rfl | exact Or.inr (Or.inl rfl) | exact Or.inr (Or.inr rfl)) (hd : (x == ("__debug__" : Str)) = false := by decide) (hcd : (x == ("__classdict__" : Str)) = false := by decide) (hK : X.K = G.K := by rfl) :
    VE G X E (.Compare (.Name x p1) [.IsNot] [.Constant .none j p2] pos) (tOp (fun x y H Q => y = .non ∧ Q (.bl (!decide (x = .non))) H) (tVar i) (tC .non)) (wErNN i) := ⟨hK, pe_cmpR op_notN (pe_var hN hv hd hcd) pe_non (nomark _), re_erNN⟩
theorem vt_erNN (i : Nat) {j : Nat} (hN : X.N[i]? = some x := by rfl) (hv : Vis X.env.scope x := by first | exact Or.inl rfl | exact Or.inr (Or.inl rfl) | exact Or.inr (Or.inr rfl)) (hd : (x == ("__debug__" : Str)) = false := by decide) (hcd : (x == ("__classdict__" : Str)) = false := by decide) (hK : X.K = G.K := by rfl) :
    VT G X E (.Compare (.Name x p1) [.IsNot] [.Constant .none j p2] pos) (tTest (tOp (fun x y H Q => y = .non ∧ Q (.bl (!decide (x = .non))) H) (tVar i) (tC .non))) (wB (wErNN i)) := ⟨hK, pt_cmpR op_notN (pe_var hN hv hd hcd) pe_non (nomark _), rt_T re_erNN⟩
/-- the object of a held error -/
theorem er_inst {pins : List (Addr × Obj)} {σ : L2.St} {H : Hp} {s : Shared} {a dd C : Addr} {fs : List (Str × V)} (I : L2.Inv X pins σ H s) (h1 : H a = some (ExT (.ref C) (some dd) a)) (h2 : H dd = some (.xd fs)) :
    ∃ oe od, PySem.W.InstAt s.heap a oe C (some od) ∧ ∃ mA, s.heap.Ns1 dd mA ∧ (∀ f, RelO (fs.lookup f) (mA f)) ∧ ∀ n, PySem.W.lookIn n od = some (mA n) := by
  have hx : ObjOk X.prog X.w H s.heap a (.ext fun h => ∃ (oe : Obj) (vs : Array Value), h.get? a = some oe ∧ Zc (.ref C) (some dd) oe ∧ oe.data = .fields vs) := I.hok a _ h1
  obtain ⟨⟨oe, vs, e1, z, e2⟩, _⟩ := hx
  have hy : ObjOk X.prog X.w H s.heap dd (.xd fs) := I.hok dd _ h2
  obtain ⟨mA, hns, hr⟩ := hy
  obtain ⟨od, ho, hl⟩ := lookIn_ns hns
  exact ⟨oe, od, ⟨e1, z.1, by unfold PySem.W.notCls; rw [e2] <;> rfl, by rw [z.2]; exact ho⟩, mA, hns, hr, hl⟩
def rIsX (K : PySem.W.Frag) : List V → Hp → VK → Prop := fun xs H Q => ∃ (a dd C : Addr) (fs : List (Str × V)) (c : V) (cv : Value) (b : Bool), xs = [.ref a, c] ∧ H a = some (ExT (.ref C) (some dd) a) ∧ H dd = some (.xd fs) ∧ ExcC K C ∧ (∀ u, RelV c u → u = cv) ∧ PySem.W.kitOne K (.ref C) cv = some b ∧ Q (.bl b) H
theorem call_isX : CallR X (.builtin "isinstance") (rIsX X.K) := by
  intro pins s σ H xs us Q I r h
  obtain ⟨a, dd, C, fs, c, cv, b, rfl, h1, h2, EC, hcv, e, q⟩ := h
  cases r with
  | cons rx rr =>
    cases rr with
    | cons rt rr =>
      cases rr
      cases rx
      have ec := hcv _ rt
      subst ec
      obtain ⟨oe, od, J, _⟩ := er_inst I h1 h2
      exact PySem.W.kia_one (VX.er_kit EC) I.kIn J e (fun z => nomatch z) fun tk => ⟨.bl b, H, I.kept (t' := tk) fun _ _ z => z, rfl, q⟩
/-- isinstance(caught, C) -/
def wErIs (i : Nat) (kit : Addr → Option Bool) : WE := fun e P _ => match e.sl[i]? with
  | some (.er C _) => match kit C with
    | some b => P (.bool b) e
    | none => False
  | _ => False
theorem ve_erIs (i : Nat) {D : Addr} {kit : Addr → Option Bool} (hkit : ∀ C b, kit C = some b → ExcC X.K C ∧ PySem.W.kitOne X.K (.ref C) (.ref D) = some b) (hm : X.mg "isinstance" = none) (hy : X.mg y = some (.ref D)) (hg : Gl X "isinstance" := by rfl) (hgy : Gl X y := by rfl)
    (hN : X.N[i]? = some x := by rfl) (hv : Vis X.env.scope x := by first | exact Or.inl rfl | exact Or.inr (Or.inl rfl) | exact Or.inr (Or.inr rfl)) (hd : (x == ("__debug__" : Str)) = false := by decide) (hcd : (x == ("__classdict__" : Str)) = false := by decide) (hdy : (y == ("__debug__" : Str)) = false := by decide)
    (hs : starEach [.Name x p1, .Name y p2] X.env = (false, eval (.Name x p1) X.env) :: starEach [.Name y p2] X.env := by rfl) (hs2 : starEach [.Name y p2] X.env = (false, eval (.Name y p2) X.env) :: starEach [] X.env := by rfl) (hpl : (backTo pos (starEach [.Name y p2] X.env)).any (·.1) = false := by rfl) (hK : X.K = G.K := by rfl) :
    VE G X E (.Call (.Name "isinstance" p) [.Name x p1, .Name y p2] [] pos) (tCB (rIsX X.K) (tCons (tVar i) (tCons (tC (.ref D)) tNil))) (wErIs i kit) :=
  ⟨hK, pe_callB call_isX hg hm (by decide +kernel) (pa_cons (pe_var hN hv hd hcd) (pa_cons (pe_glob hgy hy rfl hdy) pa_nil hs2) hs) (by decide) (by decide) hs hpl, fun W S H σ e P X' hs hw hk Q q => by
    unfold wErIs at hw
    split at hw
    · rename_i C d hi
      split at hw
      · rename_i b hb
        obtain ⟨v, h1, a, dd, u, h2, h3, h4, h5, h6, h7⟩ := hs.sl i _ hi
        subst h2
        obtain ⟨k1, k2⟩ := hkit C b hb
        exact ⟨_, h1, a, dd, C, _, .ref D, .ref D, b, rfl, h3, h5, k1, fun u r => r, k2, q _ _ W S H e .refl hs (.bl b) hw⟩
      · exact hw.elim
    · exact hw.elim⟩
/-- caught.value -/
def wErVal (i : Nat) (ok : Addr → Prop) : WE := fun e P _ => match e.sl[i]? with
  | some (.er C d) => ok C ∧ P d e
  | _ => False
structure ErC (K : PySem.W.Frag) (C : Addr) : Prop where
  ga : PySem.W.findIn K (.ref C) "__getattribute__" = some (some (.builtin "BaseException.__getattribute__"))
  gg : PySem.W.findIn K (.ref C) "__getattr__" = some none
  exC : PySem.W.subIn K (.ref C) (.type "BaseException") = some true
  hdC : PySem.W.hasDictIn K C = true
  noV : PySem.W.findIn K (.ref C) "value" = some none
theorem ve_erVal (i : Nat) {ok : Addr → Prop} (hok : ∀ C, ok C → ErC G.K C) (hN : X.N[i]? = some x := by rfl) (hv : Vis X.env.scope x := by first | exact Or.inl rfl | exact Or.inr (Or.inl rfl) | exact Or.inr (Or.inr rfl)) (hd : (x == ("__debug__" : Str)) = false := by decide) (hcd : (x == ("__classdict__" : Str)) = false := by decide)
    (hb : attributeBase (.Name x p1) "value" X.env (eval (.Name x p1) X.env) = eval (.Name x p1) X.env := by rfl) (hK : X.K = G.K := by rfl) :
    VE G X E (.Attribute (.Name x p1) "value" pos) (fun σ H Q => ∃ (a dd C : Addr) (u : V), σ[i]? = some (some (.ref a)) ∧ H a = some (ExT (.ref C) (some dd) a) ∧ H dd = some (.xd [("value", u)]) ∧ ErC G.K C ∧ Q u H) (wErVal i ok) := by
  refine ⟨hK, ⟨fun pins s σ H Q I h => ?_⟩, fun W S H σ e P X' hs hw hk Q q => ?_⟩
  · obtain ⟨a, dd, C, u, h1, h2, h3, T, hq⟩ := h
    rw [← hK] at T
    refine attr_of hb (thn ((pe_var (pos := p1) (i := i) hN hv hd hcd).run pins s σ H (fun v H1 => v = .ref a ∧ H1 = H) I ⟨.ref a, h1, rfl, rfl⟩) fun u1 s1 hh => ?_)
    obtain ⟨v, H1, I1, r1, ev, eH⟩ := hh
    subst ev
    rw [eH] at I1
    obtain rfl : u1 = Value.ref a := r1
    obtain ⟨oe, od, J, mA, hns, hr, hl⟩ := er_inst I1 h2 h3
    have l : List.lookup ("value" : Str) [(("value" : Str), u)] = some u := by simp [List.lookup]
    obtain ⟨u2, hu, ru⟩ := RelO.some_of (v := u) (o := mA "value") (by rw [← l]; exact hr "value")
    exact HandSPX.exc_get I1.kIn J T.ga T.gg T.exC (PySem.W.findObj_own T.hdC T.noV rfl (by rw [hl, hu])) (handed_of ru) ⟨u, H, I1.tok _, ru, hq⟩
  · unfold wErVal at hw
    split at hw
    · rename_i C d hi
      obtain ⟨v, h1, a, dd, u, h2, h3, h4, h5, h6, h7⟩ := hs.sl i _ hi
      subst h2
      exact ⟨a, dd, C, u, h1, h3, h5, hok C hw.1, q u d W S H e .refl hs h7 hw.2⟩
    · exact hw.elim
end
end VL

end
section
set_option Elab.async false
set_option linter.all false
set_option maxRecDepth 100000
set_option maxHeartbeats 4000000
namespace VL
open PySem PySem.Spec PyProof.Rows L2
/-- how the making of a lambda leaves the tracked heap -/
def LamNew (q : Str) (c' : Addr) (H H1 : Hp) : Prop := H1 = H ∨ ∃ P ps ps', H P = some (.tbl ps) ∧ H c' = none ∧ H1 = upd (upd H P (.tbl ps')) c' (LamX.CodeO c' q)
section
variable {X : Cx} {pins : List (Addr × Obj)} {σ : L2.St} {H : Hp} {s : Shared}
/-- a lambda is made; its code object is new or found -/
theorem lam_new {T : List (Addr × Str)} {c P : Addr} {params : Arguments} {body : Expr} {scope : Scope} {pos : Pos} {E : Value → Shared → Prop} {Q : Value → Shared → Prop} (I : L2.Inv X pins σ H s) (TB : LamX.TabB X.base X.mg c P) (hcode : X.env.code = .ref c)
    (hm : (P, X.env.qual ++ "<lambda>") ∈ T) (hu : ∀ p ∈ T, p.1 = P → p.2 = X.env.qual ++ "<lambda>") (hT : LamX.Tabs T H) (hdef : defaultsOf params X.env = ([], [])) (hfree : ∀ y ∈ scope.names, y.2 = .free → ∃ c, X.env.cells.lookup y.1 = some c)
    (h : ∀ (f c' : Addr) (pm ctv : Value) (H1 : Hp) (s' : Shared), L2.Inv X pins σ H1 s' → LamNew (X.env.qual ++ "<lambda>") c' H H1 → LamX.Tabs T H1 →
      s'.heap.get? f = some (PySem.W.kla_obj "<lambda>" (X.env.qual ++ "<lambda>") params body scope (cloFrom X.env.cells scope.names []) pm c' ctv) → H1 f = none → f ∉ frs X.stack → f ≠ X.env.locals ∧ f ∉ X.fs → H1 c' = some (LamX.CodeO c' (X.env.qual ++ "<lambda>")) → Q (.ref f) s') :
    wpAny (model X.prog X.w) X.A (eval (.Lambda params body scope pos) X.env) Q E s := by
  obtain ⟨ps, tP, tOk, tAll⟩ := hT _ hm
  refine PySem.W.kla_eval hdef ?_
  have bP : s.heap.BuiltinsAt X.mg P := TB.bm.keeps I.bk
  have oP : s.heap.get? P = some { cls := .none, data := .fields ps } := I.hok P _ tP
  have far : ∀ f, s.heap.objs.size ≤ f → f ∉ frs X.stack ∧ (f ≠ X.env.locals ∧ f ∉ X.fs) := fun f hf => by
    have lt := I.lt
    refine ⟨fun z => ?_, fun z => by rw [z] at hf; exact Nat.lt_irrefl _ (Nat.lt_of_lt_of_le lt hf), I.nofs hf⟩
    rcases List.mem_cons.mp (I.stkSub _ z) with e | e
    · rw [← e] at lt
      exact Nat.lt_irrefl _ (Nat.lt_of_lt_of_le lt hf)
    · exact I.nofs hf e
  cases found : codeAmong pos ps.toList with
  | some cv =>
    obtain ⟨c', e, hco⟩ := tAll pos cv found
    subst e
    refine PySem.W.kla_makeFunctionHit (mg := X.mg) (c := c) (P := P) (ps := ps) (closure_ok hfree) I.ok.glob (I.mod.glob.keeps I.bk) hcode (TB.code.keeps I.bk) oP tOk found bP fun ctv h' tk hx hsz => ?_
    have J : L2.Inv X pins σ H { s with heap := h'.push (PySem.W.kla_obj "<lambda>" (X.env.qual ++ "<lambda>") params body scope (cloFrom X.env.cells scope.names []) ((X.mg "__name__").getD .none) c' ctv), toks := tk } := I.kept fun b o e => Heap.get?_push_of_some _ (hx b o e)
    exact h h'.objs.size c' ((X.mg "__name__").getD .none) ctv H _ J (.inl rfl) hT (Heap.get?_push_size _ rfl) (I.hok.fresh hsz) (far _ hsz).1 (far _ hsz).2 hco
  | none =>
    refine PySem.W.kla_makeFunction (mg := X.mg) (c := c) (P := P) (ps := ps) (closure_ok hfree) I.ok.glob (I.mod.glob.keeps I.bk) hcode (TB.code.keeps I.bk) oP tOk found TB.gP bP fun c' ctv h' tk hx hge hlt hrec htb => ?_
    obtain ⟨c2, oc, vs, t, e2, hoc, hd, hv⟩ := hrec
    cases e2
    have hsz : s.heap.objs.size ≤ h'.objs.size := Nat.le_trans hge (Nat.le_of_lt hlt)
    have nC : H c' = none := I.hok.fresh hge
    have J := LamX.inv_table (t' := tk) (more := #[rawInt pos.line, rawInt pos.col, .ref c']) (h' := h'.push (PySem.W.kla_obj "<lambda>" (X.env.qual ++ "<lambda>") params body scope (cloFrom X.env.cells scope.names []) ((X.mg "__name__").getD .none) c' ctv)) I tP
      (fun b o hb e => Heap.get?_push_of_some _ (hx b o hb e)) (Heap.get?_push_of_some _ htb) hge ⟨oc, vs, t, Heap.get?_push_of_some _ hoc, hd, hv⟩
    have keep : ∀ b o, H b = some o → (∀ qs, o ≠ .tbl qs) → upd (upd H P (.tbl (ps ++ #[rawInt pos.line, rawInt pos.col, .ref c']))) c' (LamX.CodeO c' (X.env.qual ++ "<lambda>")) b = some o := fun b o e n => by
      rw [upd_ne (ne_of_none e nC), upd_ne (fun z => n ps (Option.some.inj (e.symm.trans (by rw [z]; exact tP))))]
      exact e
    have eL : (ps ++ #[rawInt pos.line, rawInt pos.col, .ref c']).toList = ps.toList ++ [rawInt pos.line, rawInt pos.col, .ref c'] := by simp
    refine h h'.objs.size c' ((X.mg "__name__").getD .none) ctv _ _ J (.inr ⟨P, ps, _, tP, nC, rfl⟩) (fun p hp => ?_) (Heap.get?_push_size _ rfl) ?_ (far _ hsz).1 (far _ hsz).2 upd_same
    · by_cases hb : p.1 = P
      · rw [hu p hp hb, hb]
        refine ⟨_, by rw [upd_ne (ne_of_none tP nC), upd_same], by rw [eL]; exact PySem.TriplesOk_snoc _ _ _ _ tOk, fun p' cv hcv => ?_⟩
        rw [eL] at hcv
        rcases LamX.among_app _ tOk hcv with z | z
        · obtain ⟨c0, e1, e2⟩ := tAll p' cv z
          exact ⟨c0, e1, keep _ _ e2 LamX.codeO_ne⟩
        · exact ⟨c', z, upd_same⟩
      · obtain ⟨qs, a1, a2, a3⟩ := hT p hp
        refine ⟨qs, by rw [upd_ne (ne_of_none a1 nC), upd_ne hb]; exact a1, a2, fun p' cv hcv => ?_⟩
        obtain ⟨c0, e1, e2⟩ := a3 p' cv hcv
        exact ⟨c0, e1, keep _ _ e2 LamX.codeO_ne⟩
    · have n1 : h'.objs.size ≠ c' := Nat.ne_of_gt hlt
      have n2 : h'.objs.size ≠ P := Nat.ne_of_gt (Nat.lt_of_lt_of_le (Heap.lt_size oP) hsz)
      rw [upd_ne n1, upd_ne n2]
      exact I.hok.fresh hsz
end
/-- .. seen from the data -/
theorem lam_fw {G : Gx} {W : Addr → Option Nat} {S H H1 : Hp} {σ : L2.St} {e : En} {q : Str} {c' : Addr} (s : Sim G W S H σ e) (h : LamNew q c' H H1) (hT : LamX.Tabs G.T H1) : Fw W S H W S H1 ∧ Sim G W S H1 σ e := by
  rcases h with z | ⟨P, ps, ps', hP, hc, z⟩
  · rw [z]; exact ⟨.refl, s⟩
  · have nP : ∀ p o, H p = some o → (∀ qs, o ≠ .tbl qs) → p ≠ P := fun p o e t z => by rw [z, hP] at e; exact t ps (Option.some.inj e).symm
    have keep : ∀ p o, H p = some o → (∀ qs, o ≠ .tbl qs) → H1 p = some o := fun p o e t => by
      rw [z, upd_ne (ne_of_none e hc), upd_ne (nP p o e t)]; exact e
    have there : ∀ p, H p ≠ none → H1 p ≠ none := fun p hp => by
      rw [z]
      by_cases h1 : p = c'
      · rw [h1, upd_same]; exact fun y => by cases y
      · rw [upd_ne h1]
        by_cases h2 : p = P
        · rw [h2, upd_same]; exact fun y => by cases y
        · rw [upd_ne h2]; exact hp
    have f : Fw W S H W S H1 := ⟨Ex.refl _, fun p o _ t e => keep p o e t, there, fun _ y _ _ => y, fun _ y => .inl y, fun _ y => y, fun p qs e => by
      rw [z, upd_ne (ne_of_none e hc)]
      by_cases h2 : p = P
      · rw [h2, upd_same]; exact ⟨_, rfl⟩
      · rw [upd_ne h2]; exact ⟨qs, e⟩⟩
    refine ⟨f, ⟨⟨fun p o e => keep p o (s.gd.sh p o e) fun qs y => s.gd.st p qs (by rw [e, y]), fun p i w => ⟨(s.gd.wo p i w).1, there p (s.gd.wo p i w).2⟩, fun p w => ?_, hT, fun p i w => ?_, s.gd.st⟩, s.ln, s.sm, fun i t ht => ?_⟩⟩
    · obtain ⟨a, b, c, e, r⟩ := s.gd.ge p w
      exact ⟨a, b, c, keep p _ e (fun _ y => by cases y), r⟩
    · obtain ⟨xs, e⟩ := s.gd.tw p i w
      exact ⟨xs, keep p _ e fun _ y => by cases y⟩
    · have r := s.sl i t ht
      cases t with
      | un => trivial
      | da d => exact r
      | op v => exact r
      | ow ds => obtain ⟨p, vs, h1, h2, h3, h4⟩ := r; exact ⟨p, vs, h1, h2, keep p _ h3 (fun _ y => by cases y), h4⟩
      | ge => exact r
      | er C d => obtain ⟨v, h1, h2⟩ := r; exact ⟨v, h1, f.er h2⟩
      | sq ns => exact r
/-! ### call() of a lambda that was handed in -/
section
variable {X : Cx} {pins : List (Addr × Obj)} {σ : L2.St} {H : Hp} {s : Shared}
def tAct (σ : L2.St) (i : Nat) (f c' : Addr) (q : Str) (W : WX) (tb : XK → TE) : TE := fun σZ HZ Q => σZ[i]? = some (some (.ref f)) ∧ HZ c' = some (LamX.CodeO c' q) ∧ ∃ E' : XK, (∀ cls d H', E' cls d H' → W cls d σZ H') ∧ tb E' σ HZ Q
theorem pe_actS {CXg : CXT} {Eg : XK} {Ng : List Str} {qg : Str} {sg : Scope} {g f c' : Addr} {cdg pm ctv : Value} {params : Arguments} {body : Expr} {scope : Scope} {k i : Nat} {a : Str} {pn : List (Addr × Obj)} {xe : Value → Shared → Prop} {W : WX} {tb : XK → TE} {p1 p2 : Pos}
    (I : L2.Inv X pins σ H s) (L : LamX.LamS X.env.scope scope) (hf : s.heap.get? f = some (PySem.W.kla_obj "<lambda>" (X.env.qual ++ "<lambda>") params body scope (cloFrom X.env.cells scope.names []) pm c' ctv)) (hfn : H f = none) (hfr : f ∉ frs X.stack)
    (hbind : bindArgs (PySem.W.kla_fn "<lambda>" (X.env.qual ++ "<lambda>") params body scope (cloFrom X.env.cells scope.names []) pm (.ref c') ctv) ⟨[], []⟩ = pure [])
    (tk : Takes ((cxOf CXg X.prog X.w X.K X.mg X.base Ng qg sg g cdg X.A X.stack s H Eg).tr pn xe) W) (hr : Room (k + 1) (X.A.deeper (envOfC qg sg s.heap.objs.size g cdg)))
    (hbody : ∀ (E : XK) (A : Around) (outer : List Env) (s : Shared) (H : Hp), Room k (A.deeper (LamX.lamEnv X scope s.heap.objs.size f c')) → A.guards = X.A.guards → PE (LamX.lamCx X A outer s H E scope f c') body (tb E))
    (hN : Ng[i]? = some a) (hv : Vis sg a) (hd : (a == ("__debug__" : Str)) = false := by decide) (hcd : (a == ("__classdict__" : Str)) = false := by decide) :
    PE ((cxOf CXg X.prog X.w X.K X.mg X.base Ng qg sg g cdg X.A X.stack s H Eg).tr pn xe) (.Call (.Name a p1) [] [] p2) (tAct σ i f c' (X.env.qual ++ "<lambda>") W tb) := by
  refine ⟨fun pinsZ sZ σZ HZ Q IZ h => ?_⟩
  obtain ⟨hs, hc, E', hE, ht⟩ := h
  refine wpAny_Call_Name_kw (thn ((pe_var (pos := p1) (i := i) hN hv hd hcd).run pinsZ sZ σZ HZ (fun v H1 => v = .ref f ∧ H1 = HZ) IZ ⟨.ref f, hs, rfl, rfl⟩) fun u s1 hh => ?_)
  obtain ⟨v, H1, I1, r1, ev, eH⟩ := hh
  subst ev
  rw [eH] at I1
  obtain rfl : u = Value.ref f := r1
  have of1 : s1.heap.get? f = some (PySem.W.kla_obj "<lambda>" (X.env.qual ++ "<lambda>") params body scope (cloFrom X.env.cells scope.names []) pm c' ctv) := I1.base.keep f _ hf hfn hfr (fun z => nomatch (show f ∈ ([] : List Addr) from z))
  refine PySem.W.callWith_F0 ⟨_, _, _, _, of1⟩ ?_
  have un : Un (frs X.stack) [] H HZ s.heap s1.heap := I1.base
  obtain ⟨⟨oc, vs, t, hoc, hdc, hvc⟩, _, _⟩ := I1.hok c' _ hc
  have rc : codeAny (model X.prog X.w) (X.A.deeper (envOfC qg sg s.heap.objs.size g cdg)) (.call (.ref f) ⟨[], []⟩) (CR (L2.CX X.prog X.w) (envOfC qg sg s.heap.objs.size g cdg :: X.stack) X.prog X.w HZ s1 Q E') s1 := by
    refine PySem.W.kla_callFunE hr.depth of1 rfl L.co L.gen rfl ⟨c', oc, vs, t, rfl, hoc, hdc, hvc⟩ ?_
    rw [hbind]
    refine wpAny_pure (wpAny_newFunctionEnv (fun y hy => (L.own y hy).2) (fun y hy => absurd hy (by simp)) (fun h₁ hns hsb => ⟨I1.nolimit.fresh _ hsb, ?_⟩) L.kind)
    show codeAny _ _ (.expr body (LamX.lamEnv X scope s1.heap.objs.size f c')) _ _
    have kp : ∀ b o, s1.heap.get? b = some o → h₁.get? b = some o := fun b o e => hsb.extBut b o (Nat.ne_of_lt (Heap.lt_size e)) (Heap.get?_push_of_some _ e)
    have J : L2.Inv (LamX.lamCx X (X.A.deeper (envOfC qg sg s.heap.objs.size g cdg)) (envOfC qg sg s.heap.objs.size g cdg :: X.stack) s1 HZ E' scope f c') [] σ HZ { s1 with heap := h₁, toks := s1.toks + ([] : List (Str × Value)).length } :=
      LamX.lam_start2 I L I1.env0 hr.hd un hns kp
    refine PySem.W.kla_codeExpr (wpAny_mono ((hbody E' _ _ s1 HZ (hr.deeper _) rfl).run [] _ _ HZ Q J ht) (fun v s' hq => ?_) fun e s' hq => hq)
    obtain ⟨w', H', J', rv, q⟩ := hq
    exact ⟨w', H', J'.os, J'.bare, J'.base, J'.hok, rv, q⟩
  refine wpAny_call (codeAny_mono rc fun r s' hq => ?_)
  cases r with
  | error e => exact tk e s' (XE.of_call I1 (fun cls d H' z => hE cls d H' z) hq)
  | ok fl =>
    cases fl with
    | ret u => exact I1.after hq
    | next => exact False.elim hq
    | brk => exact False.elim hq
    | cont => exact False.elim hq
end
end VL

end
section
set_option Elab.async false
set_option linter.all false
set_option maxRecDepth 100000
set_option maxHeartbeats 4000000
namespace VL
open PySem PySem.Spec PyProof.Rows L2
def refN : List Str := ["call", "kind", "value", "caught", "error"]
def Sl.noOw : Sl → Sl
  | .ow _ => .un
  | s => s
def tTryRef (K : PySem.W.Frag) (Cb : Addr) (q : Str) (σ : L2.St) (f c' : Addr) (tb : XK → TE) : TS := fun D σZ HZ => tDrop (tAct σ 0 f c' q (wKeep K (.ref Cb) 4 3 D) tb) D σZ HZ
def tRef (T : List (Addr × Str)) (K : PySem.W.Frag) (Cb : Addr) (q : Str) (tk tv : TE) (t1 t3 : TS) (tb : XK → TE) : TE := fun σ H Q => LamX.Tabs T H ∧ ∀ c' H1, LamNew q c' H H1 → LamX.Tabs T H1 → H1 c' = some (LamX.CodeO c' q) → tk σ H1 fun kv H2 => tv σ H2 fun vv H3 =>
  ∀ f, tSeq t1 (tSeq (tTryRef K Cb q σ f c' tb) t3) { nx := fun _ H' => Q .non H', rt := Q } (L2.start refN [.ref f, kv, vv]) H3
/-- refused(lambda: b, k, v): b must end in an error of a class that okC takes; w3: what the def says of it -/
def wRef (okC : Addr → Prop) (w3 : WS) (wk wv wb : WE) : WX' := fun e P X => wk e (fun dk e1 => wv e1 (fun dv e2 => wb e2 (fun _ _ => False) (fun C d n => okC C ∧ w3 (outA fun r n' => P r ⟨e2.sl.map Sl.noOw, n'⟩) X00 ⟨[.un, .da dk, .da dv, .er C d, .un], n⟩)) X) X
theorem noOw_get {l : List Sl} {i : Nat} {t : Sl} (h : (l.map Sl.noOw)[i]? = some t) : ∃ t0, l[i]? = some t0 ∧ t = t0.noOw := by
  rw [List.getElem?_map] at h
  cases q : l[i]? with
  | none => rw [q] at h; cases h
  | some t0 => rw [q] at h; exact ⟨t0, rfl, (Option.some.inj h).symm⟩
theorem Sim.later {G : Gx} {W W' : Addr → Option Nat} {S S' H H' : Hp} {σ : L2.St} {e : En} {n : Nat} (s : Sim G W S H σ e) (f : Fw W S H W' S' H') (g : Good G W' S' H' n) : Sim G (gens W') S' H' σ ⟨e.sl.map Sl.noOw, n⟩ := by
  refine ⟨g.gens, by show (e.sl.map _).length ≤ _; rw [List.length_map]; exact s.ln, by show (e.sl.map _).length ≤ _; rw [List.length_map]; exact s.sm, fun i t ht => ?_⟩
  obtain ⟨t0, h0, e0⟩ := noOw_get ht
  have q := s.sl i t0 h0
  subst e0
  cases t0 with
  | un => trivial
  | da d => obtain ⟨v, h1, h2⟩ := q; exact ⟨v, h1, h2.up f.ss⟩
  | op v => exact q
  | ow ds => trivial
  | ge => obtain ⟨p, h1, h2⟩ := q; exact ⟨p, h1, gens_of (f.gn p h2)⟩
  | er C d =>
    obtain ⟨v, h1, h2⟩ := q
    exact ⟨v, h1, (f.er h2).up (Ex.refl _) fun p o w _ e => ⟨e, gens_none (by rw [w]; exact fun y => by cases y)⟩⟩
  | sq ns => obtain ⟨b, h1, h2⟩ := q; exact ⟨b, h1, f.ss.sl h2⟩
theorem Fw.gens {W W' : Addr → Option Nat} {S S' H H' : Hp} (f : Fw W S H W' S' H') : Fw W S H (VL.gens W') S' H' := ⟨f.ss, f.hh, f.ht, f.nw, fun p z => f.wn p fun y => z (gens_none (by rw [y]; exact fun w => by cases w)), fun p z => gens_of (f.gn p z), f.tb⟩
theorem ArOk.gens {K : PySem.W.Frag} {W : Addr → Option Nat} {S H : Hp} {v : V} {r : Ar} (h : ArOk K W S H v r) : ArOk K (VL.gens W) S H v r := by
  cases r with
  | da d => exact h
  | op u => exact h
  | ge => obtain ⟨p, e, w⟩ := h; exact ⟨p, e, gens_of w⟩
  | er C d => exact ErOk.up h (Ex.refl _) fun p o w _ e => ⟨e, gens_none (by rw [w]; exact fun y => by cases y)⟩
  | sq ns => exact h
section
variable {G : Gx} {X : Cx} {E : XK} {k : Nat} {xf : Str} {g c P Cb : Addr} {pg : Arguments} {s1 s2 s3 : Stmt} {sg : Scope} {fd : FuncData} {t1 t3 : TS} {w3 : WS} {tb : XK → TE} {wb wk wv : WE} {tk tv : TE} {okC : Addr → Prop} {params : Arguments} {body ek ev : Expr} {scope : Scope} {p lpos pos q4 q5 : Pos}
/-- the frame of the def that refuses -/
abbrev refX (X : Cx) (xf : Str) (sg : Scope) (g : Addr) (cdv : Value) (A : Around) (out : List Env) (s : Shared) (H : Hp) : Cx := cxOf (L2.CX X.prog X.w) X.prog X.w X.K X.mg X.base refN xf sg g cdv A out s H (fun _ _ _ => False)
theorem rx_ref (hK : X.K = G.K) (hT : G.T = T) {q : Str} (r1 : RS G (fun _ _ _ => False) t1 (wAsg (wC .none) (gN 3))) (r3 : RS G (fun _ _ _ => False) t3 w3) (rb : ∀ E, RE G E (tb E) wb) (rk : RE G E tk wk) (rv : RE G E tv wv) (hok : ∀ C, okC C → PySem.W.exmOne G.K (.ref C) (.ref Cb) = some true) :
    RX G E (tRef T G.K Cb q tk tv t1 t3 tb) (wRef okC w3 wk wv wb) := fun W S H σ e P X' hs hw hkp Q qq => by
  subst hT
  refine ⟨hs.gd.tb, fun c' H1 ln hT1 hc => ?_⟩
  obtain ⟨f1, z1⟩ := lam_fw hs ln hT1
  refine rk W S H1 σ e _ X' z1 hw (hkp.next f1) _ fun kv dk W2 S2 H2 e2 f2 z2 d2 h2 => ?_
  refine rv W2 S2 H2 σ e2 _ X' z2 h2 (hkp.next (f1.trans f2)) _ fun vv dv W3 S3 H3 e3 f3 z3 d3 h3 f => ?_
  have f13 := (f1.trans f2).trans f3
  have wc : W c' = none := opt_none fun y => by
    cases ew : W c' with
    | none => exact y ew
    | some i =>
      obtain ⟨xs, hx⟩ := z1.gd.tw c' i ew
      rw [hc] at hx
      unfold LamX.CodeO at hx
      cases hx
  have hc3 : H3 c' = some (LamX.CodeO c' q) := (f2.trans f3).hh c' _ wc (fun ps y => LamX.codeO_ne ps y) hc
  have w3 : gens W3 c' = none := gens_none fun y => by
    obtain ⟨xs, hx⟩ := z3.gd.tw c' _ y
    rw [hc3] at hx
    unfold LamX.CodeO at hx
    cases hx
  have st : Sim G (gens W3) S3 H3 (L2.start refN [.ref f, kv, vv]) ⟨[.op (.ref f), .da dk, .da dv, .un, .un], e3.fu⟩ := by
    refine ⟨z3.gd.gens, (by show 5 ≤ 5; decide), (by show 5 ≤ gcode; decide), fun i t ht => ?_⟩
    have ht' : ([.op (.ref f), .da dk, .da dv, .un, .un] : List Sl)[i]? = some t := ht
    match i, ht' with
    | 0, ht' => cases ht'; rfl
    | 1, ht' => cases ht'; exact ⟨kv, rfl, d2.up f3.ss⟩
    | 2, ht' => cases ht'; exact ⟨vv, rfl, d3⟩
    | 3, ht' => cases ht'; trivial
    | 4, ht' => cases ht'; trivial
    | i + 5, ht' => simp at ht'
  have k0 : ∀ {W' : Addr → Option Nat} {S' H' : Hp}, KP G (fun _ _ _ => False) W' S' H' X00 := fun C x v d W' S' H' n' _ _ _ _ y => y
  refine r1 (gens W3) S3 H3 (L2.start refN [.ref f, kv, vv]) ⟨[.op (.ref f), .da dk, .da dv, .un, .un], e3.fu⟩ { nx := fun e' => e' = ⟨[.op (.ref f), .da dk, .da dv, .da .none, .un], e3.fu⟩, rt := fun _ _ => False } X00 st rfl k0 _ (fun W4 S4 H4 σ4 e4 f4 z4 he => ?_) (fun _ _ _ _ _ _ _ _ _ y => y.elim) (fun _ _ _ _ _ _ _ y => y.elim) (fun _ _ _ _ _ _ _ y => y.elim)
  subst he
  have z4b : Sim G (back W3 W4) S4 H4 σ e3 := back_sim z3 f4 z4.gd
  have f4b := back_fw z3.gd f4
  refine ⟨z4.sl 0 _ rfl, f4.hh c' _ w3 (fun ps y => LamX.codeO_ne ps y) hc3, fun cls d H' => wKeep G.K (.ref Cb) 4 3 _ cls d σ4 H', fun _ _ _ y => y, ?_⟩
  refine rb _ (back W3 W4) S4 H4 σ e3 (fun _ _ => False) _ z4b h3 (fun C x v d W5 S5 H5 n5 f5 g5 hx dx hX => ?_) _ (fun _ _ _ _ _ _ _ _ _ y => y.elim)
  obtain ⟨hC, hX⟩ := hX
  refine ⟨hok C hC, fun a ha => ?_⟩
  have nw := Nw.own (o := ExT (.ref C) (some x) a) g5.sh ha
  have g5' := nw.good g5
  have len5 : 5 ≤ σ4.length := z4.ln
  have xa : x ≠ a := fun y => by rw [y, ha] at hx; cases hx
  have er : ErOk G.K (gens W5) S5 (upd H5 a (ExT (.ref C) (some x) a)) (.ref a) C d := by
    refine ⟨a, x, v, rfl, upd_same, gens_none (by rw [w_none g5 ha]; exact fun y => by cases y), by rw [upd_ne xa]; exact hx, gens_none fun y => ?_, dx⟩
    obtain ⟨xs, hl⟩ := g5.tw x _ y
    rw [hx] at hl; cases hl
  have sz : Sim G (gens W5) S5 (upd H5 a (ExT (.ref C) (some x) a)) ((σ4.set 3 (some (.ref a))).set 4 none) ⟨[.un, .da dk, .da dv, .er C d, .un], n5⟩ := by
    refine ⟨g5'.gens, (by show 5 ≤ _; rw [List.length_set, List.length_set]; exact len5), (by show 5 ≤ gcode; decide), fun i t ht => ?_⟩
    have ht' : ([.un, .da dk, .da dv, .er C d, .un] : List Sl)[i]? = some t := ht
    match i, ht' with
    | 0, ht' => cases ht'; trivial
    | 1, ht' =>
      cases ht'
      obtain ⟨u, h1, h2⟩ := z4.sl 1 _ rfl
      exact ⟨u, by rw [List.getElem?_set_ne (by decide), List.getElem?_set_ne (by decide)]; exact h1, h2.up f5.ss⟩
    | 2, ht' =>
      cases ht'
      obtain ⟨u, h1, h2⟩ := z4.sl 2 _ rfl
      exact ⟨u, by rw [List.getElem?_set_ne (by decide), List.getElem?_set_ne (by decide)]; exact h1, h2.up f5.ss⟩
    | 3, ht' =>
      cases ht'
      exact ⟨.ref a, by rw [List.getElem?_set_ne (by decide), List.getElem?_set_self (by omega)], er⟩
    | 4, ht' => cases ht'; trivial
    | i + 5, ht' => simp at ht'
  have f5n := (f13.trans f4b).trans (f5.trans nw.fw)
  have f35 := f4b.trans (f5.trans nw.fw)
  refine r3 (gens W5) S5 _ _ _ (outA fun r n' => P r ⟨e3.sl.map Sl.noOw, n'⟩) X00 sz hX k0 _ (fun W6 S6 H6 σ6 e6 f6 z6 h6 => ?_) (fun v6 r6 W6 S6 H6 n6 f6 g6 a6 h6 => ?_) (fun _ _ _ _ _ _ _ y => y.elim) (fun _ _ _ _ _ _ _ y => y.elim)
  · have fb := back_fw g5' f6
    have gb := back_good g5' f6 z6.gd
    exact qq .non (.da .none) (gens (back W5 W6)) S6 H6 ⟨e3.sl.map Sl.noOw, e6.fu⟩ (f5n.trans fb).gens (z3.later (f35.trans fb) gb) .non h6
  · have fb := back_fw g5' f6
    have gb := back_good g5' f6 g6
    have fin : r6.plain → P r6 ⟨e3.sl.map Sl.noOw, n6⟩ → Q v6 H6 := fun pl hp => qq v6 r6 (gens (back W5 W6)) S6 H6 ⟨e3.sl.map Sl.noOw, n6⟩ (f5n.trans fb).gens (z3.later (f35.trans fb) gb) (back_ar pl a6 g5' f6).gens hp
    cases r6 with
    | er C' d' => exact h6.elim
    | da d' => exact fin trivial h6
    | op u => exact fin trivial h6
    | ge => exact fin trivial h6
    | sq ns => exact fin trivial h6
theorem vx_ref (hT : G.T = T) (FD : FunD X.K xf xf pg [s1, s2, s3] sg [] [] g fd) (hm : X.mg xf = some (.ref g)) (hkp : PySem.W.keepIn X.K (.ref g) = true) (hb : Binds X.K fd ["call", "kind", "value"] []) (Sg : FnScope refN ["call", "kind", "value"] sg)
    (h1 : ∀ cdv A out s H, VS G (refX X xf sg g cdv A out s H) (fun _ _ _ => False) s1 t1 (wAsg (wC .none) (gN 3)))
    (h2 : ∀ cdv A out s H (tb' : WX → TE), (∀ (W : WX) (pn : List (Addr × Obj)) (xe : Value → Shared → Prop), Takes ((refX X xf sg g cdv A out s H).tr pn xe) W → PE ((refX X xf sg g cdv A out s H).tr pn xe) (.Call (.Name "call" q4) [] [] q5) (tb' W)) → PS (refX X xf sg g cdv A out s H) s2 (fun D σ H => tDrop (tb' (wKeep X.K (.ref Cb) 4 3 D)) D σ H))
    (h3 : ∀ cdv A out s H, Room (k + 1) (refX X xf sg g cdv A out s H).A → (refX X xf sg g cdv A out s H).A.guards = some [] → VS G (refX X xf sg g cdv A out s H) (fun _ _ _ => False) s3 t3 w3)
    (hva : Vis sg "call") (hok : ∀ C, okC C → PySem.W.exmOne X.K (.ref C) (.ref Cb) = some true)
    (TB : LamX.TabB X.base X.mg c P) (hcode : X.env.code = .ref c) (hmT : (P, X.env.qual ++ "<lambda>") ∈ T) (hu : ∀ p ∈ T, p.1 = P → p.2 = X.env.qual ++ "<lambda>") (hr : Room (k + 2) X.A) (hgd : X.A.guards = some []) (L : LamX.LamS X.env.scope scope) (hdef : defaultsOf params X.env = ([], []))
    (hbind : ∀ (q : Str) (cl : List (Str × Addr)) (pm cv ctv : Value), bindArgs (PySem.W.kla_fn "<lambda>" q params body scope cl pm cv ctv) ⟨[], []⟩ = pure [])
    (hbody : ∀ (E : XK) (A : Around) (out : List Env) (s : Shared) (H : Hp) (f c' : Addr), Room k (LamX.lamCx X A out s H E scope f c').A → (LamX.lamCx X A out s H E scope f c').A.guards = some [] → VE G (LamX.lamCx X A out s H E scope f c') E body (tb E) wb)
    (hk : VE G X E ek tk wk) (hv : VE G X E ev tv wv) (hg : Gl X xf := by rfl) (hdb : (xf == ("__debug__" : Str)) = false := by decide)
    (he : starEach [.Lambda params body scope lpos, ek, ev] X.env = (false, eval (.Lambda params body scope lpos) X.env) :: starEach [ek, ev] X.env := by rfl) (hpl : (backTo pos (starEach [ek, ev] X.env)).any (·.1) = false := by rfl)
    (he2 : starEach [ek, ev] X.env = (false, eval ek X.env) :: starEach [ev] X.env := by rfl) (he3 : starEach [ev] X.env = (false, eval ev X.env) :: starEach [] X.env := by rfl) :
    VX G X E (.Call (.Name xf p) [.Lambda params body scope lpos, ek, ev] [] pos) (tRef T G.K Cb (X.env.qual ++ "<lambda>") tk tv t1 t3 tb) (wRef okC w3 wk wv wb) := by
  have hK := hk.hK
  refine ⟨hK, ⟨fun pins s σ H Q I h => ?_⟩, ?_⟩
  · obtain ⟨hTT, h⟩ := h
    refine wpAny_Call_Name_kw (ld_glob I hg hm ?_ hdb)
    refine PySem.W.callWith_K (h₀ := X.base) I.ok.mod.kin hkp ?_ he hpl
    rw [he]
    show wpAny _ _ (spliced ((false, eval (.Lambda params body scope lpos) X.env) :: backTo pos (starEach [ek, ev] X.env))) _ _ s
    refine Calls.spliced_cons (lam_new I TB hcode hmT hu hTT hdef (L.has I.ok) fun f c' pm ctv H1 s1' I1 ln T1 hf hfn hfr hfl hco => ?_)
    have J1 : L2.Inv X (pins ++ [(f, PySem.W.kla_obj "<lambda>" (X.env.qual ++ "<lambda>") params body scope (cloFrom X.env.cells scope.names []) pm c' ctv)]) σ H1 s1' := I1.pins_of fun p hp => by
      rcases List.mem_append.mp hp with z | z
      · exact I1.pin p (List.mem_append_right _ z)
      · have e : p = (f, PySem.W.kla_obj "<lambda>" (X.env.qual ++ "<lambda>") params body scope (cloFrom X.env.cells scope.names []) pm c' ctv) := by simpa using z
        rw [e]
        exact ⟨hf, hfn, hfl.1, hfl.2, fun v z => by cases z⟩
    refine thn ((pa_cons hk.pe (pa_cons hv.pe pa_nil he3) he2).run pos _ s1' σ H1 (fun vs H3 => match vs with
      | [kv, vv] => ∀ f, tSeq t1 (tSeq (tTryRef G.K Cb (X.env.qual ++ "<lambda>") σ f c' tb) t3) { nx := fun _ H' => Q .non H', rt := Q } (L2.start refN [.ref f, kv, vv]) H3
      | _ => False) J1 (h c' H1 ln T1 hco)) fun us s3' hh => ?_
    obtain ⟨vs, H3, I3, rv3, hq⟩ := hh
    refine ⟨I3.kIn, ?_⟩
    split at hq
    · rename_i kv vv
      obtain ⟨hf3, hfn3, _, _, _⟩ := I3.pin (f, _) (List.mem_append_right _ (List.mem_append_right _ (List.mem_cons_self ..)))
      obtain ⟨oc, od, dV, kV, doc, pm2, an, cdv, ct, osl, rfl, lk, hcd, _, _⟩ := FD.ex
      cases rv3 with
      | @cons _ uk _ ur rk rr =>
        cases rr with
        | @cons _ uv _ ur2 rv rr2 =>
          cases rr2
          have run : codeAny (model X.prog X.w) X.A (.call (.ref g) ⟨[.ref f, uk, uv], []⟩) (CR (L2.CX X.prog X.w) X.stack X.prog X.w H3 s3' Q (fun _ _ _ => False)) s3' := by
            refine LamX.run_ofS (N := refN) (ps := ["call", "kind", "value"]) (us := [.ref f, uk, uv]) (vs := [.ref f, kv, vv]) lk hcd Sg hr I3.env0 (hb s3' [.ref f, uk, uv] I3.kIn rfl) (.cons rfl (.cons rk (.cons rv .nil))) rfl fun hr2 => ?_
            refine ⟨_, pss_cons (h1 cdv X.A X.stack s3' H3).ps (pss_cons (h2 cdv X.A X.stack s3' H3 (fun W => tAct σ 0 f c' (X.env.qual ++ "<lambda>") W tb) fun W pn xe tk => ?_) (pss_one (h3 cdv X.A X.stack s3' H3 hr2 hgd).ps)), ?_⟩
            · exact pe_actS (X := X) (k := k) I3 L hf3 hfn3 hfr (hbind _ _ _ _ _) tk hr2 (fun E A out s H hrr hgu => (hbody E A out s H f c' hrr (hgu.trans hgd)).pe) rfl hva
            · rw [hK]; exact hq f
          refine wpAny_call (codeAny_mono run fun r s2' hc => ?_)
          cases r with
          | error e =>
            obtain ⟨_, _, _, _, _, _, _, _, _, _, _, _, z⟩ := hc
            exact z.elim
          | ok fl =>
            cases fl with
            | ret u =>
              have J := I3.after hc
              obtain ⟨v, H', J', r', q⟩ := J
              exact ⟨v, H', J'.pins_of fun p hp => J'.pin p (List.mem_append_right _ (List.mem_append_left _ hp)), r', q⟩
            | next => exact False.elim hc
            | brk => exact False.elim hc
            | cont => exact False.elim hc
    · exact hq.elim
  · exact rx_ref hK hT (h1 .none X.A [] X.s_0 X.H_0).rs (h3 .none X.A [] X.s_0 X.H_0 (hr.deeper _) hgd).rs (fun E => (hbody E X.A [] X.s_0 X.H_0 0 0 ((hr.mono (Nat.le_succ _)).deeper _) hgd).re) hk.re hv.re (fun C z => by rw [← hK]; exact hok C z)
theorem cx_qual {CX : CXT} {P : Program} {w : World} {K : PySem.W.Frag} {mg : Str → Option Value} {base : Heap} {N : List Str} {q : Str} {sc : Scope} {f : Addr} {cd : Value} {A : Around} {out : List Env} {s : Shared} {H : Hp} {E : XK} : (cxOf CX P w K mg base N q sc f cd A out s H E).env.qual = q ++ ".<locals>." := rfl
/-- what may be refused in X -/
structure RefR (G : Gx) (X : Cx) (E : XK) (k : Nat) (xf : Str) (okC : Addr → Prop) (w3 : WS) (T : List (Addr × Str)) (Cb : Addr) (t1 t3 : TS) : Prop where
  go : ∀ {params : Arguments} {body ek ev : Expr} {scope : Scope} {p lpos pos : Pos} {tk tv : TE} {wk wv wb : WE} {tb : XK → TE}, LamX.LamS X.env.scope scope → defaultsOf params X.env = ([], []) →
    (∀ (q : Str) (cl : List (Str × Addr)) (pm cv ctv : Value), bindArgs (PySem.W.kla_fn "<lambda>" q params body scope cl pm cv ctv) ⟨[], []⟩ = pure []) →
    (∀ (E : XK) (A : Around) (out : List Env) (s : Shared) (H : Hp) (f c' : Addr), Room k (LamX.lamCx X A out s H E scope f c').A → (LamX.lamCx X A out s H E scope f c').A.guards = some [] → VE G (LamX.lamCx X A out s H E scope f c') E body (tb E) wb) →
    VE G X E ek tk wk → VE G X E ev tv wv → starEach [.Lambda params body scope lpos, ek, ev] X.env = (false, eval (.Lambda params body scope lpos) X.env) :: starEach [ek, ev] X.env → (backTo pos (starEach [ek, ev] X.env)).any (·.1) = false →
    starEach [ek, ev] X.env = (false, eval ek X.env) :: starEach [ev] X.env → starEach [ev] X.env = (false, eval ev X.env) :: starEach [] X.env →
    VX G X E (.Call (.Name xf p) [.Lambda params body scope lpos, ek, ev] [] pos) (tRef T G.K Cb (X.env.qual ++ "<lambda>") tk tv t1 t3 tb) (wRef okC w3 wk wv wb)
end
end VL

end
section
set_option Elab.async false
set_option linter.all false
set_option maxRecDepth 100000
set_option maxHeartbeats 2000000
namespace VL
open PySem PySem.Spec PyProof.Rows L2
section
variable {G : Gx} {X : Cx} {E : XK} {pos p p1 p2 : Pos} {x : Str} {b : Expr} {tb : TE} {wb : WE}
/-! ### a list of ints that is only read -/
def wSqLen (i : Nat) : WE := fun e P _ => match e.sl[i]? with
  | some (.sq ns) => P (.int ns.length) e
  | _ => False
theorem ve_sqLen (i : Nat) (hm : X.mg "len" = none) (hN : X.N[i]? = some x := by rfl) (hv : Vis X.env.scope x := by first | exact Or.inl rfl | exact Or.inr (Or.inl rfl) | exact Or.inr (Or.inr rfl)) (hd : (x == ("__debug__" : Str)) = false := by decide) (hcd : (x == ("__classdict__" : Str)) = false := by decide) (hg : Gl X "len" := by rfl)
    (hs : starEach [.Name x p1] X.env = (false, eval (.Name x p1) X.env) :: starEach [] X.env := by rfl) (hK : X.K = G.K := by rfl) : VE G X E (.Call (.Name "len" p) [.Name x p1] [] pos) (tCB (rLenD G.K) (tCons (tVar i) tNil)) (wSqLen i) :=
  ⟨hK, pe_callB (by rw [← hK]; exact call_len) hg hm (by decide +kernel) (pa_cons (pe_var hN hv hd hcd) pa_nil hs) (by decide) (by decide) hs rfl, fun W S H σ e P X' hs hw hk Q q => by
    unfold wSqLen at hw
    split at hw
    · rename_i ns hi
      obtain ⟨a, h1, h2⟩ := hs.sl i _ hi
      refine ⟨_, h1, _, _, rfl, .inl ⟨_, hs.gd.sh.sl h2, rfl⟩, ?_⟩
      rw [List.length_map]
      exact q _ _ W S H e .refl hs (.int _) hw
    · exact hw.elim⟩
def wSqIx (i : Nat) (wb : WE) : WE := fun e P X => match e.sl[i]? with
  | some (.sq ns) => wb e (fun y e1 => match y with | .int j => ∃ z, atI ns j = some z ∧ P (.int z) e1 | _ => False) X
  | _ => False
theorem atI_map {ns : List Int} {j z : Int} (h : atI ns j = some z) : atI (ns.map V.int) j = some (.int z) := by
  unfold atI at h ⊢
  rw [List.length_map]
  revert h
  cases ixN ns.length j <;> simp <;> intro h <;> simp [h]
theorem ve_sqIx (i : Nat) (hb : VE G X E b tb wb) (hs : PlainIx b := by intro _ _; rfl) (hN : X.N[i]? = some x := by rfl) (hv : Vis X.env.scope x := by first | exact Or.inl rfl | exact Or.inr (Or.inl rfl) | exact Or.inr (Or.inr rfl)) (hd : (x == ("__debug__" : Str)) = false := by decide)
    (hcd : (x == ("__classdict__" : Str)) = false := by decide) : VE G X E (.Subscript (.Name x p1) b pos) (tOp (rIxD G.K) (tVar i) tb) (wSqIx i wb) := ⟨hb.hK, pe_ix (by rw [← hb.hK]; exact ix_D) (pe_var hN hv hd hcd) hb.pe hs, fun W S H σ e P X hs hw hk Q q => by
  unfold wSqIx at hw
  split at hw
  · rename_i ns hi
    obtain ⟨a, h1, h2⟩ := hs.sl i _ hi
    refine ⟨_, h1, hb.re W S H σ e _ X hs hw hk _ fun y dy W1 S1 H1 e1 f1 s1 d1 hp => ?_⟩
    split at hp
    · cases d1
      obtain ⟨z, hz, hp⟩ := hp
      exact .inl ⟨a, _, _, .int z, rfl, rfl, s1.gd.sh.sl (f1.ss.sl h2), atI_map hz, q _ _ W1 S1 H1 e1 f1 s1 (.int z) hp⟩
    · exact hp.elim
  · exact hw.elim⟩
def wSqSl (i : Nat) (wl wh : WO) : WE := fun e P X => match e.sl[i]? with
  | some (.sq ns) => wl e (fun lo e2 => wh e2 (fun hi e3 => P (.list ((cutA ns lo hi).map PyData.int)) e3) X) X
  | _ => False
theorem cut_map {ns : List Int} {lo hi : Option Int} : cutV (ns.map V.int) lo hi = (cutA ns lo hi).map V.int := by
  unfold cutV cutA
  rw [List.length_map, List.map_take, List.map_drop]
theorem ve_sqSl (i : Nat) {lo hi : Option Expr} {tl th : TO} {wl wh : WO} (hl : VO G X E lo tl wl) (hh : VO G X E hi th wh) (hN : X.N[i]? = some x := by rfl) (hv : Vis X.env.scope x := by first | exact Or.inl rfl | exact Or.inr (Or.inl rfl) | exact Or.inr (Or.inr rfl)) (hd : (x == ("__debug__" : Str)) = false := by decide)
    (hcd : (x == ("__classdict__" : Str)) = false := by decide) (hK : X.K = G.K := by rfl) : VE G X E (.Subscript (.Name x p1) (.Slice lo hi none p2) pos) (tSl (rSlD G.K) (tVar i) tl th) (wSqSl i wl wh) :=
  ⟨hK, pe_slice (by rw [← hK]; exact sl_list.or sl_tupA) (pe_var hN hv hd hcd) hl.po hh.po, fun W S H σ e P X hs hw hk Q q => by
    unfold wSqSl at hw
    split at hw
    · rename_i ns hi
      obtain ⟨a, h1, h2⟩ := hs.sl i _ hi
      refine ⟨_, h1, hl.rp W S H σ e _ X hs hw hk _ fun l W2 S2 H2 e2 f2 s2 h2' => hh.rp W2 S2 H2 σ e2 _ X s2 h2' (hk.next f2) _ fun u W3 S3 H3 e3 f3 s3 h3 => ?_⟩
      refine .inl ⟨a, _, rfl, s3.gd.sh.sl ((f2.trans f3).ss.sl h2), fun r hr => ?_⟩
      rw [cut_map]
      have nw := Nw.laid (o := .lst ((cutA ns l u).map V.int)) s3.gd.sh hr
      exact q _ _ W3 _ _ e3 ((f2.trans f3).trans nw.fw) (s3.new nw) (.lst upd_same (DtA.ints _)) h3
    · exact hw.elim⟩
/-- the length of an owned list -/
def wOwLen (i : Nat) : WE := fun e P _ => match e.sl[i]? with
  | some (.ow ds) => P (.int ds.length) e
  | _ => False
theorem ve_owLen (i : Nat) (hm : X.mg "len" = none) (hN : X.N[i]? = some x := by rfl) (hv : Vis X.env.scope x := by first | exact Or.inl rfl | exact Or.inr (Or.inl rfl) | exact Or.inr (Or.inr rfl)) (hd : (x == ("__debug__" : Str)) = false := by decide) (hcd : (x == ("__classdict__" : Str)) = false := by decide) (hg : Gl X "len" := by rfl)
    (hs : starEach [.Name x p1] X.env = (false, eval (.Name x p1) X.env) :: starEach [] X.env := by rfl) (hK : X.K = G.K := by rfl) : VE G X E (.Call (.Name "len" p) [.Name x p1] [] pos) (tCB (rLenD G.K) (tCons (tVar i) tNil)) (wOwLen i) :=
  ⟨hK, pe_callB (by rw [← hK]; exact call_len) hg hm (by decide +kernel) (pa_cons (pe_var hN hv hd hcd) pa_nil hs) (by decide) (by decide) hs rfl, fun W S H σ e P X' hs hw hk Q q => by
    unfold wOwLen at hw
    split at hw
    · rename_i ds hi
      obtain ⟨a, vs, h1, h2, h3, h4⟩ := hs.sl i _ hi
      refine ⟨_, h1, _, _, rfl, .inl ⟨vs, .inl (.inl h3), rfl⟩, ?_⟩
      rw [h4.len]
      exact q _ _ W S H e .refl hs (.int _) hw
    · exact hw.elim⟩
end
/-! ### the law's end -/
/-- an entry of the law: the script at a, the tables of code objects -/
theorem law_endG {P : Program} {w : World} {K : PySem.W.Frag} {mg mb : Str → Option Value} {k : Nat} {fa a : Addr} {cs : List (Addr × Addr)} {fd : FuncData} {x : Str} {sp : Sp} {s₁ : Shared} {vs : List Value} {ns : List Int}
    (KX : K.In s₁.heap) (hns : s₁.heap.Ns mainGlobals mg) (hb : s₁.heap.Ns builtinsNs mb) (hbb : ∀ x : Str, x ≠ "__name__" → mb x = bootBuiltins x) (hlim : s₁.heap.NoLimit) (hg : s₁.gens = #[])
    (hT : ∀ p ∈ cs, s₁.heap.get? p.2 = some { cls := .none, data := .fields #[] }) (nT : ∀ p ∈ cs, K.lookup p.2 = none) (C : ∀ p ∈ cs, PySem.W.CodeHd s₁.heap p.1 p.2)
    (hbm : ∃ (bm : Addr) (ob : Obj), mg "__builtins__" = some (.ref bm) ∧ bm ≠ builtinsNs ∧ s₁.heap.get? bm = some ob ∧ ob.cls = .type "module" ∧ ob.dict = some builtinsNs ∧ ob.data = .plain)
    (ha : s₁.heap.get? a = some { cls := .type "list", data := .seq vs.toArray }) (hi : IntsAre vs ns) (hl : ns.length ≤ sizeLine) (hr : Room k callerA)
    (F : ∀ base : Heap, K.In base → base.Ns mainGlobals mg → (∃ mb, base.Ns builtinsNs mb ∧ ∀ x : Str, x ≠ "__name__" → mb x = bootBuiltins x) → (∀ p ∈ cs, LamX.TabB base mg p.1 p.2) → FnG P w K mg base k fa fd [x] sp) (hbind : ∀ (s : Shared) (u : Value), BindsTo s fd ⟨[u], []⟩ [(x, u)])
    (hsp : ∀ H : Hp, (∀ p ∈ cs, H p.2 = some (.tbl #[])) → SqL K H a (ns.map V.int) → (∀ b ps, H b = some (.tbl ps) → b ∈ cs.map (·.2)) → sp [.ref a] H (fun v _ => v = .bl true) fun _ _ _ => False) :
    codeAny (model P w) callerA (.call (.ref fa) ⟨[.ref a], []⟩) (fun r s' => r = .ok (.ret (.bool true)) ∧ PySem.OldK s₁.heap s'.heap ∧ s'.os = s₁.os ∧ AllBare s'.gens) s₁ := by
  have rv := vals_ints hi
  have lenV := hi.length
  generalize hoa : ({ cls := .type "list", data := .seq vs.toArray } : Obj) = oa at ha
  have oaD : oa.data = .seq vs.toArray := by rw [← hoa]
  -- the tables
  have atT : ∀ b, b ∈ cs.map (·.2) → s₁.heap.get? b = some { cls := .none, data := .fields #[] } := fun b hb => by
    obtain ⟨p, hp, e⟩ := List.mem_map.mp hb
    subst e
    exact hT p hp
  have aT : a ∉ cs.map (·.2) := fun z => by
    have q := atT a z
    rw [ha] at q
    have q2 := congrArg Obj.data (Option.some.inj q)
    rw [oaD] at q2
    cases q2
  -- what is tracked
  obtain ⟨H, hHa, hHt, hHn⟩ : ∃ H : Hp, H a = (match K.lookup a with | none => some (.frz oa (.lst (ns.map V.int))) | some _ => none) ∧ (∀ b ∈ cs.map (·.2), H b = some (.tbl #[])) ∧ ∀ b, b ≠ a → b ∉ cs.map (·.2) → H b = none :=
    ⟨fun b => if b = a then (match K.lookup a with | none => some (.frz oa (.lst (ns.map V.int))) | some _ => none) else if b ∈ cs.map (·.2) then some (.tbl #[]) else none, if_pos rfl,
      fun b hb => (if_neg fun (z : b = a) => aT (by rw [← z]; exact hb)).trans (if_pos hb), fun b h1 h2 => (if_neg h1).trans (if_neg h2)⟩
  have hSq : SqL K H a (ns.map V.int) := by
    cases q : K.lookup a with
    | none => rw [q] at hHa; exact .inl (.inr ⟨oa, hHa⟩)
    | some o =>
      have e := KX a o q
      rw [ha] at e
      cases e
      exact .inr ⟨oa, vs.toArray, _, q, by rw [← hoa], by rw [← hoa], by rw [← hoa], by rw [List.size_toArray, lenV]; exact hl, by simpa using rv⟩
  have who : ∀ b u, H b = some u → (b = a ∧ u = .frz oa (.lst (ns.map V.int)) ∧ K.lookup a = none) ∨ (b ∈ cs.map (·.2) ∧ u = .tbl #[]) := fun b u e => by
    by_cases h1 : b = a
    · subst h1
      rw [hHa] at e
      cases q : K.lookup b with
      | none => rw [q] at e; exact .inl ⟨rfl, (Option.some.inj e).symm, rfl⟩
      | some o => rw [q] at e; cases e
    · by_cases h2 : b ∈ cs.map (·.2)
      · rw [hHt b h2] at e; exact .inr ⟨h2, (Option.some.inj e).symm⟩
      · rw [hHn b h1 h2] at e; cases e
  have hok : HOk P w H s₁.heap := fun b u e => by
    rcases who b u e with ⟨e1, e2, _⟩ | ⟨e1, e2⟩
    · subst e1 e2
      exact ⟨ha, by rw [List.length_map]; exact hl, vs, _, rv, by rw [ha, ← hoa]⟩
    · subst e2
      exact atT b e1
  have free : ∀ {b : Addr} {o : Obj}, s₁.heap.get? b = some o → (∀ us n, o.data ≠ .seq us n) → o.data ≠ .fields #[] → H b = none := fun {b o} e h1 h2 => opt_none fun z => by
    cases q : H b with
    | none => exact z q
    | some u =>
      rcases who b u q with ⟨e1, _, _⟩ | ⟨e1, _⟩
      · subst e1
        rw [ha] at e; cases e
        exact h1 _ _ oaD
      · rw [atT b e1] at e; cases e
        exact h2 rfl
  have nsK : ∀ {b : Addr} {m : Str → Option Value}, s₁.heap.Ns b m → (hidT s₁.heap H).Ns b m := fun {b m} ⟨o, es, ep, e, d, r⟩ => ⟨o, es, ep, hidT_get e (free e (fun us n z => by rw [d] at z; cases z) fun z => by rw [d] at z; cases z), d, r⟩
  have KB : K.In (hidT s₁.heap H) := fun b o e => hidT_get (KX b o e) (opt_none fun z => by
    cases q : H b with
    | none => exact z q
    | some u =>
      rcases who b u q with ⟨e1, _, e3⟩ | ⟨e1, _⟩
      · subst e1; rw [e3] at e; cases e
      · obtain ⟨p, hp, ep⟩ := List.mem_map.mp e1
        subst ep
        rw [nT p hp] at e; cases e)
  have md : L2.Mod K mg (hidT s₁.heap H) := ⟨KB, nsK hns, ⟨mb, nsK hb, hbb⟩, let ⟨mc, h1, h2⟩ := hlim; ⟨mc, nsK h1, h2⟩⟩
  have TB : ∀ p ∈ cs, LamX.TabB (hidT s₁.heap H) mg p.1 p.2 := fun p hp => by
    have tp := hT p hp
    refine ⟨?_, ?_, fun z => ?_⟩
    · obtain ⟨o, us, file, tf, flags, tg, inF, text, tt, e1, r1, r2, r3, r⟩ := C p hp
      refine ⟨o, us, file, tf, flags, tg, inF, text, tt, hidT_get e1 (free e1 (fun us' n z => by rw [r2] at z; cases z) fun z => ?_), r1, r2, r3, r⟩
      rw [r2] at z
      cases z
      simp at r3
    · obtain ⟨bm, ob, b1, b2, b3, b4, b5, b6⟩ := hbm
      have nG : bm ≠ mainGlobals := fun q => by
        obtain ⟨o, es, ep, e, hd, _⟩ := hns
        rw [q, e] at b3
        cases b3
        rw [hd] at b6
        cases b6
      have nP : bm ≠ p.2 := fun q => by
        rw [q, tp] at b3
        cases b3
        cases b6
      exact ⟨bm, ob, b1, b2, nG, nP, hidT_get b3 (free b3 (fun us n z => by rw [b6] at z; cases z) fun z => by rw [b6] at z; cases z), b4, b5, b6⟩
    · obtain ⟨o, es, ep, e, hd, _⟩ := hns
      rw [z, tp] at e
      cases e
      cases hd
  have e0 : Env0 P w K mg (hidT s₁.heap H) callerA [] s₁ H := ⟨rfl, md, fun b o e => of_hidT e, Nat.le_of_eq (hidT_size _ _), trivial, fun b hb => absurd (show b ∈ ([] : List Addr) from hb) (by simp), hok, .of_eq hg⟩
  have tabs : ∀ b ps, H b = some (.tbl ps) → b ∈ cs.map (·.2) := fun b ps e => by
    rcases who b _ e with ⟨_, z, _⟩ | ⟨z, _⟩
    · cases z
    · exact z
  have run := (F _ KB (nsK hns) ⟨mb, nsK hb, hbb⟩ TB).go callerA [] s₁ H ⟨[.ref a], []⟩ [.ref a] [.ref a] _ _ hr rfl e0 (hbind s₁ (.ref a)) (.cons rfl .nil) rfl (hsp H (fun p hp => hHt _ (List.mem_map.mpr ⟨p, hp, rfl⟩)) hSq tabs)
  refine codeAny_mono run fun r s' h => ?_
  cases r with
  | error e =>
    obtain ⟨_, _, _, _, _, _, _, _, _, _, _, _, z⟩ := h
    exact z.elim
  | ok fl =>
    cases fl with
    | next => exact False.elim h
    | brk => exact False.elim h
    | cont => exact False.elim h
    | ret u =>
      obtain ⟨v, H', os, bare, un, hok', r', q⟩ := h
      have q' : v = .bl true := q
      subst q'
      obtain rfl : u = Value.bool true := r'
      have stay : ∀ b o, b ∉ cs.map (·.2) → s₁.heap.get? b = some o → s'.heap.get? b = some o := fun b o nb e => by
        cases q : H b with
        | none => exact un.keep b o e q (fun z => absurd (show b ∈ ([] : List Addr) from z) (by simp)) (by simp)
        | some u =>
          rcases who b u q with ⟨e1, e2, _⟩ | ⟨e1, _⟩
          · subst e2
            have z2 := un.frzs b oa _ q
            obtain ⟨y1, _⟩ := hok b _ q
            obtain ⟨y2, _⟩ := hok' b _ z2
            rw [e] at y1; cases y1
            exact y2
          · exact absurd e1 nb
      have grown : ∀ p ∈ cs, ∃ more : Array Value, s'.heap.get? p.2 = some { cls := .none, data := .fields more } := fun p hp => by
        obtain ⟨more, z⟩ := un.tbls p.2 #[] (hHt _ (List.mem_map.mpr ⟨p, hp, rfl⟩))
        exact ⟨_, hok' p.2 _ z⟩
      refine ⟨rfl, ⟨fun b o e => ?_, fun b o e => ?_⟩, os, bare⟩
      · by_cases hb : b ∈ cs.map (·.2)
        · obtain ⟨p, hp, ep⟩ := List.mem_map.mp hb
          subst ep
          obtain ⟨more, hm⟩ := grown p hp
          rw [hT p hp] at e
          cases e
          exact .inr (.inl ⟨((C p hp).tab (hT p hp)).isCodeTable, rfl, #[], more, rfl, by rw [Array.empty_append]; exact hm⟩)
        · exact .inl (stay b o hb e)
      · by_cases hb : b ∈ cs.map (·.2)
        · obtain ⟨p, hp, ep⟩ := List.mem_map.mp hb
          subst ep
          obtain ⟨more, hm⟩ := grown p hp
          exact ⟨_, hm⟩
        · exact ⟨o, stay b o hb e⟩
/-- what is known of the law at the head's heap -/
def LawG (l : PySem.W.OpenLaw) (w : World) (K : PySem.W.Frag) (k n : Nat) (x : Str) (mg : Str → Option Value) (fa : Addr) (h : Heap) : Prop :=
  ∃ (fd : FuncData) (cs : List (Addr × Addr)) (sp : Sp), K.In h ∧ (∀ p ∈ cs, h.get? p.2 = some { cls := .none, data := .fields #[] }) ∧ (∀ p ∈ cs, K.lookup p.2 = none) ∧ (∀ p ∈ cs, PySem.W.CodeHd h p.1 p.2) ∧ (∀ (s : Shared) (u : Value), BindsTo s fd ⟨[u], []⟩ [(x, u)]) ∧
    (∀ (H : Hp) (a : Addr) (ns : List Int), ns.length ≤ n → (∀ z ∈ ns, Builtin.Int.intBits z ≤ 1048576) → (∀ p ∈ cs, H p.2 = some (.tbl #[])) → SqL K H a (ns.map V.int) → (∀ b ps, H b = some (.tbl ps) → b ∈ cs.map (·.2)) → sp [.ref a] H (fun v _ => v = .bl true) fun _ _ _ => False) ∧
    ∀ base : Heap, K.In base → base.Ns mainGlobals mg → (∃ mb, base.Ns builtinsNs mb ∧ ∀ x : Str, x ≠ "__name__" → mb x = bootBuiltins x) → (∀ p ∈ cs, LamX.TabB base mg p.1 p.2) → FnG l.prog w K mg base k fa fd [x] sp
theorem walk_ofG {l : PySem.W.OpenLaw} {n k : Nat} {q : Program} {loose : List Str} {XP : (Str → Option Value) → Heap → Prop} {YP : World → Heap → Prop} {d : DefRec} {x : Str} (hn : l.most = some n) (hn2 : n ≤ sizeLine) (hdf : d.params.defaults = []) (hr : Room k callerA)
    (F : ∀ (w : World) (mg : Str → Option Value) (fa : Addr) (h : Heap), YP w h → h.Ns mainGlobals mg → mg d.name = some (.ref fa) → ∃ K, LawG l w K k n x mg fa h) :
    PySem.W.WalkO q loose XP YP l.row.toRowW d [] (fun f vs => PySem.call f vs) := by
  refine Att.attach_callB hn hdf fun w s₀ s₁ mg mb fa o pm cd doc a vs ns G Y ho hd hcd hmg hobj hints hlen hbits hg => ?_
  obtain ⟨K, fd, cs, sp, KX, hT, nT, C, hb, hsp, hF⟩ := F w mg fa _ Y G.T.g hmg
  exact law_endG KX G.T.g G.T.b G.T.builtins G.T.nolimit hg hT nT C G.T.bmain hobj hints (Nat.le_trans hlen hn2) hr hF hb fun H hH hS ht => hsp H a ns hlen hbits hH hS ht
/-- all but the tables -/
def noTbl (H : Hp) : Hp := fun b => match H b with
  | some (.tbl _) => none
  | o => o
theorem noTbl_some {H : Hp} {b : Addr} {o : HO} (h : noTbl H b = some o) : H b = some o ∧ ∀ ps, o ≠ .tbl ps := by
  unfold noTbl at h
  cases q : H b with
  | none => rw [q] at h; cases h
  | some u => rw [q] at h; cases u <;> first | (cases h; exact ⟨rfl, fun ps z => by cases z⟩) | cases h
theorem noTbl_of {H : Hp} {b : Addr} {u : HO} (e : H b = some u) (h : ∀ ps, u ≠ .tbl ps) : noTbl H b = some u := by
  unfold noTbl
  rw [e]
  cases u <;> first | rfl | exact absurd rfl (h _)
/-- the law's start, seen from the data -/
theorem law_start {G : Gx} {c : Ct} {H : Hp} {a : Addr} {ns : List Int} {cs : List (Addr × Addr)} {n : Nat} (hT : ∀ t ∈ G.T, ∃ p ∈ cs, p.2 = t.1) (ht : ∀ p ∈ cs, H p.2 = some (.tbl #[])) (hs : SqL G.K H a (ns.map V.int)) (hc : c [.sq ns] n (fun r _ => r = .da (.bool true)) X00) :
    spV G c 1 [.ref a] H (fun v _ => v = .bl true) fun _ _ _ => False := by
  have sq : SqL G.K (noTbl H) a (ns.map V.int) := by
    rcases hs with (h | ⟨o, h⟩) | h
    · exact .inl (.inl (noTbl_of h fun _ z => by cases z))
    · exact .inl (.inr ⟨o, noTbl_of h fun _ z => by cases z⟩)
    · exact .inr h
  have gd : Good G (fun _ => none) (noTbl H) H n := by
    refine ⟨fun b o e => (noTbl_some e).1, fun p i z => ?_, fun p z => ?_, fun t h => ?_, fun p i z => ?_, fun p ps z => (noTbl_some z).2 ps rfl⟩
    · cases z
    · cases z
    · obtain ⟨p, hp, e⟩ := hT t h
      have z := LamX.TabS.nil (q := t.2) (ht p hp)
      rw [e] at z
      exact z
    · cases z
  refine ⟨rfl, fun _ => none, noTbl H, n, [.sq ns], _, X00, gd, fun p i z => ?_, .cons ⟨a, rfl, sq⟩ .nil, hc, fun C x v d W' S' H' n' _ _ _ _ z => z, fun v r W' S' H' n' _ _ h _ hr => ?_⟩
  · cases z
  · have e : r = .da (.bool true) := hr
    subst e
    exact Dt.bool_inv h
end VL

end
section
set_option Elab.async false
set_option linter.all false
set_option maxRecDepth 100000
set_option maxHeartbeats 2000000
/-! What is asked of the written part about the errors, as Bools. -/
namespace VX
open PySem PySem.W PySem.Calls PyProof.Rows PySem.HandSPX PySem.Spec
def bodyB : FuncBody → Bool
  | .stmts [.Expr (.Call (.Attribute (.Call (.Name x1 _) [] [] _) x2 b3) [.Name x3 _] [] b5) _, .Assign [.Attribute (.Name x4 _) x5 _] (.Name x6 _) _] =>
    decide (x1 = "super") && (decide (x2 = "__init__") && (decide (x3 = "value") && (decide (x4 = "self") && (decide (x5 = "value") && (decide (x6 = "value") && (b3.endLine == b5.line))))))
  | _ => false
theorem bodyB_ok {b : FuncBody} (h : bodyB b = true) : ∃ b1 b2 b3 b4 b5 b6 b7 b8 b9 b10, b = .stmts (eB b1 b2 b3 b4 b5 b6 b7 b8 b9 b10) ∧ (b3.endLine == b5.line) = true := by
  unfold bodyB at h
  split at h
  · simp only [Bool.and_eq_true, decide_eq_true_eq] at h
    obtain ⟨rfl, rfl, rfl, rfl, rfl, rfl, h⟩ := h
    exact ⟨_, _, _, _, _, _, _, _, _, _, rfl, h⟩
  · cases h
def argsB : Arguments → Bool
  | ⟨[], [⟨x1, none, _⟩, ⟨x2, none, _⟩], none, [], [], none, [_]⟩ => decide (x1 = "self") && decide (x2 = "value")
  | _ => false
theorem argsB_ok {a : Arguments} (h : argsB a = true) : ∃ a1 a2 dp, a = eA a1 a2 dp := by
  unfold argsB at h
  split at h
  · simp only [Bool.and_eq_true, decide_eq_true_eq] at h
    obtain ⟨rfl, rfl⟩ := h
    exact ⟨_, _, _, rfl⟩
  · cases h
def scopeB (s : Scope) : Bool := decide (s.kind = .function) && (decide (s.names = eS.names) && (!s.isGenerator && (!s.isCoroutine && s.more.isEmpty)))
theorem scopeB_ok {s : Scope} (h : scopeB s = true) : s = eS := by
  obtain ⟨k, n, g, c, m⟩ := s
  unfold scopeB at h
  simp only [Bool.and_eq_true, decide_eq_true_eq, Bool.not_eq_true', List.isEmpty_iff] at h
  obtain ⟨rfl, rfl, rfl, rfl, rfl⟩ := h
  rfl
def noneTup (K : Frag) (T : Addr) : Bool := match K.lookup T with
  | some ⟨_, _, .seq its _, _⟩ => (match its.toList with | [.none] => true | _ => false)
  | _ => false
theorem noneTup_ok {K : Frag} {T : Addr} (h : noneTup K T = true) : ∃ oT nT, K.lookup T = some oT ∧ oT.data = .seq #[.none] nT := by
  unfold noneTup at h
  split at h
  · rename_i oc od its n sl hl
    split at h
    · rename_i hi
      refine ⟨_, n, hl, ?_⟩
      show Data.seq its n = _
      have e : its = #[.none] := by
        obtain ⟨l⟩ := its
        simp only at hi
        rw [hi]
      rw [e]
    · cases h
  · cases h
def fileB (K : Frag) (cda : Addr) (file : Str) : Bool := match K.lookup cda with
  | some ⟨_, _, .fields vs, _⟩ => (match (vs[2]? : Option Value) with | some (.str f _) => f == file | _ => false)
  | _ => false
theorem fileB_ok {K : Frag} {cda : Addr} {file : Str} (h : fileB K cda file = true) : ∃ ccl cdd vs ccs f tf, K.lookup cda = some ⟨ccl, cdd, .fields vs, ccs⟩ ∧ vs[2]? = some (.str f tf) ∧ (f == file) = true := by
  unfold fileB at h
  split at h
  · rename_i oc od vs sl hl
    split at h
    · rename_i f tf hv
      exact ⟨_, _, _, _, f, tf, hl, hv, h⟩
    · cases h
  · cases h
def cellB (K : Frag) (cc C : Addr) : Bool := match K.lookup cc with
  | some ⟨_, _, .cell (some (.ref D)), _⟩ => decide (D = C)
  | _ => false
theorem cellB_ok {K : Frag} {cc C : Addr} (h : cellB K cc C = true) : ∃ cl cld csl, K.lookup cc = some ⟨cl, cld, .cell (some (.ref C)), csl⟩ := by
  unfold cellB at h
  split at h
  · rename_i oc od D sl hl
    have e : D = C := of_decide_eq_true h
    subst e
    exact ⟨_, _, _, hl⟩
  · cases h
/-- __init__ -/
def initB (K : Frag) (file : Str) (C fI : Addr) : Bool := match K.lookup fI with
  | some ⟨_, _, .func fd, _⟩ => (match fd.closure, fd.defaults, fd.code with
    | [(n, cc)], .ref T, .ref cda => decide (n = "__class__") && (decide (fd.name = "__init__") && (argsB fd.params && (bodyB fd.body && (scopeB fd.scope && (decide (fd.globals = mainGlobals) && (decide (fd.builtins = builtinsNs) && (codeIn K (.ref cda) fd.qualname && (noneTup K T && (fileB K cda file && cellB K cc C)))))))))
    | _, _, _ => false)
  | _ => false
/-- the class -/
def clsB (K : Frag) (C : Addr) : Bool := match K.lookup C with
  | some ⟨.type "type", _, .cls cd, sl⟩ => (match cd.mro, sl.toList with
    | .ref C' :: bm, [_, _, _, _, some (.builtin n), _] => C' == C && (n == "ValueError.__new__" && (!cd.hasDel && (cd.hasDict && refsVE bm)))
    | _, _ => false)
  | _ => false
theorem clsB_ok {K : Frag} {C : Addr} (q : clsB K C = true) : ∃ nm qn N bs bm sn sub ab col dd k0 k1 k2 k3 k5, K.lookup C = some (excClassObj nm qn C N bs bm true sn sub ab col dd k0 k1 k2 k3 k5 "ValueError.__new__") ∧ refsVE bm = true := by
  unfold clsB at q
  split at q
  · rename_i dd cd sl ho
    split at q
    · rename_i C' bm k0 k1 k2 k3 n k5 hm hs
      simp only [Bool.and_eq_true, beq_iff_eq, Bool.not_eq_true'] at q
      obtain ⟨rfl, rfl, hdel, hdct, ht⟩ := q
      obtain ⟨nm, bs, mro, ns, qn, hd, sn, sub, ab, col, del⟩ := cd
      dsimp only at hm hdel hdct
      subst hm hdel hdct
      have hsl : sl = #[k0, k1, k2, k3, some (.builtin "ValueError.__new__"), k5] := by
        obtain ⟨l⟩ := sl
        simp only at hs
        rw [hs]
      subst hsl
      exact ⟨nm, qn, ns, bs, bm, sn, sub, ab, col, dd, k0, k1, k2, k3, k5, ho, ht⟩
    · cases q
  · cases q
/-- an error class of the text, by its name -/
def errB (K : Frag) (file : Str) (x : Str) : Bool :=
  clsB K (He.ga K x) && (initB K file (He.ga K x) (He.ma K (He.ga K x) "__init__") && (decide (findIn K (.ref (He.ga K x)) "__setattr__" = some (some (.builtin "object.__setattr__"))) && (decide (findIn K (.ref (He.ga K x)) "__getattribute__" = some (some (.builtin "BaseException.__getattribute__"))) && (decide (findIn K (.ref (He.ga K x)) "__getattr__" = some none) &&
    (decide (findIn K (.ref (He.ga K x)) "value" = some none) && (decide (findIn K (.ref (He.ga K x)) "__init__" = some (some (.ref (He.ma K (He.ga K x) "__init__")))) && (decide (typeIn K (.ref (He.ma K (He.ga K x) "__init__")) = some (.type "function")) && (keepIn K (.ref (He.ga K x)) && (decide (subIn K (.ref (He.ga K x)) (.type "BaseException") = some true) &&
      (decide (typeIn K (.ref (He.ga K x)) = some (.type "type")) && (hasDictIn K (He.ga K x) && (decide (nsIn K cStatics "thirdparty.any" = some none) && (decide (nsIn K mainGlobals "super" = some none) && (decide (ks_superIn K (He.ga K x) (He.ga K x) "__init__" = some (some (.builtin "ValueError.__init__"))) &&
        (decide (subIn K (.ref (He.ga K x)) (.type "ValueError") = some true) && (decide (mroIn K (He.ga K x) (.ref (He.ga K x)) = some true) && (decide (findIn K (.ref (He.ga K x)) "__class__" = some (some (.builtin "object.__class__"))) && (decide (specialIn K (.builtin "object.__class__") "__get__" = some (some (.builtin "getset_descriptor.__get__"))) &&
          (decide (takesIn K (.builtin "object.__class__") = some true) && decide (mroIn K (He.ga K x) (.type "object") = some true))))))))))))))))))))
theorem errB_ok {P : Program} {K : Frag} {file x : Str} (hf : (P.main.file : Str) = file) (ht : (P.main.scope.names.lookup ("super" : Str)).isSome = false) (h : errB K file x = true) :
    ErrTxt P K (He.ga K x) (He.ma K (He.ga K x) "__init__") ∧ L2.ExcC K (He.ga K x) ∧ VL.ErC K (He.ga K x) := by
  unfold errB at h
  simp only [Bool.and_eq_true, decide_eq_true_eq] at h
  obtain ⟨h1, h2, h3, h4, h5, h6, h7, h8, h9, h10, h11, h12, h13, h14, h15, h16, h17, h18, h19, h20, h21⟩ := h
  refine ⟨⟨clsB_ok h1, h3, h4, h5, h6, h7, h8, h9, h10, h11, h12, h13, h14, h15, h16, h17, ht, ?_⟩, ⟨h4, h5, h10, h12, h18, h19, h20, h21⟩, ⟨h4, h5, h10, h12, h6⟩⟩
  unfold initB at h2
  split at h2
  · rename_i oc od fd osl hl
    obtain ⟨n1, n2, n3, n4, n5, n6, n7, n8, n9, n10, n11, n12, n13, n14, n15⟩ := fd
    dsimp only at h2
    split at h2
    · rename_i n cc T cda
      simp only [Bool.and_eq_true, decide_eq_true_eq] at h2
      obtain ⟨rfl, rfl, g3, g4, g5, rfl, rfl, g8, g9, g10, g11⟩ := h2
      obtain ⟨a1, a2, dp, rfl⟩ := argsB_ok g3
      obtain ⟨b1, b2, b3, b4, b5, b6, b7, b8, b9, b10, rfl, hl35⟩ := bodyB_ok g4
      obtain rfl := scopeB_ok g5
      obtain ⟨oT, nT, lT, oTd⟩ := noneTup_ok g9
      obtain ⟨ccl, cdd, vs, ccs, f, tf, lC, hv, hff⟩ := fileB_ok g10
      obtain ⟨cl, cld, csl, lcc⟩ := cellB_ok g11
      have ef : f = file := beq_iff_eq.mp hff
      refine ⟨oc, od, n9, n10, n11, n12, n14, osl, T, cda, cc, oT, nT, ccl, cl, cdd, cld, ccs, csl, vs, f, tf, n2, a1, a2, b1, b2, b3, b4, b5, b6, b7, b8, b9, b10, dp, hl, g8, lT, oTd, lC, hv, ?_, lcc, hl35⟩
      rw [hf, ef]
      exact beq_self_eq_true _
    · cases h2
  · cases h2
end VX

end
section
set_option Elab.async false
set_option linter.all false
set_option maxRecDepth 100000
set_option maxHeartbeats 2000000
/-! The head's look, the interpreter's statics among what is seen. -/
namespace VX
open PySem PySem.Spec PyProof.Rows L2 He
def asY (g : Addr → Option Obj) (n : Nat) : List Addr := asD g n ++ [cStatics, sysModules]
def obsY (n : Nat) (fa : List Fa) (fn : List DefD) (tf : List Defn) (ex : PySem.W.Frag → Bool) (g : Addr → Option Obj) : AlX := (obsT fa fn [] (frT g (asY g n)), ex (frT g (asY g n)) && tabsB g tf (frT g (asY g n)))
theorem saysY {n : Nat} {fa : List Fa} {fn : List DefD} {tf : List Defn} {ex : PySem.W.Frag → Bool} {w : World} {h : Heap} (e : obsY n fa fn tf ex h.get? = valX fn [] w) : SaysX fa fn [] tf ex w h (frT h.get? (asY h.get? n)) := by
  generalize hk : frT h.get? (asY h.get? n) = K
  have e1 : obsT fa fn [] K = valT fn [] w := by rw [← hk]; exact congrArg (fun z : AlX => z.1) e
  have e2 : (ex K && tabsB h.get? tf K) = true := by rw [← hk]; exact congrArg (fun z : AlX => z.2) e
  have e3 := ba e2
  have each : ∀ p ∈ tf, PySem.W.codeHdIn K (cT K p).1 (cT K p).2 = true ∧ ∃ o, h.get? (cT K p).2 = some o ∧ emptyTab o = true := fun p hp => by
    have z := ba (List.all_eq_true.mp e3.2 p hp)
    refine ⟨z.1, ?_⟩
    cases q : h.get? (cT K p).2 with
    | none => have y := z.2; rw [q] at y; cases y
    | some o => have y := z.2; rw [q] at y; exact ⟨o, rfl, y⟩
  refine ⟨e1, e3.1, fun p hp => (each p hp).1, fun p hp => ?_, fun p hp => ?_⟩
  · obtain ⟨_, o, q, z⟩ := each p hp
    rw [← hk] at q ⊢
    exact frT_none q z
  · obtain ⟨_, o, q, z⟩ := each p hp
    rw [q, emptyTab_eq z]
def hookY (n : Nat) (fa : List Fa) (fn : List DefD) (tf : List Defn) (ex : PySem.W.Frag → Bool) : PySem.W.Hook where
  α := AlX
  obs := fun s => obsY n fa fn tf ex s.heap.get?
  val := fun w => valX fn [] w
  says := fun w h => ∃ K : PySem.W.Frag, K.In h ∧ SaysX fa fn [] tf ex w h K
  of := fun _ _ e => ⟨_, frT_in, saysY e⟩
  keeps := fun _ _ _ ⟨K, hK, c⟩ k => ⟨K, PySem.W.Frag.In.keeps hK k, ⟨c.t, c.more, c.hd, c.out, fun p hp => k _ _ (c.empty p hp)⟩⟩
theorem obsY_eq {n : Nat} {fa : List Fa} {fn : List DefD} {tf : List Defn} {ex : PySem.W.Frag → Bool} {g : Addr → Option Obj} {s : Shared} (h : ∀ a, g a = s.heap.get? a) : obsY n fa fn tf ex g = (hookY n fa fn tf ex).obs s := by
  have e : g = s.heap.get? := funext h
  rw [e] <;> rfl
end VX

end
section
set_option Elab.async false
set_option linter.all false
set_option maxRecDepth 100000
set_option maxHeartbeats 2000000
namespace VL
open PySem PySem.Spec PyProof.Rows L2
section
variable {G : Gx} {X : Cx} {E : XK} {pos p p1 : Pos} {x : Str} {a : Expr} {es : List Expr} {n : Nat} {tr : TA} {wr : WA} {ta : TE} {wa : WE}
theorem cb_int : CallR X (.type "int") (fun xs H Q => (∃ i, xs = [.int i] ∧ Q (.int i) H) ∨ ∃ k, xs = [.bl k] ∧ Q (.int (if k then 1 else 0)) H) := call_int1
theorem cb_abs : CallR X (.builtin "abs") (fun xs H Q => ∃ i, xs = [.int i] ∧ Q (.int (if i < 0 then -i else i)) H) := call_abs
/-- math.gcd -/
def fGcd : List PyData → (PyData → Prop) → Prop
  | [.int a, .int b], P => P (.int ((Nat.gcd a.natAbs b.natAbs : Nat) : Int))
  | _, _ => False
theorem rc_gcd {K : PySem.W.Frag} : RC K rGcd fGcd := by
  intro S H xs ds P e hx hf Q q
  unfold fGcd at hf
  split at hf
  · obtain ⟨v, u, rfl, h, h'⟩ := rcs2 hx
    cases h; cases h'
    exact ⟨_, _, rfl, q _ _ S H (.refl e) (.int _) hf⟩
  · exact hf.elim
theorem ve_gcd (hm : X.mg x = some (.builtin "math.gcd")) (ha : VA G X E (a :: es) n tr wr) (hg : Gl X x := by rfl) (hdb : (x == ("__debug__" : Str)) = false := by decide) (he : starEach (a :: es) X.env = (false, eval a X.env) :: starEach es X.env := by rfl) (hpl : (backTo pos (starEach es X.env)).any (·.1) = false := by rfl) :
    VE G X E (.Call (.Name x p) (a :: es) [] pos) (tCB rGcd tr) (wCB fGcd wr) := ⟨ha.hK, pe_callBfun cr_gcd hg hm ha.pa hdb he hpl, re_cb rc_gcd ha.ra⟩
/-! ### targets with their length -/
structure VGl (G : Gx) (X : Cx) (ts : List Expr) (n : Nat) (g : TGs) (wg : List PyData → En → (En → Prop) → Prop) : Prop where
  v : VGs G X ts n g wg
  len : ∀ ds e P, wg ds e P → ds.length = n
  some : ∀ ds e P, wg ds e P → ∃ e', P e'
theorem vgl_nil : VGl G X [] 0 gNil gNone := ⟨vgs_nil, gNone_len, fun ds e P h => by
  unfold gNone at h
  split at h
  · exact ⟨_, h⟩
  · exact h.elim⟩
theorem vgl_n {tl : List Expr} {gs : TGs} {wgs : List PyData → En → (En → Prop) → Prop} (i : Nat) (hN : X.N.Nodup) (h : VGl G X tl n gs wgs) (hi : X.N[i]? = some x := by rfl) (hx : Loc X.env.scope x := by first | exact Or.inl rfl | exact Or.inr rfl) (hf : X.fn x = true ∨ X.env.scope.names.lookup x = some .local := by first | exact Or.inl rfl | exact Or.inr rfl)
    (hs : (assignEach (.Name x pos :: tl) X.env).map (·.2) = assign (.Name x pos) X.env :: (assignEach tl X.env).map (·.2) := by rfl) (hK : X.K = G.K := by rfl) : VGl G X (.Name x pos :: tl) (n + 1) (gCons (gName i) gs) (gMore (gN i) wgs) :=
  ⟨vgs_cons (vg_n i hN hi hx hf hK) h.v (by intros; trivial) hs h.len gN_some, gMore_len h.len gN_some, fun ds e P h2 => by
    unfold gMore at h2
    split at h2
    · exact h.some _ _ _ h2
    · exact h2.elim⟩
theorem vgl_t {ts : List Expr} {k n : Nat} {gs : TGs} {wgs : List PyData → En → (En → Prop) → Prop} (h : VGl G X ts n gs wgs) (hc : X.calm = true := by rfl) (hn : (assignEach ts X.env).length = n := by rfl) (hst : (assignEach ts X.env).findIdx? (·.1) = none := by rfl) (hK : X.K = G.K := by rfl) : VG G X (.Tuple ts k pos) (gSq G.K n gs) (gT wgs) := vg_t h.v hc hn hst hK
theorem vgl_tt {ts tl : List Expr} {k n m : Nat} {gs hs : TGs} {wgs whs : List PyData → En → (En → Prop) → Prop} (h : VGl G X ts n gs wgs) (r : VGl G X tl m hs whs) (hc : X.calm = true := by rfl) (hn : (assignEach ts X.env).length = n := by rfl) (hst : (assignEach ts X.env).findIdx? (·.1) = none := by rfl) (hK : X.K = G.K := by rfl)
    (hs' : (assignEach (.Tuple ts k pos :: tl) X.env).map (·.2) = assign (.Tuple ts k pos) X.env :: (assignEach tl X.env).map (·.2) := by rfl) : VGl G X (.Tuple ts k pos :: tl) (m + 1) (gCons (gSq G.K n gs) hs) (gMore (gT wgs) whs) := by
  have sm : ∀ d e P, gT wgs d e P → ∃ e', P e' := fun d e P h2 => by
    unfold gT at h2
    split at h2
    · exact h.some _ _ _ h2
    · exact h.some _ _ _ h2
    · exact h2.elim
  exact ⟨vgs_cons (vgl_t h hc hn hst hK) r.v (by intros; trivial) hs' r.len sm, gMore_len r.len sm, fun ds e P h2 => by
    unfold gMore at h2
    split at h2
    · obtain ⟨e', q⟩ := sm _ _ _ h2
      exact r.some _ _ _ q
    · exact h2.elim⟩
/-! ### binding -/
variable {K : PySem.W.Frag} {qual : Str} {params : Arguments} {body : List Stmt} {scope : Scope} {f : Addr} {fd : FuncData} {ps ks : List Str}
theorem bnd_all (b : Binds K fd ps []) : Bnd K fd ps ps.length [] (fun us _ => us) (fun vs _ => vs) (fun as _ => as) :=
  ⟨fun s us ws k l1 l2 => by
    have e : ws = [] := List.eq_nil_of_length_eq_zero l2
    subst e
    have z := b s us k (by rw [List.append_nil]; exact l1)
    rw [List.append_nil] at z
    exact z, fun _ _ r _ => r, fun _ _ r _ => r, fun vs zs l1 _ => l1⟩
theorem bnd_kw {n : Nat} {g : List Value → List Value → List Value} {gV : List V → List V → List V} {gA : List Ar → List Ar → List Ar} (F : FunD K x qual params body scope [] [] f fd)
    (h : ∀ (kV doc pm : Value) (an : Option Addr) (cdv ct : Value) (us ws : List Value), us.length = n → ws.length = ks.length → bindArgs (PySem.W.fnOf x qual params body scope .none kV doc pm an cdv ct) ⟨us, ks.zip ws⟩ = pure (ps.zip (g us ws)))
    (rel : ∀ {vs : List V} {us : List Value} {zs : List V} {ws : List Value}, vs.length = n → zs.length = ks.length → Vals vs us → Vals zs ws → Vals (gV vs zs) (g us ws))
    (ar : ∀ {W : Addr → Option Nat} {S H : Hp} {vs zs : List V} {as bs : List Ar}, vs.length = n → zs.length = ks.length → ArsOk K W S H vs as → ArsOk K W S H zs bs → ArsOk K W S H (gV vs zs) (gA as bs)) (len : ∀ (vs zs : List V), vs.length = n → zs.length = ks.length → (gV vs zs).length = ps.length) : Bnd K fd ps n ks g gV gA := by
  obtain ⟨oc, od, dV, kV, doc, pm, an, cdv, ct, osl, rfl, lk, hcd, hD, hK⟩ := F.ex
  refine ⟨fun s us ws k l1 l2 => ?_, rel, ar, len⟩
  rcases hD with ⟨_, rfl⟩ | ⟨e, _⟩
  · exact .of_eq (h kV doc pm an cdv ct us ws l1 l2)
  · exact absurd rfl e
end
end VL

end
section
set_option Elab.async false
set_option linter.all false
set_option maxRecDepth 100000
set_option maxHeartbeats 2000000
namespace VL
open PySem PySem.Spec PyProof.Rows L2
section
variable {G : Gx} {X : Cx} {E : XK} {pos p p1 : Pos} {x : Str} {a b : Expr} {ta tb : TE} {wa wb : WE}
/-- a module's int, text -/
theorem ve_gi {i : Int} {t : Tok} (hm : X.mg x = some (.int i t)) (hg : Gl X x := by rfl) (hdb : (x == ("__debug__" : Str)) = false := by decide) (hK : X.K = G.K := by rfl) : VE G X E (.Name x pos) (tC (.int i)) (wC (.int i)) := ve_glob hm ⟨_, rfl⟩ (fun _ => .int _) hg hdb hK
theorem ve_gs {z : Str} {t : Tok} (hm : X.mg x = some (.str z t)) (hg : Gl X x := by rfl) (hdb : (x == ("__debug__" : Str)) = false := by decide) (hK : X.K = G.K := by rfl) : VE G X E (.Name x pos) (tC (.str z)) (wC (.str z)) := ve_glob hm ⟨_, rfl⟩ (fun _ => .str _) hg hdb hK
/-- {} -/
theorem ve_dic (hK : X.K = G.K := by rfl) : VE G X E (.Dict [] [] pos) tDNewK (wC (.dict [])) := ⟨hK, pe_dnewK, fun W S H σ e P X hs hw _ Q q p hp => by
  have nw := Nw.laid (o := .dK []) hs.gd.sh hp
  exact q _ _ W _ _ e nw.fw (hs.new nw) (.dic upd_same) hw⟩
/-- "..".join(e) -/
def fJoinC (z : Str) : PyData → (PyData → Prop) → Prop
  | .list ds, P => ∃ ys : List Str, ds = ys.map PyData.str ∧ (ys.map (·.length)).sum + ys.length * z.length ≤ 16777216 ∧ P (.str (Txt.join z ys))
  | _, _ => False
theorem ve_joinC {z : Str} {j : Nat} {apos : Pos} (hb : VE G X E b tb wb) (hs : starEach [b] X.env = [(false, eval b X.env)] := by rfl) (hbase : attributeBase (.Constant (.str z) j p1) "join" X.env (eval (.Constant (.str z) j p1) X.env) = eval (.Constant (.str z) j p1) X.env := by rfl) (hline : (apos.endLine == pos.line) = true := by rfl) :
    VE G X E (.Call (.Attribute (.Constant (.str z) j p1) "join" apos) [b] [] pos) (tM1 (fun x xs H Q => ∃ a p, ∃ ys : List Str, x = .str a ∧ xs = [.ref p] ∧ (SqL G.K H p (ys.map V.str) ∨ SqT G.K H p (ys.map V.str)) ∧ (ys.map (·.length)).sum + ys.length * a.length ≤ 16777216 ∧ Q (.str (Txt.join a ys)) H) (tC (.str z)) tb) (w1 (fJoinC z) wb) :=
  ⟨hb.hK, by rw [← hb.hK]; exact pe_join pe_str hb.pe hs hbase hline, fun W S H σ e P X hs hw hk Q q => ⟨⟨z, rfl⟩, hb.re W S H σ e _ X hs hw hk _ fun v d W1 S1 H1 e1 f1 s1 d1 h1 => by
    unfold fJoinC at h1
    split at h1
    · obtain ⟨a, xs, rfl, ha, hx⟩ := dt_sl d1
      obtain ⟨ys, rfl, h2, h3⟩ := h1
      rw [hx.strs_inv] at ha
      exact ⟨z, a, ys, rfl, rfl, .inl (.inl (.inl (s1.gd.sh _ _ ha))), h2, q _ _ W1 S1 H1 e1 f1 s1 (.str _) h3⟩
    · exact h1.elim⟩⟩
/-- the code object of a def with tables -/
theorem code_of {K : PySem.W.Frag} {f : Str} {q : Str} {cdv : Value} (h : CodeOf K (He.ga K f) q cdv) : cdv = .ref (He.codeOf K (f, none)) := by
  obtain ⟨h1, oc, od, fd, osl, lk, e⟩ := h
  obtain ⟨c, rfl⟩ := He.codeIn_ref h1
  rw [He.codeOf_eq (p := (f, none)) lk e]
def fdOf (K : PySem.W.Frag) (f : Str) : FuncData := match K.lookup (He.ga K f) with
  | some ⟨_, _, .func fd, _⟩ => fd
  | _ => default
theorem fdOf_eq {K : PySem.W.Frag} {x qual f : Str} {params : Arguments} {body : List Stmt} {scope : Scope} {dvs : List V} {kws : List (Str × V)} {fd : FuncData} (F : FunD K x qual params body scope dvs kws (He.ga K f) fd) : FunD K x qual params body scope dvs kws (He.ga K f) (fdOf K f) := by
  obtain ⟨oc, od, dV, kV, doc, pm, an, cdv, ct, osl, rfl, lk, _⟩ := F.ex
  have e : fdOf K f = PySem.W.fnOf x qual params body scope dV kV doc pm an cdv ct := by unfold fdOf; rw [lk] <;> rfl
  rw [e]
  exact F
end
theorem len_cons {α : Type} {l : List α} {n : Nat} (h : l.length = n + 1) : ∃ a t, l = a :: t ∧ t.length = n := by
  cases l with
  | nil => cases h
  | cons a t => exact ⟨a, t, rfl, Nat.succ.inj h⟩
theorem len_nil {α : Type} {l : List α} (h : l.length = 0) : l = [] := List.eq_nil_of_length_eq_zero h
/-! ### plain facts of the readings -/
@[simp] theorem isT_int (d : PyData) : isT "int" d = (match d with | .int _ => true | .bool _ => true | _ => false) := by cases d <;> (simp only [isT, tyD]; decide +kernel)
@[simp] theorem isT_bool (d : PyData) : isT "bool" d = (match d with | .bool _ => true | _ => false) := by cases d <;> (simp only [isT, tyD]; decide +kernel)
@[simp] theorem isT_str (d : PyData) : isT "str" d = (match d with | .str _ => true | _ => false) := by cases d <;> (simp only [isT, tyD]; decide +kernel)
@[simp] theorem isT_list (d : PyData) : isT "list" d = (match d with | .list _ => true | _ => false) := by cases d <;> (simp only [isT, tyD]; decide +kernel)
@[simp] theorem isT_tuple (d : PyData) : isT "tuple" d = (match d with | .tuple _ => true | _ => false) := by cases d <;> (simp only [isT, tyD]; decide +kernel)
end VL

end
section
set_option Elab.async false
set_option linter.all false
set_option maxRecDepth 100000
set_option maxHeartbeats 400000
set_option autoImplicit false
namespace VL
open PySem PySem.Spec PyProof.Rows L2

theorem cm_of {x y : Int} (a b : Nat) (hx : x.natAbs < 2 ^ a) (hy : y.natAbs < 2 ^ b) (h : a + b ≤ 134217728 := by decide) : CMul' x y := by
  have h1 := PySem.intBits_le_iff.mpr hx
  have h2 := PySem.intBits_le_iff.mpr hy
  unfold CMul'
  omega
/-- a bound of size -/
@[irreducible] def Bt (k : Nat) (x : Int) : Prop := x.natAbs < 2 ^ k
theorem Bt.un {k : Nat} {x : Int} (h : Bt k x) : x.natAbs < 2 ^ k := by unfold Bt at h; exact h
theorem Bt.mk {k : Nat} {x : Int} (h : x.natAbs < 2 ^ k) : Bt k x := by unfold Bt; exact h
theorem Bt.cm {x y : Int} {a b : Nat} (hx : Bt a x) (hy : Bt b y) (h : a + b ≤ 134217728 := by decide) : CMul' x y := cm_of a b hx.un hy.un h
theorem Bt.of {x : Int} {k : Nat} (h1 : -(2 ^ k) < x) (h2 : x < 2 ^ k) : Bt k x := by
  unfold Bt
  have e : ((2 ^ k : Nat) : Int) = 2 ^ k := by push_cast; rfl
  omega
theorem Bt.zero {k : Nat} : Bt k 0 := .mk (Nat.two_pow_pos k)
theorem Bt.nn {x : Int} {k : Nat} (h1 : 0 ≤ x) (h2 : x < 2 ^ k) : Bt k x := .of (by have : (0:Int) < 2 ^ k := Int.pow_pos (by decide); omega) h2
theorem Bt.lt {x : Int} {k : Nat} (h : Bt k x) : x < 2 ^ k ∧ -(2 ^ k) < x := by
  unfold Bt at h
  have e : ((2 ^ k : Nat) : Int) = 2 ^ k := by push_cast; rfl
  omega
theorem Bt.le {x y : Int} {k : Nat} (hy : Bt k y) (h0 : 0 ≤ x) (h1 : x ≤ y) : Bt k x := by
  unfold Bt at *; omega
theorem Bt.mul {x y : Int} {a b : Nat} (hx : Bt a x) (hy : Bt b y) : Bt (a + b) (x * y) := by
  unfold Bt at *
  rw [Int.natAbs_mul, Nat.pow_add]
  exact Nat.mul_lt_mul'' hx hy
theorem Bt.add {x y : Int} {a : Nat} (hx : Bt a x) (hy : Bt a y) : Bt (a + 1) (x + y) := by
  unfold Bt at *
  rw [Nat.pow_succ]
  omega
theorem Bt.sub {x y : Int} {a : Nat} (hx : Bt a x) (hy : Bt a y) : Bt (a + 1) (x - y) := by
  unfold Bt at *
  rw [Nat.pow_succ]
  omega
theorem Bt.mono {x : Int} {a b : Nat} (hx : Bt a x) (h : a ≤ b) : Bt b x := .mk (Nat.lt_of_lt_of_le hx.un (Nat.pow_le_pow_right (by decide) h))
theorem Bt.bits {x : Int} {a : Nat} (hx : Bt a x) : Builtin.Int.intBits x ≤ a := PySem.intBits_le_iff.mpr hx.un
theorem atI_some {α : Type} {xs : List α} {i : Int} {z : α} (h0 : 0 ≤ i) (h : xs[i.toNat]? = some z) : atI xs i = some z := by
  have hl : i.toNat < xs.length := (List.getElem?_eq_some_iff.mp h).1
  unfold atI ixN
  rw [if_pos h0, if_pos (by omega)]
  exact h
theorem atI_lt {α : Type} {xs : List α} {i : Int} (h0 : 0 ≤ i) (hl : i < (xs.length : Int)) : ∃ z, z ∈ xs ∧ atI xs i = some z := by
  have hl' : i.toNat < xs.length := by omega
  exact ⟨xs[i.toNat], List.getElem_mem hl', atI_some h0 (List.getElem?_eq_getElem hl')⟩
theorem Bt.ten {x : Int} {k : Nat} (h1 : -(10 ^ k) < x) (h2 : x < 10 ^ k) : Bt (4 * k) x := by
  have e : ((10 ^ k : Nat) : Int) = 10 ^ k := by push_cast; rfl
  have h : x.natAbs < 10 ^ k := by omega
  unfold Bt
  rw [Nat.pow_mul]
  exact Nat.lt_of_lt_of_le h (Nat.pow_le_pow_left (by decide) k)
theorem ten_pos (k : Nat) : (0 : Int) < 10 ^ k := Int.pow_pos (by decide)
/-- what _law_exact may compare with itself -/
def exOk : Nat → PyData → Bool
  | 0, _ => false
  | k + 1, .list ds => ds.all (exOk k) && decide (ds.length ≤ 1000000)
  | k + 1, .tuple ds => ds.all (exOk k) && decide (ds.length ≤ 1000000)
  | _ + 1, .none => true
  | _ + 1, .bool _ => true
  | _ + 1, .int _ => true
  | _ + 1, .str _ => true
  | _ + 1, _ => false
theorem eqOk_int (i : Int) : eqOk (.int i) = true := rfl
theorem eqOkL_int (i : Int) (e : PyData) : eqOkL (.int i) e = true := by cases e <;> rfl
theorem eqOkL_bool (b : Bool) (e : PyData) : eqOkL (.bool b) e = true := by cases b <;> cases e <;> rfl
theorem eqOkL_none (e : PyData) : eqOkL .none e = true := by cases e <;> rfl
theorem eqOkL_nil (xs : List PyData) : eqOkL (.list xs) (.list []) = true := rfl
theorem eqOk_bool (b : Bool) : eqOk (.bool b) = true := by cases b <;> rfl
theorem eqOk_none : eqOk .none = true := rfl
theorem eqv_bool (a b : Bool) : PyData.eqv (.bool a) (.bool b) = decide (a = b) := by cases a <;> cases b <;> rfl
theorem eqv_int (i j : Int) : PyData.eqv (.int i) (.int j) = decide (i = j) := rfl
theorem eqv_str (i j : Str) : PyData.eqv (.str i) (.str j) = decide (i = j) := rfl
theorem all_rep : ∀ n : Nat, (List.replicate n true).all id = true
  | 0 => rfl
  | n + 1 => by rw [List.replicate_succ, List.all_cons, all_rep n]; rfl
def isI : PyData → Bool
  | .int _ => true
  | _ => false
def isW : PyData → Int → Int → Bool
  | .int i, a, b => decide (a ≤ i) && decide (i ≤ b)
  | _, _, _ => false
def gcdL (k : Int) (l : List Int) : Int := l.foldl (fun a b => (Int.gcd a b : Nat)) k
theorem shown_int {i : Int} {k : Nat} (hk : 0 < k) (h : i.natAbs < 10 ^ k) : (PyData.shown (.int i)).length ≤ k + 1 := by
  have e := int_text_length_le10 (k := k) hk h
  show (Str.ofString (toString i)).length ≤ k + 1
  rw [PySem.ofString_length]; exact e
/-- data whose repr is taken: short ints -/
theorem shown_fit {B : Nat} {d : PyData} (hB : 8 ≤ B) (hB2 : B ≤ 10000) (hl : d.leavesShort B = true) (hw : d.weight ≤ 1000) : d.shown.length ≤ sizeLine := by
  have h := PyData.shown_le B hB d hl
  have h2 : (B + 2) * d.weight ≤ 10002 * 1000 := Nat.mul_le_mul (by omega) (by omega)
  have e : sizeLine = 16777216 := by decide
  omega
end VL

end
section
set_option Elab.async false
set_option linter.all false
set_option maxRecDepth 100000
set_option maxHeartbeats 400000
set_option autoImplicit false
/-! Loops by a word that holds between two turns. -/
namespace VL
open PySem PySem.Spec PyProof.Rows L2
theorem loop_of {wg : WG} {wb : WS} {A : EV} {X : XP} (I : List PyData → En → Prop) (hend : ∀ e, I [] e → A.nx e)
    (step : ∀ d ds e (N : En → Prop), I (d :: ds) e → (∀ e, I ds e → N e) → wg d e fun e1 => wb { nx := N, rt := A.rt, bk := A.nx, ct := N } X e1) :
    ∀ ds e, I ds e → loop wg wb A X ds e
  | [], e, h => hend e h
  | d :: ds, e, h => step d ds e _ h (loop_of I hend step ds)
theorem lc_of {vs : List Nat} {wg : WG} {wt : WT} {we : WE} {P : List PyData → En → Prop} {X : XP} (I : List PyData → List PyData → En → Prop) (hend : ∀ acc e, I [] acc e → P acc e)
    (step : ∀ d ds acc e (N : List PyData → En → Prop), I (d :: ds) acc e → (∀ acc e, I ds acc e → N acc e) →
      wg d e fun e1 => wt e1 (fun b e2 => (b = true → we e2 (fun y e3 => N (acc ++ [y]) (e3.wipe vs)) X) ∧ (b = false → N acc (e2.wipe vs))) X) :
    ∀ ds acc e, I ds acc e → lcLoop vs wg wt we P X ds acc e
  | [], acc, e, h => hend acc e h
  | d :: ds, acc, e, h => step d ds acc e _ h (lc_of I hend step ds)
/-- data that repr takes -/
def Rp (d : PyData) : Prop := reprOk d = true ∧ d.shown.length ≤ sizeLine
theorem rp_of {d : PyData} (h1 : d.showable = true) (h3 : d.depth ≤ 50) (h4 : d.leavesShort 700 = true) (h5 : d.bulk ≤ 20000) : Rp d := by
  refine ⟨?_, by
    have h := PyData.shown_le_bulk 700 (by decide) d h4
    have e : sizeLine = 16777216 := by decide
    omega⟩
  unfold reprOk
  rw [h1]
  simp [h3]
theorem sh_int {i : Int} (h : Bt 1900 i) : (PyData.int i).showable = true := by
  by_cases h0 : i.natAbs = 0
  · simp [PyData.showable, h0]
  · have := (Nat.log2_lt h0).mpr h.un
    simp only [PyData.showable, decide_eq_true_eq]
    omega
theorem ls_int {i : Int} (h : Bt 1900 i) : (PyData.int i).leavesShort 700 = true := by
  have h' : i.natAbs < 10 ^ 600 := Nat.lt_of_lt_of_le h.un (by decide +kernel)
  have := shown_int (k := 600) (by decide) h'
  simp only [PyData.leavesShort, decide_eq_true_eq]
  omega
mutual
/-- short ints, plain texts, no dict but the empty one -/
def short : PyData → Prop
  | .int i => Bt 1900 i
  | .str x => (x.cps.toList.all fun c => decide (c < 16 ^ 8)) = true
  | .list ds => shorts ds
  | .tuple ds => shorts ds
  | .dict kvs => kvs = []
  | .none => True
  | .bool _ => True
def shorts : List PyData → Prop
  | [] => True
  | d :: ds => short d ∧ shorts ds
end
mutual
theorem short_ok : ∀ d : PyData, short d → d.showable = true ∧ d.leavesShort 700 = true
  | .int i, h => ⟨sh_int h, ls_int h⟩
  | .str x, h => ⟨rfl, h⟩
  | .list ds, h => shorts_ok ds h
  | .tuple ds, h => shorts_ok ds h
  | .dict kvs, h => by
    have e : kvs = [] := h
    subst e; exact ⟨rfl, rfl⟩
  | .none, _ => ⟨rfl, rfl⟩
  | .bool _, _ => ⟨rfl, rfl⟩
theorem shorts_ok : ∀ ds : List PyData, shorts ds → PyData.showableAll ds = true ∧ PyData.leavesShortAll 700 ds = true
  | [], _ => ⟨rfl, rfl⟩
  | d :: ds, h => by
    obtain ⟨a1, a2⟩ := short_ok d h.1
    obtain ⟨b1, b2⟩ := shorts_ok ds h.2
    exact ⟨by rw [PyData.showableAll, a1, b1]; rfl, by rw [PyData.leavesShortAll, a2, b2]; rfl⟩
end
theorem rp_short {d : PyData} (h : short d) (h3 : Nat.ble d.depth 50 = true) (h5 : Nat.ble d.bulk 20000 = true) : Rp d :=
  rp_of (short_ok d h).1 (Nat.le_of_ble_eq_true h3) (short_ok d h).2 (Nat.le_of_ble_eq_true h5)
theorem Bt.c' {x : Int} (h : x.natAbs < 2 ^ 64) : Bt 1900 x := (Bt.mk (k := 64) h).mono (by decide)
/-! sizes, put together -/
theorem Bt.addA {x y : Int} {a b : Nat} (hx : Bt a x) (hy : Bt b y) : Bt (a + b + 1) (x + y) := (hx.mono (Nat.le_add_right a b)).add (hy.mono (Nat.le_add_left b a))
theorem Bt.subA {x y : Int} {a b : Nat} (hx : Bt a x) (hy : Bt b y) : Bt (a + b + 1) (x - y) := (hx.mono (Nat.le_add_right a b)).sub (hy.mono (Nat.le_add_left b a))
theorem Bt.negA {x : Int} {a : Nat} (hx : Bt a x) : Bt a (-x) := by unfold Bt at *; omega
theorem Bt.c {x : Int} (h : x.natAbs < 2 ^ 64) : Bt 64 x := .mk h
theorem Bt.cm' {x y : Int} {a b : Nat} (hx : Bt a x) (hy : Bt b y) (h : a + b ≤ 134217728) : CMul' x y := hx.cm hy h
theorem Bt.ediv {x y : Int} {a : Nat} (hx : Bt a x) : Bt a (x / y) := by
  unfold Bt at *
  have := Int.natAbs_ediv_le_natAbs x y
  omega
theorem Bt.emod {x y : Int} {a : Nat} (hy : Bt a y) (h : 0 < y) : Bt a (x % y) := hy.le (Int.emod_nonneg _ (by omega)) (by have := Int.emod_lt_of_pos x h; omega)
theorem div_ok {x y : Int} {a : Nat} (h0 : 0 < y) (hy : Bt a y) (h : a ≤ 9000) : CDiv' x y := ⟨h0, by have := (Nat.log2_lt (by omega : y.natAbs ≠ 0)).mpr hy.un; omega⟩
end VL

end
section
set_option Elab.async false
set_option linter.all false
set_option maxRecDepth 100000
set_option maxHeartbeats 400000
set_option autoImplicit false
/-! The readings step by step: what is still to come stands under names that unfold only when they are reached. -/
namespace VL
open PySem PySem.Spec PyProof.Rows L2
abbrev PE' := PyData → En → Prop
section
variable {l : List Sl} {n : Nat} {e : En} {X : XP} {A : EV}
def hold (P : Ar → En → Prop) (l : List Sl) (r : Ar) (m : Nat) : Prop := P r ⟨l, m⟩
def k2c (P : PE') (e : En) (z : PyData) : Prop := P z e
def k2b (f : PyData → PyData → (PyData → Prop) → Prop) (P : PE') (x y : PyData) (e : En) : Prop := f x y (k2c P e)
def k2a (f : PyData → PyData → (PyData → Prop) → Prop) (wb : WE) (P : PE') (X : XP) (x : PyData) (e : En) : Prop := wb e (k2b f P x) X
def k1 (f : PyData → (PyData → Prop) → Prop) (P : PE') (x : PyData) (e : En) : Prop := f x (k2c P e)
def kB (P : Bool → En → Prop) : PE' := fun d e => match d with | .bool b => P b e | _ => False
def kNot (P : Bool → En → Prop) (b : Bool) (e : En) : Prop := P (!b) e
def kAnd (wu : WT) (P : Bool → En → Prop) (X : XP) (b : Bool) (e : En) : Prop := (b = true → wu e P X) ∧ (b = false → P false e)
def kOr (wu : WT) (P : Bool → En → Prop) (X : XP) (b : Bool) (e : En) : Prop := (b = true → P true e) ∧ (b = false → wu e P X)
def kAndV (wb : WE) (P : PE') (X : XP) : PE' := fun d e => match d with | .bool b => (b = true → wb e P X) ∧ (b = false → P (.bool false) e) | _ => False
def kOrV (wb : WE) (P : PE') (X : XP) : PE' := fun d e => match d with | .bool b => (b = true → P (.bool true) e) ∧ (b = false → wb e P X) | _ => False
def kNotV (P : PE') : PE' := fun d e => match d with | .bool b => P (.bool (!b)) e | _ => False
def kIfE (wa wb : WE) (P : PE') (X : XP) (b : Bool) (e : En) : Prop := (b = true → wa e P X) ∧ (b = false → wb e P X)
def kCh3 (f' : PyData → PyData → (PyData → Prop) → Prop) (wc : WE) (P : PE') (X : XP) (y : PyData) (e : En) (z : PyData) : Prop := match z with
  | .bool k => (k = true → wc e (k2b f' P y) X) ∧ (k = false → P (.bool false) e)
  | _ => False
def kCh2 (f f' : PyData → PyData → (PyData → Prop) → Prop) (wc : WE) (P : PE') (X : XP) (x y : PyData) (e : En) : Prop := f x y (kCh3 f' wc P X y e)
def kCh1 (f f' : PyData → PyData → (PyData → Prop) → Prop) (wb wc : WE) (P : PE') (X : XP) (x : PyData) (e : En) : Prop := wb e (kCh2 f f' wc P X x) X
def kCons2 (P : List PyData → En → Prop) (d : PyData) (ds : List PyData) (e : En) : Prop := P (d :: ds) e
def kCons (wr : WA) (P : List PyData → En → Prop) (X : XP) (d : PyData) (e : En) : Prop := wr e (kCons2 P d) X
def kTup (P : PE') (ds : List PyData) (e : En) : Prop := P (.tuple ds) e
def kLst (P : PE') (ds : List PyData) (e : En) : Prop := P (.list ds) e
def kCB (f : List PyData → (PyData → Prop) → Prop) (P : PE') (ds : List PyData) (e : En) : Prop := f ds (k2c P e)
def kSl3 (P : PE') (d : PyData) (lo hi : Option Int) (e : En) : Prop := fSl d lo hi (k2c P e)
def kSl2 (wh : WO) (P : PE') (X : XP) (d : PyData) (lo : Option Int) (e : En) : Prop := wh e (kSl3 P d lo) X
def kSl1 (wl wh : WO) (P : PE') (X : XP) (d : PyData) (e : En) : Prop := wl e (kSl2 wh P X d) X
def kPart (P : Option Int → En → Prop) : PE' := fun d e => match d with | .int i => P (some i) e | _ => False
def kxD (P : Ar → En → Prop) (d : PyData) (e : En) : Prop := P (.da d) e
def kD (P : PE') : Ar → En → Prop := fun r e => match r with | .da d => P d e | _ => False
def kr2 (P : List Ar → En → Prop) (r : Ar) (as : List Ar) (e : En) : Prop := P (r :: as) e
def kr1 (wr : WR) (P : List Ar → En → Prop) (X : XP) (r : Ar) (e : En) : Prop := wr e (kr2 P r) X
def kc2 (c : Ct) (gA : List Ar → List Ar → List Ar) (P : Ar → En → Prop) (X : XP) (as bs : List Ar) (e : En) : Prop := c (gA as bs) e.fu (hold P e.sl) X
def kc1 (c : Ct) (gA : List Ar → List Ar → List Ar) (wk : WR) (P : Ar → En → Prop) (X : XP) (as : List Ar) (e : En) : Prop := wk e (kc2 c gA P X as) X
def kcl (c : Ct) (P : Ar → En → Prop) (X : XP) (as : List Ar) (e : En) : Prop := c as e.fu (hold P e.sl) X
def kCs (o : Option Ct) (wr : WR) (P : Ar → En → Prop) (X : XP) (e : En) : Prop := match o with | some c => wr e (kcl c P X) X | none => False
def kNone : PE' := fun _ _ => False
def kRf3 (okC : Addr → Prop) (w3 : WS) (P : Ar → En → Prop) (dk dv : PyData) (l : List Sl) : XP := fun C d n => okC C ∧ w3 (outA (hold P (l.map Sl.noOw))) X00 ⟨[.un, .da dk, .da dv, .er C d, .un], n⟩
def kRf2 (okC : Addr → Prop) (w3 : WS) (wb : WE) (P : Ar → En → Prop) (dk dv : PyData) (e : En) : Prop := wb e kNone (kRf3 okC w3 P dk dv e.sl)
def kRf1 (okC : Addr → Prop) (w3 : WS) (wv wb : WE) (P : Ar → En → Prop) (X : XP) (dk : PyData) (e : En) : Prop := wv e (kRf2 okC w3 wb P dk) X
def kSeqA (w2 : WS) (A : EV) (X : XP) : EV := { A with nx := fun e' => w2 A X e' }
def kAsg (wg : WG) (A : EV) (d : PyData) (e : En) : Prop := wg d e A.nx
def kRet (A : EV) (d : PyData) (e : En) : Prop := A.rt (.da d) e.fu
def kDrop (A : EV) (_ : PyData) (e : En) : Prop := A.nx e
def kIf (w1 w2 : WS) (A : EV) (X : XP) (b : Bool) (e : En) : Prop := (b = true → w1 A X e) ∧ (b = false → w2 A X e)
def kFor (wg : WG) (wb : WS) (A : EV) (X : XP) (ds : List PyData) (e : En) : Prop := loop wg wb A X ds e
def kSeqI (P : List PyData → En → Prop) : PE' := fun d e => match d with | .list ds => P ds e | .tuple ds => P ds e | _ => False
def kRng1 (P : List PyData → En → Prop) : List PyData → En → Prop := fun ds e => match ds with | [.int j] => small62 j ∧ P (rng 0 j.toNat) e | _ => False
def kRng2 (P : List PyData → En → Prop) : List PyData → En → Prop := fun ds e => match ds with | [.int i, .int j] => (small62 i ∧ small62 j) ∧ P (rng i (j - i).toNat) e | _ => False
def kRng3 (P : List PyData → En → Prop) : List PyData → En → Prop := fun ds e => match ds with | [.int i, .int j, .int c] => ∃ n, RgC i j c n ∧ P (rngC i c n) e | _ => False
def kEnum (P : List PyData → En → Prop) : List PyData → En → Prop := fun ds e => match ds with | [.list ds] => P (enumD 0 ds) e | _ => False
def kZip (P : List PyData → En → Prop) : List PyData → En → Prop := fun ds e => match ds with | [.list xs, .list ys] => P (zipD xs ys) e | _ => False
def kPar (i j : Nat) (A : EV) : List PyData → En → Prop := fun ds e => match ds with | [x, y] => A.nx ((e.set i (.da x)).set j (.da y)) | _ => False
def kSetX (i : Nat) (A : EV) (r : Ar) (e : En) : Prop := A.nx (e.set i r.sl)
def kRetX (A : EV) (r : Ar) (e : En) : Prop := A.rt r e.fu
def kSetOw (i : Nat) (A : EV) (ds : List PyData) (e : En) : Prop := A.nx (e.set i (.ow ds))
def kApp (i : Nat) (A : EV) (d : PyData) (e : En) : Prop := match e.sl[i]? with
  | some (.ow ds) => ds.length < 1000000 ∧ A.nx (e.set i (.ow (ds ++ [d])))
  | _ => False
def kAug2 (i : Nat) (A : EV) (e : En) (z : PyData) : Prop := A.nx (e.set i (.da z))
def kAug (i : Nat) (f : PyData → PyData → (PyData → Prop) → Prop) (A : EV) (d y : PyData) (e : En) : Prop := f d y (kAug2 i A e)
def kRaise (C : Addr) (X : XP) (d : PyData) (e : En) : Prop := X C d e.fu
def kErIs (o : Option Bool) (P : PE') (e : En) : Prop := match o with | some b => P (.bool b) e | none => False
def kLc (vs : List Nat) (wg : WG) (wt : WT) (we : WE) (P : List PyData → En → Prop) (ds : List PyData) (e : En) : Prop := ds.length ≤ 1000000 ∧ lcLoop vs wg wt we P X00 ds [] (e.wipe vs)
def kG (r : List PyData → En → (En → Prop) → Prop) (ds : List PyData) (P : En → Prop) (e : En) : Prop := r ds e P
def kOwIx (i : Nat) (ds : List PyData) (P : PE') (y : PyData) (e : En) : Prop := e.sl[i]? = some (.ow ds) ∧ match y with
      | .int j => ∃ d, atI ds j = some d ∧ P d e
      | _ => False
def kOwCmp (i : Nat) (ds : List PyData) (f : PyData → PyData → (PyData → Prop) → Prop) (P : PE') (y : PyData) (e : En) : Prop := e.sl[i]? = some (.ow ds) ∧ f (.list ds) y (k2c P e)

theorem y_hold {P : Ar → En → Prop} {r : Ar} {m : Nat} : hold P l r m = P r ⟨l, m⟩ := id rfl
theorem y_2c {P : PE'} {z : PyData} : k2c P e z = P z e := id rfl
theorem y_2b {P : PE'} {x y : PyData} {f : PyData → PyData → (PyData → Prop) → Prop} : k2b f P x y e = f x y (k2c P e) := id rfl
theorem y_2a {P : PE'} {x : PyData} {wb : WE} {f : PyData → PyData → (PyData → Prop) → Prop} : k2a f wb P X x e = wb e (k2b f P x) X := id rfl
theorem y_1 {P : PE'} {x : PyData} {f : PyData → (PyData → Prop) → Prop} : k1 f P x e = f x (k2c P e) := id rfl
theorem y_B {P : Bool → En → Prop} {b : Bool} : kB P (.bool b) e = P b e := id rfl
theorem y_Not {P : Bool → En → Prop} {b : Bool} : kNot P b e = P (!b) e := id rfl
theorem y_And1 {wu : WT} {P : Bool → En → Prop} : kAnd wu P X true e = wu e P X := by simp [kAnd]
theorem y_And0 {wu : WT} {P : Bool → En → Prop} : kAnd wu P X false e = P false e := by simp [kAnd]
theorem y_Or1 {wu : WT} {P : Bool → En → Prop} : kOr wu P X true e = P true e := by simp [kOr]
theorem y_Or0 {wu : WT} {P : Bool → En → Prop} : kOr wu P X false e = wu e P X := by simp [kOr]
theorem y_AndV1 {wb : WE} {P : PE'} : kAndV wb P X (.bool true) e = wb e P X := by simp [kAndV]
theorem y_AndV0 {wb : WE} {P : PE'} : kAndV wb P X (.bool false) e = P (.bool false) e := by simp [kAndV]
theorem y_OrV1 {wb : WE} {P : PE'} : kOrV wb P X (.bool true) e = P (.bool true) e := by simp [kOrV]
theorem y_OrV0 {wb : WE} {P : PE'} : kOrV wb P X (.bool false) e = wb e P X := by simp [kOrV]
theorem y_NotV {P : PE'} {b : Bool} : kNotV P (.bool b) e = P (.bool (!b)) e := id rfl
theorem y_IfE1 {wa wb : WE} {P : PE'} : kIfE wa wb P X true e = wa e P X := by simp [kIfE]
theorem y_IfE0 {wa wb : WE} {P : PE'} : kIfE wa wb P X false e = wb e P X := by simp [kIfE]
theorem y_Ch31 {f' : PyData → PyData → (PyData → Prop) → Prop} {wc : WE} {P : PE'} {y : PyData} : kCh3 f' wc P X y e (.bool true) = wc e (k2b f' P y) X := by simp [kCh3]
theorem y_Ch30 {f' : PyData → PyData → (PyData → Prop) → Prop} {wc : WE} {P : PE'} {y : PyData} : kCh3 f' wc P X y e (.bool false) = P (.bool false) e := by simp [kCh3]
theorem y_If1 {w1 w2 : WS} : kIf w1 w2 A X true e = w1 A X e := by simp [kIf]
theorem y_If0 {w1 w2 : WS} : kIf w1 w2 A X false e = w2 A X e := by simp [kIf]
/-! the ways of a test -/
theorem kif {w1 w2 : WS} {b : Bool} (h1 : b = true → w1 A X e) (h2 : b = false → w2 A X e) : kIf w1 w2 A X b e := ⟨h1, h2⟩
theorem kand {wu : WT} {P : Bool → En → Prop} {b : Bool} (h1 : b = true → wu e P X) (h2 : b = false → P false e) : kAnd wu P X b e := ⟨h1, h2⟩
theorem kor {wu : WT} {P : Bool → En → Prop} {b : Bool} (h1 : b = true → P true e) (h2 : b = false → wu e P X) : kOr wu P X b e := ⟨h1, h2⟩
theorem kandV {wb : WE} {P : PE'} {b : Bool} (h1 : b = true → wb e P X) (h2 : b = false → P (.bool false) e) : kAndV wb P X (.bool b) e := ⟨h1, h2⟩
theorem korV {wb : WE} {P : PE'} {b : Bool} (h1 : b = true → P (.bool true) e) (h2 : b = false → wb e P X) : kOrV wb P X (.bool b) e := ⟨h1, h2⟩
theorem kifE {wa wb : WE} {P : PE'} {b : Bool} (h1 : b = true → wa e P X) (h2 : b = false → wb e P X) : kIfE wa wb P X b e := ⟨h1, h2⟩
theorem kch3 {f' : PyData → PyData → (PyData → Prop) → Prop} {wc : WE} {P : PE'} {y : PyData} {b : Bool} (h1 : b = true → wc e (k2b f' P y) X) (h2 : b = false → P (.bool false) e) : kCh3 f' wc P X y e (.bool b) := ⟨h1, h2⟩
theorem y_Ch2 {P : PE'} {x y : PyData} {wc : WE} {f f' : PyData → PyData → (PyData → Prop) → Prop} : kCh2 f f' wc P X x y e = f x y (kCh3 f' wc P X y e) := id rfl
theorem y_Ch1 {P : PE'} {x : PyData} {wb wc : WE} {f f' : PyData → PyData → (PyData → Prop) → Prop} : kCh1 f f' wb wc P X x e = wb e (kCh2 f f' wc P X x) X := id rfl
theorem y_Cons2 {P : List PyData → En → Prop} {d : PyData} {ds : List PyData} : kCons2 P d ds e = P (d :: ds) e := id rfl
theorem y_Cons {P : List PyData → En → Prop} {d : PyData} {wr : WA} : kCons wr P X d e = wr e (kCons2 P d) X := id rfl
theorem y_Tup {P : PE'} {ds : List PyData} : kTup P ds e = P (.tuple ds) e := id rfl
theorem y_Lst {P : PE'} {ds : List PyData} : kLst P ds e = P (.list ds) e := id rfl
theorem y_CB {P : PE'} {ds : List PyData} {f : List PyData → (PyData → Prop) → Prop} : kCB f P ds e = f ds (k2c P e) := id rfl
theorem y_Sl3 {P : PE'} {d : PyData} {lo hi : Option Int} : kSl3 P d lo hi e = fSl d lo hi (k2c P e) := id rfl
theorem y_Sl2 {P : PE'} {d : PyData} {lo : Option Int} {wh : WO} : kSl2 wh P X d lo e = wh e (kSl3 P d lo) X := id rfl
theorem y_Sl1 {P : PE'} {d : PyData} {wl wh : WO} : kSl1 wl wh P X d e = wl e (kSl2 wh P X d) X := id rfl
theorem y_Part {P : Option Int → En → Prop} {i : Int} : kPart P (.int i) e = P (some i) e := id rfl
theorem y_xD {P : Ar → En → Prop} {d : PyData} : kxD P d e = P (.da d) e := id rfl
theorem y_D {P : PE'} {d : PyData} : kD P (.da d) e = P d e := id rfl
theorem y_r2 {P : List Ar → En → Prop} {r : Ar} {as : List Ar} : kr2 P r as e = P (r :: as) e := id rfl
theorem y_r1 {P : List Ar → En → Prop} {r : Ar} {wr : WR} : kr1 wr P X r e = wr e (kr2 P r) X := id rfl
theorem y_c2 {P : Ar → En → Prop} {c : Ct} {gA : List Ar → List Ar → List Ar} {as bs : List Ar} : kc2 c gA P X as bs ⟨l, n⟩ = c (gA as bs) n (hold P l) X := id rfl
theorem y_c1 {P : Ar → En → Prop} {c : Ct} {gA : List Ar → List Ar → List Ar} {as : List Ar} {wk : WR} : kc1 c gA wk P X as e = wk e (kc2 c gA P X as) X := id rfl
theorem y_cl {P : Ar → En → Prop} {c : Ct} {as : List Ar} : kcl c P X as ⟨l, n⟩ = c as n (hold P l) X := id rfl
theorem y_Cs {P : Ar → En → Prop} {c : Ct} {wr : WR} : kCs (some c) wr P X e = wr e (kcl c P X) X := id rfl
theorem y_Rf2 {P : Ar → En → Prop} {okC : Addr → Prop} {w3 : WS} {wb : WE} {dk dv : PyData} : kRf2 okC w3 wb P dk dv ⟨l, n⟩ = wb ⟨l, n⟩ kNone (kRf3 okC w3 P dk dv l) := id rfl
theorem y_Rf1 {P : Ar → En → Prop} {okC : Addr → Prop} {w3 : WS} {wv wb : WE} {dk : PyData} : kRf1 okC w3 wv wb P X dk e = wv e (kRf2 okC w3 wb P dk) X := id rfl
theorem y_SAn {w2 : WS} : (kSeqA w2 A X).nx e = w2 A X e := id rfl
theorem y_SAr {w2 : WS} : (kSeqA w2 A X).rt = A.rt := id rfl
theorem y_SAb {w2 : WS} : (kSeqA w2 A X).bk = A.bk := id rfl
theorem y_SAc {w2 : WS} : (kSeqA w2 A X).ct = A.ct := id rfl
theorem y_Asg {wg : WG} {d : PyData} : kAsg wg A d e = wg d e A.nx := id rfl
theorem y_Ret {d : PyData} : kRet A d ⟨l, n⟩ = A.rt (.da d) n := id rfl
theorem y_Drop {d : PyData} : kDrop A d e = A.nx e := id rfl
theorem y_For {wg : WG} {wb : WS} {ds : List PyData} : kFor wg wb A X ds e = loop wg wb A X ds e := id rfl
theorem y_SqL {P : List PyData → En → Prop} {ds : List PyData} : kSeqI P (.list ds) e = P ds e := id rfl
theorem y_SqT {P : List PyData → En → Prop} {ds : List PyData} : kSeqI P (.tuple ds) e = P ds e := id rfl
theorem y_Rng1 {P : List PyData → En → Prop} {j : Int} : kRng1 P [.int j] e = (small62 j ∧ P (rng 0 j.toNat) e) := id rfl
theorem y_Rng2 {P : List PyData → En → Prop} {i j : Int} : kRng2 P [.int i, .int j] e = ((small62 i ∧ small62 j) ∧ P (rng i (j - i).toNat) e) := id rfl
theorem y_Rng3 {P : List PyData → En → Prop} {i j c : Int} : kRng3 P [.int i, .int j, .int c] e = ∃ n, RgC i j c n ∧ P (rngC i c n) e := id rfl
theorem y_Enum {P : List PyData → En → Prop} {ds : List PyData} : kEnum P [.list ds] e = P (enumD 0 ds) e := id rfl
theorem y_Zip {P : List PyData → En → Prop} {xs ys : List PyData} : kZip P [.list xs, .list ys] e = P (zipD xs ys) e := id rfl
theorem y_Par {i j : Nat} {x y : PyData} : kPar i j A [x, y] ⟨l, n⟩ = A.nx ⟨(l.set i (.da x)).set j (.da y), n⟩ := id rfl
theorem y_SetX {i : Nat} {r : Ar} : kSetX i A r ⟨l, n⟩ = A.nx ⟨l.set i r.sl, n⟩ := id rfl
theorem y_RetX {r : Ar} : kRetX A r ⟨l, n⟩ = A.rt r n := id rfl
theorem y_SetOw {i : Nat} {ds : List PyData} : kSetOw i A ds ⟨l, n⟩ = A.nx ⟨l.set i (.ow ds), n⟩ := id rfl
theorem y_Aug2 {i : Nat} {z : PyData} : kAug2 i A ⟨l, n⟩ z = A.nx ⟨l.set i (.da z), n⟩ := id rfl
theorem y_Aug {i : Nat} {d y : PyData} {f : PyData → PyData → (PyData → Prop) → Prop} : kAug i f A d y e = f d y (kAug2 i A e) := id rfl
theorem y_Raise {C : Addr} {d : PyData} : kRaise C X d ⟨l, n⟩ = X C d n := id rfl
theorem y_ErIs {P : PE'} {b : Bool} : kErIs (some b) P e = P (.bool b) e := id rfl
theorem y_Lc {vs : List Nat} {wg : WG} {wt : WT} {we : WE} {ds : List PyData} {P : List PyData → En → Prop} : kLc vs wg wt we P ds ⟨l, n⟩ = (ds.length ≤ 1000000 ∧ lcLoop vs wg wt we P X00 ds [] ⟨vs.foldr (fun v s => s.set v .un) l, n⟩) := id rfl
theorem y_wipe {vs : List Nat} : En.wipe ⟨l, n⟩ vs = ⟨vs.foldr (fun v s => s.set v .un) l, n⟩ := id rfl
theorem y_set {i : Nat} {s : Sl} : En.set ⟨l, n⟩ i s = ⟨l.set i s, n⟩ := id rfl
theorem y_G {r : List PyData → En → (En → Prop) → Prop} {ds : List PyData} {P : En → Prop} : kG r ds P e = r ds e P := id rfl
theorem y_outN {P : Ar → Nat → Prop} : (outA P).nx ⟨l, n⟩ = P (.da .none) n := id rfl
theorem y_outD {P : Ar → Nat → Prop} {d : PyData} : (outA P).rt (.da d) n = P (.da d) n := id rfl
theorem y_outG {P : Ar → Nat → Prop} : (outA P).rt .ge n = P .ge n := id rfl
def kLcE (N : List PyData → En → Prop) (acc : List PyData) (vs : List Nat) (y : PyData) (e : En) : Prop := N (acc ++ [y]) (e.wipe vs)
def kLcT (N : List PyData → En → Prop) (acc : List PyData) (vs : List Nat) (we : WE) (X : XP) (b : Bool) (e : En) : Prop := (b = true → we e (kLcE N acc vs) X) ∧ (b = false → N acc (e.wipe vs))
def kLcG (N : List PyData → En → Prop) (acc : List PyData) (vs : List Nat) (wt : WT) (we : WE) (X : XP) (e : En) : Prop := wt e (kLcT N acc vs we X) X
def kLpA (A : EV) (N : En → Prop) : EV := { nx := N, rt := A.rt, bk := A.nx, ct := N }
def kLp (wb : WS) (A : EV) (N : En → Prop) (X : XP) (e : En) : Prop := wb (kLpA A N) X e
theorem y_LcT1 {N : List PyData → En → Prop} {acc : List PyData} {vs : List Nat} {we : WE} : kLcT N acc vs we X true e = we e (kLcE N acc vs) X := by simp [kLcT]
theorem y_LcT0 {N : List PyData → En → Prop} {acc : List PyData} {vs : List Nat} {we : WE} : kLcT N acc vs we X false ⟨l, n⟩ = N acc ⟨vs.foldr (fun v s => s.set v .un) l, n⟩ := by simp [kLcT, En.wipe]
theorem klc {N : List PyData → En → Prop} {acc : List PyData} {vs : List Nat} {we : WE} {b : Bool} (h1 : b = true → we e (kLcE N acc vs) X) (h2 : b = false → N acc (e.wipe vs)) : kLcT N acc vs we X b e := ⟨h1, h2⟩
theorem lp_of {wg : WG} {wb : WS} (I : List PyData → En → Prop) (hend : ∀ e, I [] e → A.nx e)
    (step : ∀ d ds e (N : En → Prop), I (d :: ds) e → (∀ e, I ds e → N e) → wg d e (kLp wb A N X)) : ∀ ds e, I ds e → loop wg wb A X ds e := loop_of I hend step
theorem lcl_of {vs : List Nat} {wg : WG} {wt : WT} {we : WE} {P : List PyData → En → Prop} (I : List PyData → List PyData → En → Prop) (hend : ∀ acc e, I [] acc e → P acc e)
    (step : ∀ d ds acc e (N : List PyData → En → Prop), I (d :: ds) acc e → (∀ acc e, I ds acc e → N acc e) → wg d e (kLcG N acc vs wt we X)) : ∀ ds acc e, I ds acc e → lcLoop vs wg wt we P X ds acc e := lc_of I hend step
theorem lcg_of {vs : List Nat} {wg : WG} {wt : WT} {we : WE} {P : List PyData → En → Prop} (g : PyData → List PyData) (J : En → Prop) (ds0 : List PyData) (hP : ∀ e, J e → P (ds0.flatMap g) e)
    (step : ∀ d acc e (N : List PyData → En → Prop), d ∈ ds0 → J e → (∀ e, J e → N (acc ++ g d) e) → wg d e (kLcG N acc vs wt we X)) : ∀ e, J e → lcLoop vs wg wt we P X ds0 [] e := fun e he =>
  lcl_of (fun ds acc e => J e ∧ acc ++ ds.flatMap g = ds0.flatMap g ∧ ∀ d ∈ ds, d ∈ ds0) (fun acc e ⟨h1, h2, _⟩ => by
    rw [List.flatMap_nil, List.append_nil] at h2
    rw [h2]; exact hP e h1) (fun d ds acc e N ⟨h1, h2, h3⟩ hN => step d acc e N (h3 d (List.mem_cons_self ..)) h1 fun e he => hN _ _ ⟨he, by rw [← h2, List.flatMap_cons, List.append_assoc], fun x hx => h3 x (List.mem_cons_of_mem _ hx)⟩) _ _ _ ⟨he, List.nil_append _, fun _ h => h⟩
theorem lcm_of {vs : List Nat} {wg : WG} {wt : WT} {we : WE} {P : List PyData → En → Prop} (f : PyData → PyData) (J : En → Prop) (ds0 : List PyData) (hP : ∀ e, J e → P (ds0.map f) e)
    (step : ∀ d acc e (N : List PyData → En → Prop), d ∈ ds0 → J e → (∀ e, J e → N (acc ++ [f d]) e) → wg d e (kLcG N acc vs wt we X)) : ∀ e, J e → lcLoop vs wg wt we P X ds0 [] e :=
  lcg_of (fun d => [f d]) J ds0 (fun e he => by
    have h : ds0.flatMap (fun d => [f d]) = ds0.map f := by
      clear hP step
      induction ds0 with
      | nil => rfl
      | cons d ds ih => rw [List.flatMap_cons, ih, List.map_cons]; rfl
    rw [h]; exact hP e he) step
theorem y_LcE {N : List PyData → En → Prop} {acc : List PyData} {vs : List Nat} {y : PyData} : kLcE N acc vs y ⟨l, n⟩ = N (acc ++ [y]) ⟨vs.foldr (fun v s => s.set v .un) l, n⟩ := id rfl
theorem y_LcG {N : List PyData → En → Prop} {acc : List PyData} {vs : List Nat} {wt : WT} {we : WE} : kLcG N acc vs wt we X e = wt e (kLcT N acc vs we X) X := id rfl
theorem y_LpAn {N : En → Prop} : (kLpA A N).nx e = N e := id rfl
theorem y_LpAr {N : En → Prop} : (kLpA A N).rt = A.rt := id rfl
theorem y_LpAb {N : En → Prop} : (kLpA A N).bk = A.nx := id rfl
theorem y_LpAc {N : En → Prop} : (kLpA A N).ct e = N e := id rfl
theorem y_Lp {N : En → Prop} {wb : WS} : kLp wb A N X e = wb (kLpA A N) X e := id rfl
theorem z_C {P : PE'} {d : PyData} : wC d e P X = P d e := id rfl
theorem z_2 {P : PE'} {wa wb : WE} {f : PyData → PyData → (PyData → Prop) → Prop} : w2 f wa wb ⟨l, n⟩ P X = wa ⟨l, n⟩ (k2a f wb P X) X := id rfl
theorem z_1 {P : PE'} {wa : WE} {f : PyData → (PyData → Prop) → Prop} : w1 f wa ⟨l, n⟩ P X = wa ⟨l, n⟩ (k1 f P) X := id rfl
theorem z_Isi {P : PE'} {T : String} {wa : WE} : wIsi T wa ⟨l, n⟩ P X = wa ⟨l, n⟩ (k1 (fIsi T) P) X := id rfl
theorem z_B {P : Bool → En → Prop} {wa : WE} : wB wa ⟨l, n⟩ P X = wa ⟨l, n⟩ (kB P) X := id rfl
theorem z_Not {P : Bool → En → Prop} {wt : WT} : wNot wt ⟨l, n⟩ P X = wt ⟨l, n⟩ (kNot P) X := id rfl
theorem z_And {P : Bool → En → Prop} {wt wu : WT} : wAnd wt wu ⟨l, n⟩ P X = wt ⟨l, n⟩ (kAnd wu P X) X := id rfl
theorem z_Or {P : Bool → En → Prop} {wt wu : WT} : wOr wt wu ⟨l, n⟩ P X = wt ⟨l, n⟩ (kOr wu P X) X := id rfl
theorem z_AndV {P : PE'} {wa wb : WE} : wAndV wa wb ⟨l, n⟩ P X = wa ⟨l, n⟩ (kAndV wb P X) X := id rfl
theorem z_OrV {P : PE'} {wa wb : WE} : wOrV wa wb ⟨l, n⟩ P X = wa ⟨l, n⟩ (kOrV wb P X) X := id rfl
theorem z_NotV {P : PE'} {wa : WE} : wNotV wa ⟨l, n⟩ P X = wa ⟨l, n⟩ (kNotV P) X := id rfl
theorem z_IfE {P : PE'} {wt : WT} {wa wb : WE} : wIfE wt wa wb ⟨l, n⟩ P X = wt ⟨l, n⟩ (kIfE wa wb P X) X := id rfl
theorem z_Chain {P : PE'} {wa wb wc : WE} {f f' : PyData → PyData → (PyData → Prop) → Prop} : wChain f f' wa wb wc ⟨l, n⟩ P X = wa ⟨l, n⟩ (kCh1 f f' wb wc P X) X := id rfl
theorem z_Nil {P : List PyData → En → Prop} : wNil ⟨l, n⟩ P X = P [] ⟨l, n⟩ := id rfl
theorem z_Cons {P : List PyData → En → Prop} {we : WE} {wr : WA} : wCons we wr ⟨l, n⟩ P X = we ⟨l, n⟩ (kCons wr P X) X := id rfl
theorem z_Tup {P : PE'} {wa : WA} : wTup wa ⟨l, n⟩ P X = wa ⟨l, n⟩ (kTup P) X := id rfl
theorem z_Lst {P : PE'} {wa : WA} : wLst wa ⟨l, n⟩ P X = wa ⟨l, n⟩ (kLst P) X := id rfl
theorem z_CB {P : PE'} {wa : WA} {f : List PyData → (PyData → Prop) → Prop} : wCB f wa ⟨l, n⟩ P X = wa ⟨l, n⟩ (kCB f P) X := id rfl
theorem z_Sl {P : PE'} {wa : WE} {wl wh : WO} : wSl wa wl wh ⟨l, n⟩ P X = wa ⟨l, n⟩ (kSl1 wl wh P X) X := id rfl
theorem z_No {P : Option Int → En → Prop} : wNo e P X = P none e := id rfl
theorem z_Part {P : Option Int → En → Prop} {wa : WE} : wPart wa ⟨l, n⟩ P X = wa ⟨l, n⟩ (kPart P) X := id rfl
theorem z_xD {P : Ar → En → Prop} {wa : WE} : xD wa ⟨l, n⟩ P X = wa ⟨l, n⟩ (kxD P) X := id rfl
theorem z_xOp {P : Ar → En → Prop} {v : V} : xOp v e P X = P (.op v) e := id rfl
theorem z_D {P : PE'} {wx : WX'} : wD wx ⟨l, n⟩ P X = wx ⟨l, n⟩ (kD P) X := id rfl
theorem z_rNil {P : List Ar → En → Prop} : rNil e P X = P [] e := id rfl
theorem z_rCons {P : List Ar → En → Prop} {wx : WX'} {wr : WR} : rCons wx wr ⟨l, n⟩ P X = wx ⟨l, n⟩ (kr1 wr P X) X := id rfl
theorem z_Call {P : Ar → En → Prop} {c : Ct} {gA : List Ar → List Ar → List Ar} {wr wk : WR} : wCall c gA wr wk ⟨l, n⟩ P X = wr ⟨l, n⟩ (kc1 c gA wk P X) X := id rfl
theorem z_Ref {P : Ar → En → Prop} {okC : Addr → Prop} {w3 : WS} {wk wv wb : WE} : wRef okC w3 wk wv wb ⟨l, n⟩ P X = wk ⟨l, n⟩ (kRf1 okC w3 wv wb P X) X := id rfl
theorem z_Seq {w1 w2 : WS} : wSeq w1 w2 A X ⟨l, n⟩ = w1 (kSeqA w2 A X) X ⟨l, n⟩ := id rfl
theorem z_Next  : wNext A X e = A.nx e := id rfl
theorem z_Brk  : wBrk A X e = A.bk e := id rfl
theorem z_Cont  : wCont A X e = A.ct e := id rfl
theorem z_Ret {wa : WE} : wRet wa A X ⟨l, n⟩ = wa ⟨l, n⟩ (kRet A) X := id rfl
theorem z_RetN  : wRetN A X ⟨l, n⟩ = A.rt (.da .none) n := id rfl
theorem z_Drop {wa : WE} : wDrop wa A X ⟨l, n⟩ = wa ⟨l, n⟩ (kDrop A) X := id rfl
theorem z_If {wt : WT} {w1 w2 : WS} : wIf wt w1 w2 A X ⟨l, n⟩ = wt ⟨l, n⟩ (kIf w1 w2 A X) X := id rfl
theorem z_Asg {wa : WE} {wg : WG} : wAsg wa wg A X ⟨l, n⟩ = wa ⟨l, n⟩ (kAsg wg A) X := id rfl
theorem z_gN {i : Nat} {d : PyData} {P : En → Prop} : gN i d ⟨l, n⟩ P = P ⟨l.set i (.da d), n⟩ := id rfl
theorem z_gNone {P : En → Prop} : gNone [] e P = P e := id rfl
theorem z_gMore {P : En → Prop} {g : WG} {r : List PyData → En → (En → Prop) → Prop} {d : PyData} {ds : List PyData} : gMore g r (d :: ds) e P = g d e (kG r ds P) := id rfl
theorem z_gT {P : En → Prop} {gs : List PyData → En → (En → Prop) → Prop} {ds : List PyData} : gT gs (.tuple ds) e P = gs ds e P := id rfl
theorem z_gTl {P : En → Prop} {gs : List PyData → En → (En → Prop) → Prop} {ds : List PyData} : gT gs (.list ds) e P = gs ds e P := id rfl
theorem z_For {wi : WA} {wg : WG} {wb : WS} : wFor wi wg wb A X ⟨l, n⟩ = wi ⟨l, n⟩ (kFor wg wb A X) X := id rfl
theorem z_SeqI {P : List PyData → En → Prop} {wa : WE} : wSeqI wa ⟨l, n⟩ P X = wa ⟨l, n⟩ (kSeqI P) X := id rfl
theorem z_Rng1 {P : List PyData → En → Prop} {wa : WA} : wRng1 wa ⟨l, n⟩ P X = wa ⟨l, n⟩ (kRng1 P) X := id rfl
theorem z_Rng2 {P : List PyData → En → Prop} {wa : WA} : wRng2 wa ⟨l, n⟩ P X = wa ⟨l, n⟩ (kRng2 P) X := id rfl
theorem z_Rng3 {P : List PyData → En → Prop} {wa : WA} : wRng3 wa ⟨l, n⟩ P X = wa ⟨l, n⟩ (kRng3 P) X := id rfl
theorem z_Enum {P : List PyData → En → Prop} {wa : WA} : wEnum wa ⟨l, n⟩ P X = wa ⟨l, n⟩ (kEnum P) X := id rfl
theorem z_Zip {P : List PyData → En → Prop} {wa : WA} : wZip wa ⟨l, n⟩ P X = wa ⟨l, n⟩ (kZip P) X := id rfl
theorem z_Par {i j : Nat} {wa : WA} : wPar i j wa A X ⟨l, n⟩ = wa ⟨l, n⟩ (kPar i j A) X := id rfl
theorem z_SetX {i : Nat} {wx : WX'} : wSetX i wx A X ⟨l, n⟩ = wx ⟨l, n⟩ (kSetX i A) X := id rfl
theorem z_RetX {wx : WX'} : wRetX wx A X ⟨l, n⟩ = wx ⟨l, n⟩ (kRetX A) X := id rfl
theorem z_SetOw {i : Nat} {wa : WA} : wSetOw i wa A X ⟨l, n⟩ = wa ⟨l, n⟩ (kSetOw i A) X := id rfl
theorem z_Raise {C : Addr} {wa : WE} : wRaise C wa A X ⟨l, n⟩ = wa ⟨l, n⟩ (kRaise C X) X := id rfl
theorem z_Yes {P : Bool → En → Prop} : wYes e P X = P true e := id rfl
theorem z_Lc {P : List PyData → En → Prop} {vs : List Nat} {wi : WA} {wg : WG} {wt : WT} {we : WE} : wLc vs wi wg wt we ⟨l, n⟩ P X = wi ⟨l, n⟩ (kLc vs wg wt we P) X := id rfl
theorem z_N0 {P : PE'} {d : PyData} : wN 0 ⟨.da d :: l, n⟩ P X = P d ⟨.da d :: l, n⟩ := id rfl
theorem z_N1 {a0 : Sl} {P : PE'} {d : PyData} : wN 1 ⟨a0 :: .da d :: l, n⟩ P X = P d ⟨a0 :: .da d :: l, n⟩ := id rfl
theorem z_N2 {a0 a1 : Sl} {P : PE'} {d : PyData} : wN 2 ⟨a0 :: a1 :: .da d :: l, n⟩ P X = P d ⟨a0 :: a1 :: .da d :: l, n⟩ := id rfl
theorem z_N3 {a0 a1 a2 : Sl} {P : PE'} {d : PyData} : wN 3 ⟨a0 :: a1 :: a2 :: .da d :: l, n⟩ P X = P d ⟨a0 :: a1 :: a2 :: .da d :: l, n⟩ := id rfl
theorem z_N4 {a0 a1 a2 a3 : Sl} {P : PE'} {d : PyData} : wN 4 ⟨a0 :: a1 :: a2 :: a3 :: .da d :: l, n⟩ P X = P d ⟨a0 :: a1 :: a2 :: a3 :: .da d :: l, n⟩ := id rfl
theorem z_N5 {a0 a1 a2 a3 a4 : Sl} {P : PE'} {d : PyData} : wN 5 ⟨a0 :: a1 :: a2 :: a3 :: a4 :: .da d :: l, n⟩ P X = P d ⟨a0 :: a1 :: a2 :: a3 :: a4 :: .da d :: l, n⟩ := id rfl
theorem z_N6 {a0 a1 a2 a3 a4 a5 : Sl} {P : PE'} {d : PyData} : wN 6 ⟨a0 :: a1 :: a2 :: a3 :: a4 :: a5 :: .da d :: l, n⟩ P X = P d ⟨a0 :: a1 :: a2 :: a3 :: a4 :: a5 :: .da d :: l, n⟩ := id rfl
theorem z_N7 {a0 a1 a2 a3 a4 a5 a6 : Sl} {P : PE'} {d : PyData} : wN 7 ⟨a0 :: a1 :: a2 :: a3 :: a4 :: a5 :: a6 :: .da d :: l, n⟩ P X = P d ⟨a0 :: a1 :: a2 :: a3 :: a4 :: a5 :: a6 :: .da d :: l, n⟩ := id rfl
theorem z_N8 {a0 a1 a2 a3 a4 a5 a6 a7 : Sl} {P : PE'} {d : PyData} : wN 8 ⟨a0 :: a1 :: a2 :: a3 :: a4 :: a5 :: a6 :: a7 :: .da d :: l, n⟩ P X = P d ⟨a0 :: a1 :: a2 :: a3 :: a4 :: a5 :: a6 :: a7 :: .da d :: l, n⟩ := id rfl
theorem z_N9 {a0 a1 a2 a3 a4 a5 a6 a7 a8 : Sl} {P : PE'} {d : PyData} : wN 9 ⟨a0 :: a1 :: a2 :: a3 :: a4 :: a5 :: a6 :: a7 :: a8 :: .da d :: l, n⟩ P X = P d ⟨a0 :: a1 :: a2 :: a3 :: a4 :: a5 :: a6 :: a7 :: a8 :: .da d :: l, n⟩ := id rfl
theorem z_N10 {a0 a1 a2 a3 a4 a5 a6 a7 a8 a9 : Sl} {P : PE'} {d : PyData} : wN 10 ⟨a0 :: a1 :: a2 :: a3 :: a4 :: a5 :: a6 :: a7 :: a8 :: a9 :: .da d :: l, n⟩ P X = P d ⟨a0 :: a1 :: a2 :: a3 :: a4 :: a5 :: a6 :: a7 :: a8 :: a9 :: .da d :: l, n⟩ := id rfl
theorem z_N11 {a0 a1 a2 a3 a4 a5 a6 a7 a8 a9 a10 : Sl} {P : PE'} {d : PyData} : wN 11 ⟨a0 :: a1 :: a2 :: a3 :: a4 :: a5 :: a6 :: a7 :: a8 :: a9 :: a10 :: .da d :: l, n⟩ P X = P d ⟨a0 :: a1 :: a2 :: a3 :: a4 :: a5 :: a6 :: a7 :: a8 :: a9 :: a10 :: .da d :: l, n⟩ := id rfl
theorem z_N12 {a0 a1 a2 a3 a4 a5 a6 a7 a8 a9 a10 a11 : Sl} {P : PE'} {d : PyData} : wN 12 ⟨a0 :: a1 :: a2 :: a3 :: a4 :: a5 :: a6 :: a7 :: a8 :: a9 :: a10 :: a11 :: .da d :: l, n⟩ P X = P d ⟨a0 :: a1 :: a2 :: a3 :: a4 :: a5 :: a6 :: a7 :: a8 :: a9 :: a10 :: a11 :: .da d :: l, n⟩ := id rfl
theorem z_N13 {a0 a1 a2 a3 a4 a5 a6 a7 a8 a9 a10 a11 a12 : Sl} {P : PE'} {d : PyData} : wN 13 ⟨a0 :: a1 :: a2 :: a3 :: a4 :: a5 :: a6 :: a7 :: a8 :: a9 :: a10 :: a11 :: a12 :: .da d :: l, n⟩ P X = P d ⟨a0 :: a1 :: a2 :: a3 :: a4 :: a5 :: a6 :: a7 :: a8 :: a9 :: a10 :: a11 :: a12 :: .da d :: l, n⟩ := id rfl
theorem z_N14 {a0 a1 a2 a3 a4 a5 a6 a7 a8 a9 a10 a11 a12 a13 : Sl} {P : PE'} {d : PyData} : wN 14 ⟨a0 :: a1 :: a2 :: a3 :: a4 :: a5 :: a6 :: a7 :: a8 :: a9 :: a10 :: a11 :: a12 :: a13 :: .da d :: l, n⟩ P X = P d ⟨a0 :: a1 :: a2 :: a3 :: a4 :: a5 :: a6 :: a7 :: a8 :: a9 :: a10 :: a11 :: a12 :: a13 :: .da d :: l, n⟩ := id rfl
theorem z_N15 {a0 a1 a2 a3 a4 a5 a6 a7 a8 a9 a10 a11 a12 a13 a14 : Sl} {P : PE'} {d : PyData} : wN 15 ⟨a0 :: a1 :: a2 :: a3 :: a4 :: a5 :: a6 :: a7 :: a8 :: a9 :: a10 :: a11 :: a12 :: a13 :: a14 :: .da d :: l, n⟩ P X = P d ⟨a0 :: a1 :: a2 :: a3 :: a4 :: a5 :: a6 :: a7 :: a8 :: a9 :: a10 :: a11 :: a12 :: a13 :: a14 :: .da d :: l, n⟩ := id rfl
theorem z_N16 {a0 a1 a2 a3 a4 a5 a6 a7 a8 a9 a10 a11 a12 a13 a14 a15 : Sl} {P : PE'} {d : PyData} : wN 16 ⟨a0 :: a1 :: a2 :: a3 :: a4 :: a5 :: a6 :: a7 :: a8 :: a9 :: a10 :: a11 :: a12 :: a13 :: a14 :: a15 :: .da d :: l, n⟩ P X = P d ⟨a0 :: a1 :: a2 :: a3 :: a4 :: a5 :: a6 :: a7 :: a8 :: a9 :: a10 :: a11 :: a12 :: a13 :: a14 :: a15 :: .da d :: l, n⟩ := id rfl
theorem z_N17 {a0 a1 a2 a3 a4 a5 a6 a7 a8 a9 a10 a11 a12 a13 a14 a15 a16 : Sl} {P : PE'} {d : PyData} : wN 17 ⟨a0 :: a1 :: a2 :: a3 :: a4 :: a5 :: a6 :: a7 :: a8 :: a9 :: a10 :: a11 :: a12 :: a13 :: a14 :: a15 :: a16 :: .da d :: l, n⟩ P X = P d ⟨a0 :: a1 :: a2 :: a3 :: a4 :: a5 :: a6 :: a7 :: a8 :: a9 :: a10 :: a11 :: a12 :: a13 :: a14 :: a15 :: a16 :: .da d :: l, n⟩ := id rfl
theorem z_N18 {a0 a1 a2 a3 a4 a5 a6 a7 a8 a9 a10 a11 a12 a13 a14 a15 a16 a17 : Sl} {P : PE'} {d : PyData} : wN 18 ⟨a0 :: a1 :: a2 :: a3 :: a4 :: a5 :: a6 :: a7 :: a8 :: a9 :: a10 :: a11 :: a12 :: a13 :: a14 :: a15 :: a16 :: a17 :: .da d :: l, n⟩ P X = P d ⟨a0 :: a1 :: a2 :: a3 :: a4 :: a5 :: a6 :: a7 :: a8 :: a9 :: a10 :: a11 :: a12 :: a13 :: a14 :: a15 :: a16 :: a17 :: .da d :: l, n⟩ := id rfl
theorem z_N19 {a0 a1 a2 a3 a4 a5 a6 a7 a8 a9 a10 a11 a12 a13 a14 a15 a16 a17 a18 : Sl} {P : PE'} {d : PyData} : wN 19 ⟨a0 :: a1 :: a2 :: a3 :: a4 :: a5 :: a6 :: a7 :: a8 :: a9 :: a10 :: a11 :: a12 :: a13 :: a14 :: a15 :: a16 :: a17 :: a18 :: .da d :: l, n⟩ P X = P d ⟨a0 :: a1 :: a2 :: a3 :: a4 :: a5 :: a6 :: a7 :: a8 :: a9 :: a10 :: a11 :: a12 :: a13 :: a14 :: a15 :: a16 :: a17 :: a18 :: .da d :: l, n⟩ := id rfl
theorem z_N20 {a0 a1 a2 a3 a4 a5 a6 a7 a8 a9 a10 a11 a12 a13 a14 a15 a16 a17 a18 a19 : Sl} {P : PE'} {d : PyData} : wN 20 ⟨a0 :: a1 :: a2 :: a3 :: a4 :: a5 :: a6 :: a7 :: a8 :: a9 :: a10 :: a11 :: a12 :: a13 :: a14 :: a15 :: a16 :: a17 :: a18 :: a19 :: .da d :: l, n⟩ P X = P d ⟨a0 :: a1 :: a2 :: a3 :: a4 :: a5 :: a6 :: a7 :: a8 :: a9 :: a10 :: a11 :: a12 :: a13 :: a14 :: a15 :: a16 :: a17 :: a18 :: a19 :: .da d :: l, n⟩ := id rfl
theorem z_N21 {a0 a1 a2 a3 a4 a5 a6 a7 a8 a9 a10 a11 a12 a13 a14 a15 a16 a17 a18 a19 a20 : Sl} {P : PE'} {d : PyData} : wN 21 ⟨a0 :: a1 :: a2 :: a3 :: a4 :: a5 :: a6 :: a7 :: a8 :: a9 :: a10 :: a11 :: a12 :: a13 :: a14 :: a15 :: a16 :: a17 :: a18 :: a19 :: a20 :: .da d :: l, n⟩ P X = P d ⟨a0 :: a1 :: a2 :: a3 :: a4 :: a5 :: a6 :: a7 :: a8 :: a9 :: a10 :: a11 :: a12 :: a13 :: a14 :: a15 :: a16 :: a17 :: a18 :: a19 :: a20 :: .da d :: l, n⟩ := id rfl
theorem z_N22 {a0 a1 a2 a3 a4 a5 a6 a7 a8 a9 a10 a11 a12 a13 a14 a15 a16 a17 a18 a19 a20 a21 : Sl} {P : PE'} {d : PyData} : wN 22 ⟨a0 :: a1 :: a2 :: a3 :: a4 :: a5 :: a6 :: a7 :: a8 :: a9 :: a10 :: a11 :: a12 :: a13 :: a14 :: a15 :: a16 :: a17 :: a18 :: a19 :: a20 :: a21 :: .da d :: l, n⟩ P X = P d ⟨a0 :: a1 :: a2 :: a3 :: a4 :: a5 :: a6 :: a7 :: a8 :: a9 :: a10 :: a11 :: a12 :: a13 :: a14 :: a15 :: a16 :: a17 :: a18 :: a19 :: a20 :: a21 :: .da d :: l, n⟩ := id rfl
theorem z_N23 {a0 a1 a2 a3 a4 a5 a6 a7 a8 a9 a10 a11 a12 a13 a14 a15 a16 a17 a18 a19 a20 a21 a22 : Sl} {P : PE'} {d : PyData} : wN 23 ⟨a0 :: a1 :: a2 :: a3 :: a4 :: a5 :: a6 :: a7 :: a8 :: a9 :: a10 :: a11 :: a12 :: a13 :: a14 :: a15 :: a16 :: a17 :: a18 :: a19 :: a20 :: a21 :: a22 :: .da d :: l, n⟩ P X = P d ⟨a0 :: a1 :: a2 :: a3 :: a4 :: a5 :: a6 :: a7 :: a8 :: a9 :: a10 :: a11 :: a12 :: a13 :: a14 :: a15 :: a16 :: a17 :: a18 :: a19 :: a20 :: a21 :: a22 :: .da d :: l, n⟩ := id rfl
theorem z_N24 {a0 a1 a2 a3 a4 a5 a6 a7 a8 a9 a10 a11 a12 a13 a14 a15 a16 a17 a18 a19 a20 a21 a22 a23 : Sl} {P : PE'} {d : PyData} : wN 24 ⟨a0 :: a1 :: a2 :: a3 :: a4 :: a5 :: a6 :: a7 :: a8 :: a9 :: a10 :: a11 :: a12 :: a13 :: a14 :: a15 :: a16 :: a17 :: a18 :: a19 :: a20 :: a21 :: a22 :: a23 :: .da d :: l, n⟩ P X = P d ⟨a0 :: a1 :: a2 :: a3 :: a4 :: a5 :: a6 :: a7 :: a8 :: a9 :: a10 :: a11 :: a12 :: a13 :: a14 :: a15 :: a16 :: a17 :: a18 :: a19 :: a20 :: a21 :: a22 :: a23 :: .da d :: l, n⟩ := id rfl
theorem z_N25 {a0 a1 a2 a3 a4 a5 a6 a7 a8 a9 a10 a11 a12 a13 a14 a15 a16 a17 a18 a19 a20 a21 a22 a23 a24 : Sl} {P : PE'} {d : PyData} : wN 25 ⟨a0 :: a1 :: a2 :: a3 :: a4 :: a5 :: a6 :: a7 :: a8 :: a9 :: a10 :: a11 :: a12 :: a13 :: a14 :: a15 :: a16 :: a17 :: a18 :: a19 :: a20 :: a21 :: a22 :: a23 :: a24 :: .da d :: l, n⟩ P X = P d ⟨a0 :: a1 :: a2 :: a3 :: a4 :: a5 :: a6 :: a7 :: a8 :: a9 :: a10 :: a11 :: a12 :: a13 :: a14 :: a15 :: a16 :: a17 :: a18 :: a19 :: a20 :: a21 :: a22 :: a23 :: a24 :: .da d :: l, n⟩ := id rfl
theorem z_No0 {P : PE'} {ds : List PyData} : wN 0 ⟨.ow ds :: l, n⟩ P X = P (.list ds) ⟨.da (.list ds) :: l, n⟩ := id rfl
theorem z_No1 {a0 : Sl} {P : PE'} {ds : List PyData} : wN 1 ⟨a0 :: .ow ds :: l, n⟩ P X = P (.list ds) ⟨a0 :: .da (.list ds) :: l, n⟩ := id rfl
theorem z_No2 {a0 a1 : Sl} {P : PE'} {ds : List PyData} : wN 2 ⟨a0 :: a1 :: .ow ds :: l, n⟩ P X = P (.list ds) ⟨a0 :: a1 :: .da (.list ds) :: l, n⟩ := id rfl
theorem z_No3 {a0 a1 a2 : Sl} {P : PE'} {ds : List PyData} : wN 3 ⟨a0 :: a1 :: a2 :: .ow ds :: l, n⟩ P X = P (.list ds) ⟨a0 :: a1 :: a2 :: .da (.list ds) :: l, n⟩ := id rfl
theorem z_No4 {a0 a1 a2 a3 : Sl} {P : PE'} {ds : List PyData} : wN 4 ⟨a0 :: a1 :: a2 :: a3 :: .ow ds :: l, n⟩ P X = P (.list ds) ⟨a0 :: a1 :: a2 :: a3 :: .da (.list ds) :: l, n⟩ := id rfl
theorem z_No5 {a0 a1 a2 a3 a4 : Sl} {P : PE'} {ds : List PyData} : wN 5 ⟨a0 :: a1 :: a2 :: a3 :: a4 :: .ow ds :: l, n⟩ P X = P (.list ds) ⟨a0 :: a1 :: a2 :: a3 :: a4 :: .da (.list ds) :: l, n⟩ := id rfl
theorem z_No6 {a0 a1 a2 a3 a4 a5 : Sl} {P : PE'} {ds : List PyData} : wN 6 ⟨a0 :: a1 :: a2 :: a3 :: a4 :: a5 :: .ow ds :: l, n⟩ P X = P (.list ds) ⟨a0 :: a1 :: a2 :: a3 :: a4 :: a5 :: .da (.list ds) :: l, n⟩ := id rfl
theorem z_No7 {a0 a1 a2 a3 a4 a5 a6 : Sl} {P : PE'} {ds : List PyData} : wN 7 ⟨a0 :: a1 :: a2 :: a3 :: a4 :: a5 :: a6 :: .ow ds :: l, n⟩ P X = P (.list ds) ⟨a0 :: a1 :: a2 :: a3 :: a4 :: a5 :: a6 :: .da (.list ds) :: l, n⟩ := id rfl
theorem z_No8 {a0 a1 a2 a3 a4 a5 a6 a7 : Sl} {P : PE'} {ds : List PyData} : wN 8 ⟨a0 :: a1 :: a2 :: a3 :: a4 :: a5 :: a6 :: a7 :: .ow ds :: l, n⟩ P X = P (.list ds) ⟨a0 :: a1 :: a2 :: a3 :: a4 :: a5 :: a6 :: a7 :: .da (.list ds) :: l, n⟩ := id rfl
theorem z_No9 {a0 a1 a2 a3 a4 a5 a6 a7 a8 : Sl} {P : PE'} {ds : List PyData} : wN 9 ⟨a0 :: a1 :: a2 :: a3 :: a4 :: a5 :: a6 :: a7 :: a8 :: .ow ds :: l, n⟩ P X = P (.list ds) ⟨a0 :: a1 :: a2 :: a3 :: a4 :: a5 :: a6 :: a7 :: a8 :: .da (.list ds) :: l, n⟩ := id rfl
theorem z_No10 {a0 a1 a2 a3 a4 a5 a6 a7 a8 a9 : Sl} {P : PE'} {ds : List PyData} : wN 10 ⟨a0 :: a1 :: a2 :: a3 :: a4 :: a5 :: a6 :: a7 :: a8 :: a9 :: .ow ds :: l, n⟩ P X = P (.list ds) ⟨a0 :: a1 :: a2 :: a3 :: a4 :: a5 :: a6 :: a7 :: a8 :: a9 :: .da (.list ds) :: l, n⟩ := id rfl
theorem z_No11 {a0 a1 a2 a3 a4 a5 a6 a7 a8 a9 a10 : Sl} {P : PE'} {ds : List PyData} : wN 11 ⟨a0 :: a1 :: a2 :: a3 :: a4 :: a5 :: a6 :: a7 :: a8 :: a9 :: a10 :: .ow ds :: l, n⟩ P X = P (.list ds) ⟨a0 :: a1 :: a2 :: a3 :: a4 :: a5 :: a6 :: a7 :: a8 :: a9 :: a10 :: .da (.list ds) :: l, n⟩ := id rfl
theorem z_No12 {a0 a1 a2 a3 a4 a5 a6 a7 a8 a9 a10 a11 : Sl} {P : PE'} {ds : List PyData} : wN 12 ⟨a0 :: a1 :: a2 :: a3 :: a4 :: a5 :: a6 :: a7 :: a8 :: a9 :: a10 :: a11 :: .ow ds :: l, n⟩ P X = P (.list ds) ⟨a0 :: a1 :: a2 :: a3 :: a4 :: a5 :: a6 :: a7 :: a8 :: a9 :: a10 :: a11 :: .da (.list ds) :: l, n⟩ := id rfl
theorem z_No13 {a0 a1 a2 a3 a4 a5 a6 a7 a8 a9 a10 a11 a12 : Sl} {P : PE'} {ds : List PyData} : wN 13 ⟨a0 :: a1 :: a2 :: a3 :: a4 :: a5 :: a6 :: a7 :: a8 :: a9 :: a10 :: a11 :: a12 :: .ow ds :: l, n⟩ P X = P (.list ds) ⟨a0 :: a1 :: a2 :: a3 :: a4 :: a5 :: a6 :: a7 :: a8 :: a9 :: a10 :: a11 :: a12 :: .da (.list ds) :: l, n⟩ := id rfl
theorem z_No14 {a0 a1 a2 a3 a4 a5 a6 a7 a8 a9 a10 a11 a12 a13 : Sl} {P : PE'} {ds : List PyData} : wN 14 ⟨a0 :: a1 :: a2 :: a3 :: a4 :: a5 :: a6 :: a7 :: a8 :: a9 :: a10 :: a11 :: a12 :: a13 :: .ow ds :: l, n⟩ P X = P (.list ds) ⟨a0 :: a1 :: a2 :: a3 :: a4 :: a5 :: a6 :: a7 :: a8 :: a9 :: a10 :: a11 :: a12 :: a13 :: .da (.list ds) :: l, n⟩ := id rfl
theorem z_No15 {a0 a1 a2 a3 a4 a5 a6 a7 a8 a9 a10 a11 a12 a13 a14 : Sl} {P : PE'} {ds : List PyData} : wN 15 ⟨a0 :: a1 :: a2 :: a3 :: a4 :: a5 :: a6 :: a7 :: a8 :: a9 :: a10 :: a11 :: a12 :: a13 :: a14 :: .ow ds :: l, n⟩ P X = P (.list ds) ⟨a0 :: a1 :: a2 :: a3 :: a4 :: a5 :: a6 :: a7 :: a8 :: a9 :: a10 :: a11 :: a12 :: a13 :: a14 :: .da (.list ds) :: l, n⟩ := id rfl
theorem z_No16 {a0 a1 a2 a3 a4 a5 a6 a7 a8 a9 a10 a11 a12 a13 a14 a15 : Sl} {P : PE'} {ds : List PyData} : wN 16 ⟨a0 :: a1 :: a2 :: a3 :: a4 :: a5 :: a6 :: a7 :: a8 :: a9 :: a10 :: a11 :: a12 :: a13 :: a14 :: a15 :: .ow ds :: l, n⟩ P X = P (.list ds) ⟨a0 :: a1 :: a2 :: a3 :: a4 :: a5 :: a6 :: a7 :: a8 :: a9 :: a10 :: a11 :: a12 :: a13 :: a14 :: a15 :: .da (.list ds) :: l, n⟩ := id rfl
theorem z_No17 {a0 a1 a2 a3 a4 a5 a6 a7 a8 a9 a10 a11 a12 a13 a14 a15 a16 : Sl} {P : PE'} {ds : List PyData} : wN 17 ⟨a0 :: a1 :: a2 :: a3 :: a4 :: a5 :: a6 :: a7 :: a8 :: a9 :: a10 :: a11 :: a12 :: a13 :: a14 :: a15 :: a16 :: .ow ds :: l, n⟩ P X = P (.list ds) ⟨a0 :: a1 :: a2 :: a3 :: a4 :: a5 :: a6 :: a7 :: a8 :: a9 :: a10 :: a11 :: a12 :: a13 :: a14 :: a15 :: a16 :: .da (.list ds) :: l, n⟩ := id rfl
theorem z_No18 {a0 a1 a2 a3 a4 a5 a6 a7 a8 a9 a10 a11 a12 a13 a14 a15 a16 a17 : Sl} {P : PE'} {ds : List PyData} : wN 18 ⟨a0 :: a1 :: a2 :: a3 :: a4 :: a5 :: a6 :: a7 :: a8 :: a9 :: a10 :: a11 :: a12 :: a13 :: a14 :: a15 :: a16 :: a17 :: .ow ds :: l, n⟩ P X = P (.list ds) ⟨a0 :: a1 :: a2 :: a3 :: a4 :: a5 :: a6 :: a7 :: a8 :: a9 :: a10 :: a11 :: a12 :: a13 :: a14 :: a15 :: a16 :: a17 :: .da (.list ds) :: l, n⟩ := id rfl
theorem z_No19 {a0 a1 a2 a3 a4 a5 a6 a7 a8 a9 a10 a11 a12 a13 a14 a15 a16 a17 a18 : Sl} {P : PE'} {ds : List PyData} : wN 19 ⟨a0 :: a1 :: a2 :: a3 :: a4 :: a5 :: a6 :: a7 :: a8 :: a9 :: a10 :: a11 :: a12 :: a13 :: a14 :: a15 :: a16 :: a17 :: a18 :: .ow ds :: l, n⟩ P X = P (.list ds) ⟨a0 :: a1 :: a2 :: a3 :: a4 :: a5 :: a6 :: a7 :: a8 :: a9 :: a10 :: a11 :: a12 :: a13 :: a14 :: a15 :: a16 :: a17 :: a18 :: .da (.list ds) :: l, n⟩ := id rfl
theorem z_No20 {a0 a1 a2 a3 a4 a5 a6 a7 a8 a9 a10 a11 a12 a13 a14 a15 a16 a17 a18 a19 : Sl} {P : PE'} {ds : List PyData} : wN 20 ⟨a0 :: a1 :: a2 :: a3 :: a4 :: a5 :: a6 :: a7 :: a8 :: a9 :: a10 :: a11 :: a12 :: a13 :: a14 :: a15 :: a16 :: a17 :: a18 :: a19 :: .ow ds :: l, n⟩ P X = P (.list ds) ⟨a0 :: a1 :: a2 :: a3 :: a4 :: a5 :: a6 :: a7 :: a8 :: a9 :: a10 :: a11 :: a12 :: a13 :: a14 :: a15 :: a16 :: a17 :: a18 :: a19 :: .da (.list ds) :: l, n⟩ := id rfl
theorem z_No21 {a0 a1 a2 a3 a4 a5 a6 a7 a8 a9 a10 a11 a12 a13 a14 a15 a16 a17 a18 a19 a20 : Sl} {P : PE'} {ds : List PyData} : wN 21 ⟨a0 :: a1 :: a2 :: a3 :: a4 :: a5 :: a6 :: a7 :: a8 :: a9 :: a10 :: a11 :: a12 :: a13 :: a14 :: a15 :: a16 :: a17 :: a18 :: a19 :: a20 :: .ow ds :: l, n⟩ P X = P (.list ds) ⟨a0 :: a1 :: a2 :: a3 :: a4 :: a5 :: a6 :: a7 :: a8 :: a9 :: a10 :: a11 :: a12 :: a13 :: a14 :: a15 :: a16 :: a17 :: a18 :: a19 :: a20 :: .da (.list ds) :: l, n⟩ := id rfl
theorem z_No22 {a0 a1 a2 a3 a4 a5 a6 a7 a8 a9 a10 a11 a12 a13 a14 a15 a16 a17 a18 a19 a20 a21 : Sl} {P : PE'} {ds : List PyData} : wN 22 ⟨a0 :: a1 :: a2 :: a3 :: a4 :: a5 :: a6 :: a7 :: a8 :: a9 :: a10 :: a11 :: a12 :: a13 :: a14 :: a15 :: a16 :: a17 :: a18 :: a19 :: a20 :: a21 :: .ow ds :: l, n⟩ P X = P (.list ds) ⟨a0 :: a1 :: a2 :: a3 :: a4 :: a5 :: a6 :: a7 :: a8 :: a9 :: a10 :: a11 :: a12 :: a13 :: a14 :: a15 :: a16 :: a17 :: a18 :: a19 :: a20 :: a21 :: .da (.list ds) :: l, n⟩ := id rfl
theorem z_No23 {a0 a1 a2 a3 a4 a5 a6 a7 a8 a9 a10 a11 a12 a13 a14 a15 a16 a17 a18 a19 a20 a21 a22 : Sl} {P : PE'} {ds : List PyData} : wN 23 ⟨a0 :: a1 :: a2 :: a3 :: a4 :: a5 :: a6 :: a7 :: a8 :: a9 :: a10 :: a11 :: a12 :: a13 :: a14 :: a15 :: a16 :: a17 :: a18 :: a19 :: a20 :: a21 :: a22 :: .ow ds :: l, n⟩ P X = P (.list ds) ⟨a0 :: a1 :: a2 :: a3 :: a4 :: a5 :: a6 :: a7 :: a8 :: a9 :: a10 :: a11 :: a12 :: a13 :: a14 :: a15 :: a16 :: a17 :: a18 :: a19 :: a20 :: a21 :: a22 :: .da (.list ds) :: l, n⟩ := id rfl
theorem z_No24 {a0 a1 a2 a3 a4 a5 a6 a7 a8 a9 a10 a11 a12 a13 a14 a15 a16 a17 a18 a19 a20 a21 a22 a23 : Sl} {P : PE'} {ds : List PyData} : wN 24 ⟨a0 :: a1 :: a2 :: a3 :: a4 :: a5 :: a6 :: a7 :: a8 :: a9 :: a10 :: a11 :: a12 :: a13 :: a14 :: a15 :: a16 :: a17 :: a18 :: a19 :: a20 :: a21 :: a22 :: a23 :: .ow ds :: l, n⟩ P X = P (.list ds) ⟨a0 :: a1 :: a2 :: a3 :: a4 :: a5 :: a6 :: a7 :: a8 :: a9 :: a10 :: a11 :: a12 :: a13 :: a14 :: a15 :: a16 :: a17 :: a18 :: a19 :: a20 :: a21 :: a22 :: a23 :: .da (.list ds) :: l, n⟩ := id rfl
theorem z_No25 {a0 a1 a2 a3 a4 a5 a6 a7 a8 a9 a10 a11 a12 a13 a14 a15 a16 a17 a18 a19 a20 a21 a22 a23 a24 : Sl} {P : PE'} {ds : List PyData} : wN 25 ⟨a0 :: a1 :: a2 :: a3 :: a4 :: a5 :: a6 :: a7 :: a8 :: a9 :: a10 :: a11 :: a12 :: a13 :: a14 :: a15 :: a16 :: a17 :: a18 :: a19 :: a20 :: a21 :: a22 :: a23 :: a24 :: .ow ds :: l, n⟩ P X = P (.list ds) ⟨a0 :: a1 :: a2 :: a3 :: a4 :: a5 :: a6 :: a7 :: a8 :: a9 :: a10 :: a11 :: a12 :: a13 :: a14 :: a15 :: a16 :: a17 :: a18 :: a19 :: a20 :: a21 :: a22 :: a23 :: a24 :: .da (.list ds) :: l, n⟩ := id rfl
theorem z_xNd0 {P : Ar → En → Prop} {d : PyData} : xN 0 ⟨.da d :: l, n⟩ P X = P (.da d) ⟨.da d :: l, n⟩ := id rfl
theorem z_xNd1 {a0 : Sl} {P : Ar → En → Prop} {d : PyData} : xN 1 ⟨a0 :: .da d :: l, n⟩ P X = P (.da d) ⟨a0 :: .da d :: l, n⟩ := id rfl
theorem z_xNd2 {a0 a1 : Sl} {P : Ar → En → Prop} {d : PyData} : xN 2 ⟨a0 :: a1 :: .da d :: l, n⟩ P X = P (.da d) ⟨a0 :: a1 :: .da d :: l, n⟩ := id rfl
theorem z_xNd3 {a0 a1 a2 : Sl} {P : Ar → En → Prop} {d : PyData} : xN 3 ⟨a0 :: a1 :: a2 :: .da d :: l, n⟩ P X = P (.da d) ⟨a0 :: a1 :: a2 :: .da d :: l, n⟩ := id rfl
theorem z_xNd4 {a0 a1 a2 a3 : Sl} {P : Ar → En → Prop} {d : PyData} : xN 4 ⟨a0 :: a1 :: a2 :: a3 :: .da d :: l, n⟩ P X = P (.da d) ⟨a0 :: a1 :: a2 :: a3 :: .da d :: l, n⟩ := id rfl
theorem z_xNd5 {a0 a1 a2 a3 a4 : Sl} {P : Ar → En → Prop} {d : PyData} : xN 5 ⟨a0 :: a1 :: a2 :: a3 :: a4 :: .da d :: l, n⟩ P X = P (.da d) ⟨a0 :: a1 :: a2 :: a3 :: a4 :: .da d :: l, n⟩ := id rfl
theorem z_xNd6 {a0 a1 a2 a3 a4 a5 : Sl} {P : Ar → En → Prop} {d : PyData} : xN 6 ⟨a0 :: a1 :: a2 :: a3 :: a4 :: a5 :: .da d :: l, n⟩ P X = P (.da d) ⟨a0 :: a1 :: a2 :: a3 :: a4 :: a5 :: .da d :: l, n⟩ := id rfl
theorem z_xNd7 {a0 a1 a2 a3 a4 a5 a6 : Sl} {P : Ar → En → Prop} {d : PyData} : xN 7 ⟨a0 :: a1 :: a2 :: a3 :: a4 :: a5 :: a6 :: .da d :: l, n⟩ P X = P (.da d) ⟨a0 :: a1 :: a2 :: a3 :: a4 :: a5 :: a6 :: .da d :: l, n⟩ := id rfl
theorem z_xNd8 {a0 a1 a2 a3 a4 a5 a6 a7 : Sl} {P : Ar → En → Prop} {d : PyData} : xN 8 ⟨a0 :: a1 :: a2 :: a3 :: a4 :: a5 :: a6 :: a7 :: .da d :: l, n⟩ P X = P (.da d) ⟨a0 :: a1 :: a2 :: a3 :: a4 :: a5 :: a6 :: a7 :: .da d :: l, n⟩ := id rfl
theorem z_xNd9 {a0 a1 a2 a3 a4 a5 a6 a7 a8 : Sl} {P : Ar → En → Prop} {d : PyData} : xN 9 ⟨a0 :: a1 :: a2 :: a3 :: a4 :: a5 :: a6 :: a7 :: a8 :: .da d :: l, n⟩ P X = P (.da d) ⟨a0 :: a1 :: a2 :: a3 :: a4 :: a5 :: a6 :: a7 :: a8 :: .da d :: l, n⟩ := id rfl
theorem z_xNd10 {a0 a1 a2 a3 a4 a5 a6 a7 a8 a9 : Sl} {P : Ar → En → Prop} {d : PyData} : xN 10 ⟨a0 :: a1 :: a2 :: a3 :: a4 :: a5 :: a6 :: a7 :: a8 :: a9 :: .da d :: l, n⟩ P X = P (.da d) ⟨a0 :: a1 :: a2 :: a3 :: a4 :: a5 :: a6 :: a7 :: a8 :: a9 :: .da d :: l, n⟩ := id rfl
theorem z_xNd11 {a0 a1 a2 a3 a4 a5 a6 a7 a8 a9 a10 : Sl} {P : Ar → En → Prop} {d : PyData} : xN 11 ⟨a0 :: a1 :: a2 :: a3 :: a4 :: a5 :: a6 :: a7 :: a8 :: a9 :: a10 :: .da d :: l, n⟩ P X = P (.da d) ⟨a0 :: a1 :: a2 :: a3 :: a4 :: a5 :: a6 :: a7 :: a8 :: a9 :: a10 :: .da d :: l, n⟩ := id rfl
theorem z_xNd12 {a0 a1 a2 a3 a4 a5 a6 a7 a8 a9 a10 a11 : Sl} {P : Ar → En → Prop} {d : PyData} : xN 12 ⟨a0 :: a1 :: a2 :: a3 :: a4 :: a5 :: a6 :: a7 :: a8 :: a9 :: a10 :: a11 :: .da d :: l, n⟩ P X = P (.da d) ⟨a0 :: a1 :: a2 :: a3 :: a4 :: a5 :: a6 :: a7 :: a8 :: a9 :: a10 :: a11 :: .da d :: l, n⟩ := id rfl
theorem z_xNd13 {a0 a1 a2 a3 a4 a5 a6 a7 a8 a9 a10 a11 a12 : Sl} {P : Ar → En → Prop} {d : PyData} : xN 13 ⟨a0 :: a1 :: a2 :: a3 :: a4 :: a5 :: a6 :: a7 :: a8 :: a9 :: a10 :: a11 :: a12 :: .da d :: l, n⟩ P X = P (.da d) ⟨a0 :: a1 :: a2 :: a3 :: a4 :: a5 :: a6 :: a7 :: a8 :: a9 :: a10 :: a11 :: a12 :: .da d :: l, n⟩ := id rfl
theorem z_xNd14 {a0 a1 a2 a3 a4 a5 a6 a7 a8 a9 a10 a11 a12 a13 : Sl} {P : Ar → En → Prop} {d : PyData} : xN 14 ⟨a0 :: a1 :: a2 :: a3 :: a4 :: a5 :: a6 :: a7 :: a8 :: a9 :: a10 :: a11 :: a12 :: a13 :: .da d :: l, n⟩ P X = P (.da d) ⟨a0 :: a1 :: a2 :: a3 :: a4 :: a5 :: a6 :: a7 :: a8 :: a9 :: a10 :: a11 :: a12 :: a13 :: .da d :: l, n⟩ := id rfl
theorem z_xNd15 {a0 a1 a2 a3 a4 a5 a6 a7 a8 a9 a10 a11 a12 a13 a14 : Sl} {P : Ar → En → Prop} {d : PyData} : xN 15 ⟨a0 :: a1 :: a2 :: a3 :: a4 :: a5 :: a6 :: a7 :: a8 :: a9 :: a10 :: a11 :: a12 :: a13 :: a14 :: .da d :: l, n⟩ P X = P (.da d) ⟨a0 :: a1 :: a2 :: a3 :: a4 :: a5 :: a6 :: a7 :: a8 :: a9 :: a10 :: a11 :: a12 :: a13 :: a14 :: .da d :: l, n⟩ := id rfl
theorem z_xNd16 {a0 a1 a2 a3 a4 a5 a6 a7 a8 a9 a10 a11 a12 a13 a14 a15 : Sl} {P : Ar → En → Prop} {d : PyData} : xN 16 ⟨a0 :: a1 :: a2 :: a3 :: a4 :: a5 :: a6 :: a7 :: a8 :: a9 :: a10 :: a11 :: a12 :: a13 :: a14 :: a15 :: .da d :: l, n⟩ P X = P (.da d) ⟨a0 :: a1 :: a2 :: a3 :: a4 :: a5 :: a6 :: a7 :: a8 :: a9 :: a10 :: a11 :: a12 :: a13 :: a14 :: a15 :: .da d :: l, n⟩ := id rfl
theorem z_xNd17 {a0 a1 a2 a3 a4 a5 a6 a7 a8 a9 a10 a11 a12 a13 a14 a15 a16 : Sl} {P : Ar → En → Prop} {d : PyData} : xN 17 ⟨a0 :: a1 :: a2 :: a3 :: a4 :: a5 :: a6 :: a7 :: a8 :: a9 :: a10 :: a11 :: a12 :: a13 :: a14 :: a15 :: a16 :: .da d :: l, n⟩ P X = P (.da d) ⟨a0 :: a1 :: a2 :: a3 :: a4 :: a5 :: a6 :: a7 :: a8 :: a9 :: a10 :: a11 :: a12 :: a13 :: a14 :: a15 :: a16 :: .da d :: l, n⟩ := id rfl
theorem z_xNd18 {a0 a1 a2 a3 a4 a5 a6 a7 a8 a9 a10 a11 a12 a13 a14 a15 a16 a17 : Sl} {P : Ar → En → Prop} {d : PyData} : xN 18 ⟨a0 :: a1 :: a2 :: a3 :: a4 :: a5 :: a6 :: a7 :: a8 :: a9 :: a10 :: a11 :: a12 :: a13 :: a14 :: a15 :: a16 :: a17 :: .da d :: l, n⟩ P X = P (.da d) ⟨a0 :: a1 :: a2 :: a3 :: a4 :: a5 :: a6 :: a7 :: a8 :: a9 :: a10 :: a11 :: a12 :: a13 :: a14 :: a15 :: a16 :: a17 :: .da d :: l, n⟩ := id rfl
theorem z_xNd19 {a0 a1 a2 a3 a4 a5 a6 a7 a8 a9 a10 a11 a12 a13 a14 a15 a16 a17 a18 : Sl} {P : Ar → En → Prop} {d : PyData} : xN 19 ⟨a0 :: a1 :: a2 :: a3 :: a4 :: a5 :: a6 :: a7 :: a8 :: a9 :: a10 :: a11 :: a12 :: a13 :: a14 :: a15 :: a16 :: a17 :: a18 :: .da d :: l, n⟩ P X = P (.da d) ⟨a0 :: a1 :: a2 :: a3 :: a4 :: a5 :: a6 :: a7 :: a8 :: a9 :: a10 :: a11 :: a12 :: a13 :: a14 :: a15 :: a16 :: a17 :: a18 :: .da d :: l, n⟩ := id rfl
theorem z_xNd20 {a0 a1 a2 a3 a4 a5 a6 a7 a8 a9 a10 a11 a12 a13 a14 a15 a16 a17 a18 a19 : Sl} {P : Ar → En → Prop} {d : PyData} : xN 20 ⟨a0 :: a1 :: a2 :: a3 :: a4 :: a5 :: a6 :: a7 :: a8 :: a9 :: a10 :: a11 :: a12 :: a13 :: a14 :: a15 :: a16 :: a17 :: a18 :: a19 :: .da d :: l, n⟩ P X = P (.da d) ⟨a0 :: a1 :: a2 :: a3 :: a4 :: a5 :: a6 :: a7 :: a8 :: a9 :: a10 :: a11 :: a12 :: a13 :: a14 :: a15 :: a16 :: a17 :: a18 :: a19 :: .da d :: l, n⟩ := id rfl
theorem z_xNd21 {a0 a1 a2 a3 a4 a5 a6 a7 a8 a9 a10 a11 a12 a13 a14 a15 a16 a17 a18 a19 a20 : Sl} {P : Ar → En → Prop} {d : PyData} : xN 21 ⟨a0 :: a1 :: a2 :: a3 :: a4 :: a5 :: a6 :: a7 :: a8 :: a9 :: a10 :: a11 :: a12 :: a13 :: a14 :: a15 :: a16 :: a17 :: a18 :: a19 :: a20 :: .da d :: l, n⟩ P X = P (.da d) ⟨a0 :: a1 :: a2 :: a3 :: a4 :: a5 :: a6 :: a7 :: a8 :: a9 :: a10 :: a11 :: a12 :: a13 :: a14 :: a15 :: a16 :: a17 :: a18 :: a19 :: a20 :: .da d :: l, n⟩ := id rfl
theorem z_xNd22 {a0 a1 a2 a3 a4 a5 a6 a7 a8 a9 a10 a11 a12 a13 a14 a15 a16 a17 a18 a19 a20 a21 : Sl} {P : Ar → En → Prop} {d : PyData} : xN 22 ⟨a0 :: a1 :: a2 :: a3 :: a4 :: a5 :: a6 :: a7 :: a8 :: a9 :: a10 :: a11 :: a12 :: a13 :: a14 :: a15 :: a16 :: a17 :: a18 :: a19 :: a20 :: a21 :: .da d :: l, n⟩ P X = P (.da d) ⟨a0 :: a1 :: a2 :: a3 :: a4 :: a5 :: a6 :: a7 :: a8 :: a9 :: a10 :: a11 :: a12 :: a13 :: a14 :: a15 :: a16 :: a17 :: a18 :: a19 :: a20 :: a21 :: .da d :: l, n⟩ := id rfl
theorem z_xNd23 {a0 a1 a2 a3 a4 a5 a6 a7 a8 a9 a10 a11 a12 a13 a14 a15 a16 a17 a18 a19 a20 a21 a22 : Sl} {P : Ar → En → Prop} {d : PyData} : xN 23 ⟨a0 :: a1 :: a2 :: a3 :: a4 :: a5 :: a6 :: a7 :: a8 :: a9 :: a10 :: a11 :: a12 :: a13 :: a14 :: a15 :: a16 :: a17 :: a18 :: a19 :: a20 :: a21 :: a22 :: .da d :: l, n⟩ P X = P (.da d) ⟨a0 :: a1 :: a2 :: a3 :: a4 :: a5 :: a6 :: a7 :: a8 :: a9 :: a10 :: a11 :: a12 :: a13 :: a14 :: a15 :: a16 :: a17 :: a18 :: a19 :: a20 :: a21 :: a22 :: .da d :: l, n⟩ := id rfl
theorem z_xNd24 {a0 a1 a2 a3 a4 a5 a6 a7 a8 a9 a10 a11 a12 a13 a14 a15 a16 a17 a18 a19 a20 a21 a22 a23 : Sl} {P : Ar → En → Prop} {d : PyData} : xN 24 ⟨a0 :: a1 :: a2 :: a3 :: a4 :: a5 :: a6 :: a7 :: a8 :: a9 :: a10 :: a11 :: a12 :: a13 :: a14 :: a15 :: a16 :: a17 :: a18 :: a19 :: a20 :: a21 :: a22 :: a23 :: .da d :: l, n⟩ P X = P (.da d) ⟨a0 :: a1 :: a2 :: a3 :: a4 :: a5 :: a6 :: a7 :: a8 :: a9 :: a10 :: a11 :: a12 :: a13 :: a14 :: a15 :: a16 :: a17 :: a18 :: a19 :: a20 :: a21 :: a22 :: a23 :: .da d :: l, n⟩ := id rfl
theorem z_xNd25 {a0 a1 a2 a3 a4 a5 a6 a7 a8 a9 a10 a11 a12 a13 a14 a15 a16 a17 a18 a19 a20 a21 a22 a23 a24 : Sl} {P : Ar → En → Prop} {d : PyData} : xN 25 ⟨a0 :: a1 :: a2 :: a3 :: a4 :: a5 :: a6 :: a7 :: a8 :: a9 :: a10 :: a11 :: a12 :: a13 :: a14 :: a15 :: a16 :: a17 :: a18 :: a19 :: a20 :: a21 :: a22 :: a23 :: a24 :: .da d :: l, n⟩ P X = P (.da d) ⟨a0 :: a1 :: a2 :: a3 :: a4 :: a5 :: a6 :: a7 :: a8 :: a9 :: a10 :: a11 :: a12 :: a13 :: a14 :: a15 :: a16 :: a17 :: a18 :: a19 :: a20 :: a21 :: a22 :: a23 :: a24 :: .da d :: l, n⟩ := id rfl
theorem z_xNo0 {P : Ar → En → Prop} {v : V} : xN 0 ⟨.op v :: l, n⟩ P X = P (.op v) ⟨.op v :: l, n⟩ := id rfl
theorem z_xNo1 {a0 : Sl} {P : Ar → En → Prop} {v : V} : xN 1 ⟨a0 :: .op v :: l, n⟩ P X = P (.op v) ⟨a0 :: .op v :: l, n⟩ := id rfl
theorem z_xNo2 {a0 a1 : Sl} {P : Ar → En → Prop} {v : V} : xN 2 ⟨a0 :: a1 :: .op v :: l, n⟩ P X = P (.op v) ⟨a0 :: a1 :: .op v :: l, n⟩ := id rfl
theorem z_xNo3 {a0 a1 a2 : Sl} {P : Ar → En → Prop} {v : V} : xN 3 ⟨a0 :: a1 :: a2 :: .op v :: l, n⟩ P X = P (.op v) ⟨a0 :: a1 :: a2 :: .op v :: l, n⟩ := id rfl
theorem z_xNo4 {a0 a1 a2 a3 : Sl} {P : Ar → En → Prop} {v : V} : xN 4 ⟨a0 :: a1 :: a2 :: a3 :: .op v :: l, n⟩ P X = P (.op v) ⟨a0 :: a1 :: a2 :: a3 :: .op v :: l, n⟩ := id rfl
theorem z_xNo5 {a0 a1 a2 a3 a4 : Sl} {P : Ar → En → Prop} {v : V} : xN 5 ⟨a0 :: a1 :: a2 :: a3 :: a4 :: .op v :: l, n⟩ P X = P (.op v) ⟨a0 :: a1 :: a2 :: a3 :: a4 :: .op v :: l, n⟩ := id rfl
theorem z_xNo6 {a0 a1 a2 a3 a4 a5 : Sl} {P : Ar → En → Prop} {v : V} : xN 6 ⟨a0 :: a1 :: a2 :: a3 :: a4 :: a5 :: .op v :: l, n⟩ P X = P (.op v) ⟨a0 :: a1 :: a2 :: a3 :: a4 :: a5 :: .op v :: l, n⟩ := id rfl
theorem z_xNo7 {a0 a1 a2 a3 a4 a5 a6 : Sl} {P : Ar → En → Prop} {v : V} : xN 7 ⟨a0 :: a1 :: a2 :: a3 :: a4 :: a5 :: a6 :: .op v :: l, n⟩ P X = P (.op v) ⟨a0 :: a1 :: a2 :: a3 :: a4 :: a5 :: a6 :: .op v :: l, n⟩ := id rfl
theorem z_xNo8 {a0 a1 a2 a3 a4 a5 a6 a7 : Sl} {P : Ar → En → Prop} {v : V} : xN 8 ⟨a0 :: a1 :: a2 :: a3 :: a4 :: a5 :: a6 :: a7 :: .op v :: l, n⟩ P X = P (.op v) ⟨a0 :: a1 :: a2 :: a3 :: a4 :: a5 :: a6 :: a7 :: .op v :: l, n⟩ := id rfl
theorem z_xNo9 {a0 a1 a2 a3 a4 a5 a6 a7 a8 : Sl} {P : Ar → En → Prop} {v : V} : xN 9 ⟨a0 :: a1 :: a2 :: a3 :: a4 :: a5 :: a6 :: a7 :: a8 :: .op v :: l, n⟩ P X = P (.op v) ⟨a0 :: a1 :: a2 :: a3 :: a4 :: a5 :: a6 :: a7 :: a8 :: .op v :: l, n⟩ := id rfl
theorem z_xNo10 {a0 a1 a2 a3 a4 a5 a6 a7 a8 a9 : Sl} {P : Ar → En → Prop} {v : V} : xN 10 ⟨a0 :: a1 :: a2 :: a3 :: a4 :: a5 :: a6 :: a7 :: a8 :: a9 :: .op v :: l, n⟩ P X = P (.op v) ⟨a0 :: a1 :: a2 :: a3 :: a4 :: a5 :: a6 :: a7 :: a8 :: a9 :: .op v :: l, n⟩ := id rfl
theorem z_xNo11 {a0 a1 a2 a3 a4 a5 a6 a7 a8 a9 a10 : Sl} {P : Ar → En → Prop} {v : V} : xN 11 ⟨a0 :: a1 :: a2 :: a3 :: a4 :: a5 :: a6 :: a7 :: a8 :: a9 :: a10 :: .op v :: l, n⟩ P X = P (.op v) ⟨a0 :: a1 :: a2 :: a3 :: a4 :: a5 :: a6 :: a7 :: a8 :: a9 :: a10 :: .op v :: l, n⟩ := id rfl
theorem z_xNo12 {a0 a1 a2 a3 a4 a5 a6 a7 a8 a9 a10 a11 : Sl} {P : Ar → En → Prop} {v : V} : xN 12 ⟨a0 :: a1 :: a2 :: a3 :: a4 :: a5 :: a6 :: a7 :: a8 :: a9 :: a10 :: a11 :: .op v :: l, n⟩ P X = P (.op v) ⟨a0 :: a1 :: a2 :: a3 :: a4 :: a5 :: a6 :: a7 :: a8 :: a9 :: a10 :: a11 :: .op v :: l, n⟩ := id rfl
theorem z_xNo13 {a0 a1 a2 a3 a4 a5 a6 a7 a8 a9 a10 a11 a12 : Sl} {P : Ar → En → Prop} {v : V} : xN 13 ⟨a0 :: a1 :: a2 :: a3 :: a4 :: a5 :: a6 :: a7 :: a8 :: a9 :: a10 :: a11 :: a12 :: .op v :: l, n⟩ P X = P (.op v) ⟨a0 :: a1 :: a2 :: a3 :: a4 :: a5 :: a6 :: a7 :: a8 :: a9 :: a10 :: a11 :: a12 :: .op v :: l, n⟩ := id rfl
theorem z_xNo14 {a0 a1 a2 a3 a4 a5 a6 a7 a8 a9 a10 a11 a12 a13 : Sl} {P : Ar → En → Prop} {v : V} : xN 14 ⟨a0 :: a1 :: a2 :: a3 :: a4 :: a5 :: a6 :: a7 :: a8 :: a9 :: a10 :: a11 :: a12 :: a13 :: .op v :: l, n⟩ P X = P (.op v) ⟨a0 :: a1 :: a2 :: a3 :: a4 :: a5 :: a6 :: a7 :: a8 :: a9 :: a10 :: a11 :: a12 :: a13 :: .op v :: l, n⟩ := id rfl
theorem z_xNo15 {a0 a1 a2 a3 a4 a5 a6 a7 a8 a9 a10 a11 a12 a13 a14 : Sl} {P : Ar → En → Prop} {v : V} : xN 15 ⟨a0 :: a1 :: a2 :: a3 :: a4 :: a5 :: a6 :: a7 :: a8 :: a9 :: a10 :: a11 :: a12 :: a13 :: a14 :: .op v :: l, n⟩ P X = P (.op v) ⟨a0 :: a1 :: a2 :: a3 :: a4 :: a5 :: a6 :: a7 :: a8 :: a9 :: a10 :: a11 :: a12 :: a13 :: a14 :: .op v :: l, n⟩ := id rfl
theorem z_xNo16 {a0 a1 a2 a3 a4 a5 a6 a7 a8 a9 a10 a11 a12 a13 a14 a15 : Sl} {P : Ar → En → Prop} {v : V} : xN 16 ⟨a0 :: a1 :: a2 :: a3 :: a4 :: a5 :: a6 :: a7 :: a8 :: a9 :: a10 :: a11 :: a12 :: a13 :: a14 :: a15 :: .op v :: l, n⟩ P X = P (.op v) ⟨a0 :: a1 :: a2 :: a3 :: a4 :: a5 :: a6 :: a7 :: a8 :: a9 :: a10 :: a11 :: a12 :: a13 :: a14 :: a15 :: .op v :: l, n⟩ := id rfl
theorem z_xNo17 {a0 a1 a2 a3 a4 a5 a6 a7 a8 a9 a10 a11 a12 a13 a14 a15 a16 : Sl} {P : Ar → En → Prop} {v : V} : xN 17 ⟨a0 :: a1 :: a2 :: a3 :: a4 :: a5 :: a6 :: a7 :: a8 :: a9 :: a10 :: a11 :: a12 :: a13 :: a14 :: a15 :: a16 :: .op v :: l, n⟩ P X = P (.op v) ⟨a0 :: a1 :: a2 :: a3 :: a4 :: a5 :: a6 :: a7 :: a8 :: a9 :: a10 :: a11 :: a12 :: a13 :: a14 :: a15 :: a16 :: .op v :: l, n⟩ := id rfl
theorem z_xNo18 {a0 a1 a2 a3 a4 a5 a6 a7 a8 a9 a10 a11 a12 a13 a14 a15 a16 a17 : Sl} {P : Ar → En → Prop} {v : V} : xN 18 ⟨a0 :: a1 :: a2 :: a3 :: a4 :: a5 :: a6 :: a7 :: a8 :: a9 :: a10 :: a11 :: a12 :: a13 :: a14 :: a15 :: a16 :: a17 :: .op v :: l, n⟩ P X = P (.op v) ⟨a0 :: a1 :: a2 :: a3 :: a4 :: a5 :: a6 :: a7 :: a8 :: a9 :: a10 :: a11 :: a12 :: a13 :: a14 :: a15 :: a16 :: a17 :: .op v :: l, n⟩ := id rfl
theorem z_xNo19 {a0 a1 a2 a3 a4 a5 a6 a7 a8 a9 a10 a11 a12 a13 a14 a15 a16 a17 a18 : Sl} {P : Ar → En → Prop} {v : V} : xN 19 ⟨a0 :: a1 :: a2 :: a3 :: a4 :: a5 :: a6 :: a7 :: a8 :: a9 :: a10 :: a11 :: a12 :: a13 :: a14 :: a15 :: a16 :: a17 :: a18 :: .op v :: l, n⟩ P X = P (.op v) ⟨a0 :: a1 :: a2 :: a3 :: a4 :: a5 :: a6 :: a7 :: a8 :: a9 :: a10 :: a11 :: a12 :: a13 :: a14 :: a15 :: a16 :: a17 :: a18 :: .op v :: l, n⟩ := id rfl
theorem z_xNo20 {a0 a1 a2 a3 a4 a5 a6 a7 a8 a9 a10 a11 a12 a13 a14 a15 a16 a17 a18 a19 : Sl} {P : Ar → En → Prop} {v : V} : xN 20 ⟨a0 :: a1 :: a2 :: a3 :: a4 :: a5 :: a6 :: a7 :: a8 :: a9 :: a10 :: a11 :: a12 :: a13 :: a14 :: a15 :: a16 :: a17 :: a18 :: a19 :: .op v :: l, n⟩ P X = P (.op v) ⟨a0 :: a1 :: a2 :: a3 :: a4 :: a5 :: a6 :: a7 :: a8 :: a9 :: a10 :: a11 :: a12 :: a13 :: a14 :: a15 :: a16 :: a17 :: a18 :: a19 :: .op v :: l, n⟩ := id rfl
theorem z_xNo21 {a0 a1 a2 a3 a4 a5 a6 a7 a8 a9 a10 a11 a12 a13 a14 a15 a16 a17 a18 a19 a20 : Sl} {P : Ar → En → Prop} {v : V} : xN 21 ⟨a0 :: a1 :: a2 :: a3 :: a4 :: a5 :: a6 :: a7 :: a8 :: a9 :: a10 :: a11 :: a12 :: a13 :: a14 :: a15 :: a16 :: a17 :: a18 :: a19 :: a20 :: .op v :: l, n⟩ P X = P (.op v) ⟨a0 :: a1 :: a2 :: a3 :: a4 :: a5 :: a6 :: a7 :: a8 :: a9 :: a10 :: a11 :: a12 :: a13 :: a14 :: a15 :: a16 :: a17 :: a18 :: a19 :: a20 :: .op v :: l, n⟩ := id rfl
theorem z_xNo22 {a0 a1 a2 a3 a4 a5 a6 a7 a8 a9 a10 a11 a12 a13 a14 a15 a16 a17 a18 a19 a20 a21 : Sl} {P : Ar → En → Prop} {v : V} : xN 22 ⟨a0 :: a1 :: a2 :: a3 :: a4 :: a5 :: a6 :: a7 :: a8 :: a9 :: a10 :: a11 :: a12 :: a13 :: a14 :: a15 :: a16 :: a17 :: a18 :: a19 :: a20 :: a21 :: .op v :: l, n⟩ P X = P (.op v) ⟨a0 :: a1 :: a2 :: a3 :: a4 :: a5 :: a6 :: a7 :: a8 :: a9 :: a10 :: a11 :: a12 :: a13 :: a14 :: a15 :: a16 :: a17 :: a18 :: a19 :: a20 :: a21 :: .op v :: l, n⟩ := id rfl
theorem z_xNo23 {a0 a1 a2 a3 a4 a5 a6 a7 a8 a9 a10 a11 a12 a13 a14 a15 a16 a17 a18 a19 a20 a21 a22 : Sl} {P : Ar → En → Prop} {v : V} : xN 23 ⟨a0 :: a1 :: a2 :: a3 :: a4 :: a5 :: a6 :: a7 :: a8 :: a9 :: a10 :: a11 :: a12 :: a13 :: a14 :: a15 :: a16 :: a17 :: a18 :: a19 :: a20 :: a21 :: a22 :: .op v :: l, n⟩ P X = P (.op v) ⟨a0 :: a1 :: a2 :: a3 :: a4 :: a5 :: a6 :: a7 :: a8 :: a9 :: a10 :: a11 :: a12 :: a13 :: a14 :: a15 :: a16 :: a17 :: a18 :: a19 :: a20 :: a21 :: a22 :: .op v :: l, n⟩ := id rfl
theorem z_xNo24 {a0 a1 a2 a3 a4 a5 a6 a7 a8 a9 a10 a11 a12 a13 a14 a15 a16 a17 a18 a19 a20 a21 a22 a23 : Sl} {P : Ar → En → Prop} {v : V} : xN 24 ⟨a0 :: a1 :: a2 :: a3 :: a4 :: a5 :: a6 :: a7 :: a8 :: a9 :: a10 :: a11 :: a12 :: a13 :: a14 :: a15 :: a16 :: a17 :: a18 :: a19 :: a20 :: a21 :: a22 :: a23 :: .op v :: l, n⟩ P X = P (.op v) ⟨a0 :: a1 :: a2 :: a3 :: a4 :: a5 :: a6 :: a7 :: a8 :: a9 :: a10 :: a11 :: a12 :: a13 :: a14 :: a15 :: a16 :: a17 :: a18 :: a19 :: a20 :: a21 :: a22 :: a23 :: .op v :: l, n⟩ := id rfl
theorem z_xNo25 {a0 a1 a2 a3 a4 a5 a6 a7 a8 a9 a10 a11 a12 a13 a14 a15 a16 a17 a18 a19 a20 a21 a22 a23 a24 : Sl} {P : Ar → En → Prop} {v : V} : xN 25 ⟨a0 :: a1 :: a2 :: a3 :: a4 :: a5 :: a6 :: a7 :: a8 :: a9 :: a10 :: a11 :: a12 :: a13 :: a14 :: a15 :: a16 :: a17 :: a18 :: a19 :: a20 :: a21 :: a22 :: a23 :: a24 :: .op v :: l, n⟩ P X = P (.op v) ⟨a0 :: a1 :: a2 :: a3 :: a4 :: a5 :: a6 :: a7 :: a8 :: a9 :: a10 :: a11 :: a12 :: a13 :: a14 :: a15 :: a16 :: a17 :: a18 :: a19 :: a20 :: a21 :: a22 :: a23 :: a24 :: .op v :: l, n⟩ := id rfl
theorem z_xNg0 {P : Ar → En → Prop} : xN 0 ⟨.ge :: l, n⟩ P X = P .ge ⟨.ge :: l, n⟩ := id rfl
theorem z_xNg1 {a0 : Sl} {P : Ar → En → Prop} : xN 1 ⟨a0 :: .ge :: l, n⟩ P X = P .ge ⟨a0 :: .ge :: l, n⟩ := id rfl
theorem z_xNg2 {a0 a1 : Sl} {P : Ar → En → Prop} : xN 2 ⟨a0 :: a1 :: .ge :: l, n⟩ P X = P .ge ⟨a0 :: a1 :: .ge :: l, n⟩ := id rfl
theorem z_xNg3 {a0 a1 a2 : Sl} {P : Ar → En → Prop} : xN 3 ⟨a0 :: a1 :: a2 :: .ge :: l, n⟩ P X = P .ge ⟨a0 :: a1 :: a2 :: .ge :: l, n⟩ := id rfl
theorem z_xNg4 {a0 a1 a2 a3 : Sl} {P : Ar → En → Prop} : xN 4 ⟨a0 :: a1 :: a2 :: a3 :: .ge :: l, n⟩ P X = P .ge ⟨a0 :: a1 :: a2 :: a3 :: .ge :: l, n⟩ := id rfl
theorem z_xNg5 {a0 a1 a2 a3 a4 : Sl} {P : Ar → En → Prop} : xN 5 ⟨a0 :: a1 :: a2 :: a3 :: a4 :: .ge :: l, n⟩ P X = P .ge ⟨a0 :: a1 :: a2 :: a3 :: a4 :: .ge :: l, n⟩ := id rfl
theorem z_xNg6 {a0 a1 a2 a3 a4 a5 : Sl} {P : Ar → En → Prop} : xN 6 ⟨a0 :: a1 :: a2 :: a3 :: a4 :: a5 :: .ge :: l, n⟩ P X = P .ge ⟨a0 :: a1 :: a2 :: a3 :: a4 :: a5 :: .ge :: l, n⟩ := id rfl
theorem z_xNg7 {a0 a1 a2 a3 a4 a5 a6 : Sl} {P : Ar → En → Prop} : xN 7 ⟨a0 :: a1 :: a2 :: a3 :: a4 :: a5 :: a6 :: .ge :: l, n⟩ P X = P .ge ⟨a0 :: a1 :: a2 :: a3 :: a4 :: a5 :: a6 :: .ge :: l, n⟩ := id rfl
theorem z_xNg8 {a0 a1 a2 a3 a4 a5 a6 a7 : Sl} {P : Ar → En → Prop} : xN 8 ⟨a0 :: a1 :: a2 :: a3 :: a4 :: a5 :: a6 :: a7 :: .ge :: l, n⟩ P X = P .ge ⟨a0 :: a1 :: a2 :: a3 :: a4 :: a5 :: a6 :: a7 :: .ge :: l, n⟩ := id rfl
theorem z_xNg9 {a0 a1 a2 a3 a4 a5 a6 a7 a8 : Sl} {P : Ar → En → Prop} : xN 9 ⟨a0 :: a1 :: a2 :: a3 :: a4 :: a5 :: a6 :: a7 :: a8 :: .ge :: l, n⟩ P X = P .ge ⟨a0 :: a1 :: a2 :: a3 :: a4 :: a5 :: a6 :: a7 :: a8 :: .ge :: l, n⟩ := id rfl
theorem z_xNg10 {a0 a1 a2 a3 a4 a5 a6 a7 a8 a9 : Sl} {P : Ar → En → Prop} : xN 10 ⟨a0 :: a1 :: a2 :: a3 :: a4 :: a5 :: a6 :: a7 :: a8 :: a9 :: .ge :: l, n⟩ P X = P .ge ⟨a0 :: a1 :: a2 :: a3 :: a4 :: a5 :: a6 :: a7 :: a8 :: a9 :: .ge :: l, n⟩ := id rfl
theorem z_xNg11 {a0 a1 a2 a3 a4 a5 a6 a7 a8 a9 a10 : Sl} {P : Ar → En → Prop} : xN 11 ⟨a0 :: a1 :: a2 :: a3 :: a4 :: a5 :: a6 :: a7 :: a8 :: a9 :: a10 :: .ge :: l, n⟩ P X = P .ge ⟨a0 :: a1 :: a2 :: a3 :: a4 :: a5 :: a6 :: a7 :: a8 :: a9 :: a10 :: .ge :: l, n⟩ := id rfl
theorem z_xNg12 {a0 a1 a2 a3 a4 a5 a6 a7 a8 a9 a10 a11 : Sl} {P : Ar → En → Prop} : xN 12 ⟨a0 :: a1 :: a2 :: a3 :: a4 :: a5 :: a6 :: a7 :: a8 :: a9 :: a10 :: a11 :: .ge :: l, n⟩ P X = P .ge ⟨a0 :: a1 :: a2 :: a3 :: a4 :: a5 :: a6 :: a7 :: a8 :: a9 :: a10 :: a11 :: .ge :: l, n⟩ := id rfl
theorem z_xNg13 {a0 a1 a2 a3 a4 a5 a6 a7 a8 a9 a10 a11 a12 : Sl} {P : Ar → En → Prop} : xN 13 ⟨a0 :: a1 :: a2 :: a3 :: a4 :: a5 :: a6 :: a7 :: a8 :: a9 :: a10 :: a11 :: a12 :: .ge :: l, n⟩ P X = P .ge ⟨a0 :: a1 :: a2 :: a3 :: a4 :: a5 :: a6 :: a7 :: a8 :: a9 :: a10 :: a11 :: a12 :: .ge :: l, n⟩ := id rfl
theorem z_xNg14 {a0 a1 a2 a3 a4 a5 a6 a7 a8 a9 a10 a11 a12 a13 : Sl} {P : Ar → En → Prop} : xN 14 ⟨a0 :: a1 :: a2 :: a3 :: a4 :: a5 :: a6 :: a7 :: a8 :: a9 :: a10 :: a11 :: a12 :: a13 :: .ge :: l, n⟩ P X = P .ge ⟨a0 :: a1 :: a2 :: a3 :: a4 :: a5 :: a6 :: a7 :: a8 :: a9 :: a10 :: a11 :: a12 :: a13 :: .ge :: l, n⟩ := id rfl
theorem z_xNg15 {a0 a1 a2 a3 a4 a5 a6 a7 a8 a9 a10 a11 a12 a13 a14 : Sl} {P : Ar → En → Prop} : xN 15 ⟨a0 :: a1 :: a2 :: a3 :: a4 :: a5 :: a6 :: a7 :: a8 :: a9 :: a10 :: a11 :: a12 :: a13 :: a14 :: .ge :: l, n⟩ P X = P .ge ⟨a0 :: a1 :: a2 :: a3 :: a4 :: a5 :: a6 :: a7 :: a8 :: a9 :: a10 :: a11 :: a12 :: a13 :: a14 :: .ge :: l, n⟩ := id rfl
theorem z_xNg16 {a0 a1 a2 a3 a4 a5 a6 a7 a8 a9 a10 a11 a12 a13 a14 a15 : Sl} {P : Ar → En → Prop} : xN 16 ⟨a0 :: a1 :: a2 :: a3 :: a4 :: a5 :: a6 :: a7 :: a8 :: a9 :: a10 :: a11 :: a12 :: a13 :: a14 :: a15 :: .ge :: l, n⟩ P X = P .ge ⟨a0 :: a1 :: a2 :: a3 :: a4 :: a5 :: a6 :: a7 :: a8 :: a9 :: a10 :: a11 :: a12 :: a13 :: a14 :: a15 :: .ge :: l, n⟩ := id rfl
theorem z_xNg17 {a0 a1 a2 a3 a4 a5 a6 a7 a8 a9 a10 a11 a12 a13 a14 a15 a16 : Sl} {P : Ar → En → Prop} : xN 17 ⟨a0 :: a1 :: a2 :: a3 :: a4 :: a5 :: a6 :: a7 :: a8 :: a9 :: a10 :: a11 :: a12 :: a13 :: a14 :: a15 :: a16 :: .ge :: l, n⟩ P X = P .ge ⟨a0 :: a1 :: a2 :: a3 :: a4 :: a5 :: a6 :: a7 :: a8 :: a9 :: a10 :: a11 :: a12 :: a13 :: a14 :: a15 :: a16 :: .ge :: l, n⟩ := id rfl
theorem z_xNg18 {a0 a1 a2 a3 a4 a5 a6 a7 a8 a9 a10 a11 a12 a13 a14 a15 a16 a17 : Sl} {P : Ar → En → Prop} : xN 18 ⟨a0 :: a1 :: a2 :: a3 :: a4 :: a5 :: a6 :: a7 :: a8 :: a9 :: a10 :: a11 :: a12 :: a13 :: a14 :: a15 :: a16 :: a17 :: .ge :: l, n⟩ P X = P .ge ⟨a0 :: a1 :: a2 :: a3 :: a4 :: a5 :: a6 :: a7 :: a8 :: a9 :: a10 :: a11 :: a12 :: a13 :: a14 :: a15 :: a16 :: a17 :: .ge :: l, n⟩ := id rfl
theorem z_xNg19 {a0 a1 a2 a3 a4 a5 a6 a7 a8 a9 a10 a11 a12 a13 a14 a15 a16 a17 a18 : Sl} {P : Ar → En → Prop} : xN 19 ⟨a0 :: a1 :: a2 :: a3 :: a4 :: a5 :: a6 :: a7 :: a8 :: a9 :: a10 :: a11 :: a12 :: a13 :: a14 :: a15 :: a16 :: a17 :: a18 :: .ge :: l, n⟩ P X = P .ge ⟨a0 :: a1 :: a2 :: a3 :: a4 :: a5 :: a6 :: a7 :: a8 :: a9 :: a10 :: a11 :: a12 :: a13 :: a14 :: a15 :: a16 :: a17 :: a18 :: .ge :: l, n⟩ := id rfl
theorem z_xNg20 {a0 a1 a2 a3 a4 a5 a6 a7 a8 a9 a10 a11 a12 a13 a14 a15 a16 a17 a18 a19 : Sl} {P : Ar → En → Prop} : xN 20 ⟨a0 :: a1 :: a2 :: a3 :: a4 :: a5 :: a6 :: a7 :: a8 :: a9 :: a10 :: a11 :: a12 :: a13 :: a14 :: a15 :: a16 :: a17 :: a18 :: a19 :: .ge :: l, n⟩ P X = P .ge ⟨a0 :: a1 :: a2 :: a3 :: a4 :: a5 :: a6 :: a7 :: a8 :: a9 :: a10 :: a11 :: a12 :: a13 :: a14 :: a15 :: a16 :: a17 :: a18 :: a19 :: .ge :: l, n⟩ := id rfl
theorem z_xNg21 {a0 a1 a2 a3 a4 a5 a6 a7 a8 a9 a10 a11 a12 a13 a14 a15 a16 a17 a18 a19 a20 : Sl} {P : Ar → En → Prop} : xN 21 ⟨a0 :: a1 :: a2 :: a3 :: a4 :: a5 :: a6 :: a7 :: a8 :: a9 :: a10 :: a11 :: a12 :: a13 :: a14 :: a15 :: a16 :: a17 :: a18 :: a19 :: a20 :: .ge :: l, n⟩ P X = P .ge ⟨a0 :: a1 :: a2 :: a3 :: a4 :: a5 :: a6 :: a7 :: a8 :: a9 :: a10 :: a11 :: a12 :: a13 :: a14 :: a15 :: a16 :: a17 :: a18 :: a19 :: a20 :: .ge :: l, n⟩ := id rfl
theorem z_xNg22 {a0 a1 a2 a3 a4 a5 a6 a7 a8 a9 a10 a11 a12 a13 a14 a15 a16 a17 a18 a19 a20 a21 : Sl} {P : Ar → En → Prop} : xN 22 ⟨a0 :: a1 :: a2 :: a3 :: a4 :: a5 :: a6 :: a7 :: a8 :: a9 :: a10 :: a11 :: a12 :: a13 :: a14 :: a15 :: a16 :: a17 :: a18 :: a19 :: a20 :: a21 :: .ge :: l, n⟩ P X = P .ge ⟨a0 :: a1 :: a2 :: a3 :: a4 :: a5 :: a6 :: a7 :: a8 :: a9 :: a10 :: a11 :: a12 :: a13 :: a14 :: a15 :: a16 :: a17 :: a18 :: a19 :: a20 :: a21 :: .ge :: l, n⟩ := id rfl
theorem z_xNg23 {a0 a1 a2 a3 a4 a5 a6 a7 a8 a9 a10 a11 a12 a13 a14 a15 a16 a17 a18 a19 a20 a21 a22 : Sl} {P : Ar → En → Prop} : xN 23 ⟨a0 :: a1 :: a2 :: a3 :: a4 :: a5 :: a6 :: a7 :: a8 :: a9 :: a10 :: a11 :: a12 :: a13 :: a14 :: a15 :: a16 :: a17 :: a18 :: a19 :: a20 :: a21 :: a22 :: .ge :: l, n⟩ P X = P .ge ⟨a0 :: a1 :: a2 :: a3 :: a4 :: a5 :: a6 :: a7 :: a8 :: a9 :: a10 :: a11 :: a12 :: a13 :: a14 :: a15 :: a16 :: a17 :: a18 :: a19 :: a20 :: a21 :: a22 :: .ge :: l, n⟩ := id rfl
theorem z_xNg24 {a0 a1 a2 a3 a4 a5 a6 a7 a8 a9 a10 a11 a12 a13 a14 a15 a16 a17 a18 a19 a20 a21 a22 a23 : Sl} {P : Ar → En → Prop} : xN 24 ⟨a0 :: a1 :: a2 :: a3 :: a4 :: a5 :: a6 :: a7 :: a8 :: a9 :: a10 :: a11 :: a12 :: a13 :: a14 :: a15 :: a16 :: a17 :: a18 :: a19 :: a20 :: a21 :: a22 :: a23 :: .ge :: l, n⟩ P X = P .ge ⟨a0 :: a1 :: a2 :: a3 :: a4 :: a5 :: a6 :: a7 :: a8 :: a9 :: a10 :: a11 :: a12 :: a13 :: a14 :: a15 :: a16 :: a17 :: a18 :: a19 :: a20 :: a21 :: a22 :: a23 :: .ge :: l, n⟩ := id rfl
theorem z_xNg25 {a0 a1 a2 a3 a4 a5 a6 a7 a8 a9 a10 a11 a12 a13 a14 a15 a16 a17 a18 a19 a20 a21 a22 a23 a24 : Sl} {P : Ar → En → Prop} : xN 25 ⟨a0 :: a1 :: a2 :: a3 :: a4 :: a5 :: a6 :: a7 :: a8 :: a9 :: a10 :: a11 :: a12 :: a13 :: a14 :: a15 :: a16 :: a17 :: a18 :: a19 :: a20 :: a21 :: a22 :: a23 :: a24 :: .ge :: l, n⟩ P X = P .ge ⟨a0 :: a1 :: a2 :: a3 :: a4 :: a5 :: a6 :: a7 :: a8 :: a9 :: a10 :: a11 :: a12 :: a13 :: a14 :: a15 :: a16 :: a17 :: a18 :: a19 :: a20 :: a21 :: a22 :: a23 :: a24 :: .ge :: l, n⟩ := id rfl
theorem z_xNe0 {P : Ar → En → Prop} {C : Addr} {d : PyData} : xN 0 ⟨.er C d :: l, n⟩ P X = P (.er C d) ⟨.er C d :: l, n⟩ := id rfl
theorem z_xNe1 {a0 : Sl} {P : Ar → En → Prop} {C : Addr} {d : PyData} : xN 1 ⟨a0 :: .er C d :: l, n⟩ P X = P (.er C d) ⟨a0 :: .er C d :: l, n⟩ := id rfl
theorem z_xNe2 {a0 a1 : Sl} {P : Ar → En → Prop} {C : Addr} {d : PyData} : xN 2 ⟨a0 :: a1 :: .er C d :: l, n⟩ P X = P (.er C d) ⟨a0 :: a1 :: .er C d :: l, n⟩ := id rfl
theorem z_xNe3 {a0 a1 a2 : Sl} {P : Ar → En → Prop} {C : Addr} {d : PyData} : xN 3 ⟨a0 :: a1 :: a2 :: .er C d :: l, n⟩ P X = P (.er C d) ⟨a0 :: a1 :: a2 :: .er C d :: l, n⟩ := id rfl
theorem z_xNs0 {P : Ar → En → Prop} {ns : List Int} : xN 0 ⟨.sq ns :: l, n⟩ P X = P (.sq ns) ⟨.sq ns :: l, n⟩ := id rfl
theorem z_xNs1 {a0 : Sl} {P : Ar → En → Prop} {ns : List Int} : xN 1 ⟨a0 :: .sq ns :: l, n⟩ P X = P (.sq ns) ⟨a0 :: .sq ns :: l, n⟩ := id rfl
theorem z_AppP0 {we : WE} {ds : List PyData} : wAppPre 0 we A X ⟨.ow ds :: l, n⟩ = we ⟨.ow ds :: l, n⟩ (kApp 0 A) X := id rfl
theorem z_AppP1 {a0 : Sl} {we : WE} {ds : List PyData} : wAppPre 1 we A X ⟨a0 :: .ow ds :: l, n⟩ = we ⟨a0 :: .ow ds :: l, n⟩ (kApp 1 A) X := id rfl
theorem z_AppP2 {a0 a1 : Sl} {we : WE} {ds : List PyData} : wAppPre 2 we A X ⟨a0 :: a1 :: .ow ds :: l, n⟩ = we ⟨a0 :: a1 :: .ow ds :: l, n⟩ (kApp 2 A) X := id rfl
theorem z_AppP3 {a0 a1 a2 : Sl} {we : WE} {ds : List PyData} : wAppPre 3 we A X ⟨a0 :: a1 :: a2 :: .ow ds :: l, n⟩ = we ⟨a0 :: a1 :: a2 :: .ow ds :: l, n⟩ (kApp 3 A) X := id rfl
theorem z_AppP4 {a0 a1 a2 a3 : Sl} {we : WE} {ds : List PyData} : wAppPre 4 we A X ⟨a0 :: a1 :: a2 :: a3 :: .ow ds :: l, n⟩ = we ⟨a0 :: a1 :: a2 :: a3 :: .ow ds :: l, n⟩ (kApp 4 A) X := id rfl
theorem z_AppP5 {a0 a1 a2 a3 a4 : Sl} {we : WE} {ds : List PyData} : wAppPre 5 we A X ⟨a0 :: a1 :: a2 :: a3 :: a4 :: .ow ds :: l, n⟩ = we ⟨a0 :: a1 :: a2 :: a3 :: a4 :: .ow ds :: l, n⟩ (kApp 5 A) X := id rfl
theorem z_AppP6 {a0 a1 a2 a3 a4 a5 : Sl} {we : WE} {ds : List PyData} : wAppPre 6 we A X ⟨a0 :: a1 :: a2 :: a3 :: a4 :: a5 :: .ow ds :: l, n⟩ = we ⟨a0 :: a1 :: a2 :: a3 :: a4 :: a5 :: .ow ds :: l, n⟩ (kApp 6 A) X := id rfl
theorem z_AppP7 {a0 a1 a2 a3 a4 a5 a6 : Sl} {we : WE} {ds : List PyData} : wAppPre 7 we A X ⟨a0 :: a1 :: a2 :: a3 :: a4 :: a5 :: a6 :: .ow ds :: l, n⟩ = we ⟨a0 :: a1 :: a2 :: a3 :: a4 :: a5 :: a6 :: .ow ds :: l, n⟩ (kApp 7 A) X := id rfl
theorem z_AppP8 {a0 a1 a2 a3 a4 a5 a6 a7 : Sl} {we : WE} {ds : List PyData} : wAppPre 8 we A X ⟨a0 :: a1 :: a2 :: a3 :: a4 :: a5 :: a6 :: a7 :: .ow ds :: l, n⟩ = we ⟨a0 :: a1 :: a2 :: a3 :: a4 :: a5 :: a6 :: a7 :: .ow ds :: l, n⟩ (kApp 8 A) X := id rfl
theorem z_AppP9 {a0 a1 a2 a3 a4 a5 a6 a7 a8 : Sl} {we : WE} {ds : List PyData} : wAppPre 9 we A X ⟨a0 :: a1 :: a2 :: a3 :: a4 :: a5 :: a6 :: a7 :: a8 :: .ow ds :: l, n⟩ = we ⟨a0 :: a1 :: a2 :: a3 :: a4 :: a5 :: a6 :: a7 :: a8 :: .ow ds :: l, n⟩ (kApp 9 A) X := id rfl
theorem z_AppP10 {a0 a1 a2 a3 a4 a5 a6 a7 a8 a9 : Sl} {we : WE} {ds : List PyData} : wAppPre 10 we A X ⟨a0 :: a1 :: a2 :: a3 :: a4 :: a5 :: a6 :: a7 :: a8 :: a9 :: .ow ds :: l, n⟩ = we ⟨a0 :: a1 :: a2 :: a3 :: a4 :: a5 :: a6 :: a7 :: a8 :: a9 :: .ow ds :: l, n⟩ (kApp 10 A) X := id rfl
theorem z_AppP11 {a0 a1 a2 a3 a4 a5 a6 a7 a8 a9 a10 : Sl} {we : WE} {ds : List PyData} : wAppPre 11 we A X ⟨a0 :: a1 :: a2 :: a3 :: a4 :: a5 :: a6 :: a7 :: a8 :: a9 :: a10 :: .ow ds :: l, n⟩ = we ⟨a0 :: a1 :: a2 :: a3 :: a4 :: a5 :: a6 :: a7 :: a8 :: a9 :: a10 :: .ow ds :: l, n⟩ (kApp 11 A) X := id rfl
theorem z_AppP12 {a0 a1 a2 a3 a4 a5 a6 a7 a8 a9 a10 a11 : Sl} {we : WE} {ds : List PyData} : wAppPre 12 we A X ⟨a0 :: a1 :: a2 :: a3 :: a4 :: a5 :: a6 :: a7 :: a8 :: a9 :: a10 :: a11 :: .ow ds :: l, n⟩ = we ⟨a0 :: a1 :: a2 :: a3 :: a4 :: a5 :: a6 :: a7 :: a8 :: a9 :: a10 :: a11 :: .ow ds :: l, n⟩ (kApp 12 A) X := id rfl
theorem z_AppP13 {a0 a1 a2 a3 a4 a5 a6 a7 a8 a9 a10 a11 a12 : Sl} {we : WE} {ds : List PyData} : wAppPre 13 we A X ⟨a0 :: a1 :: a2 :: a3 :: a4 :: a5 :: a6 :: a7 :: a8 :: a9 :: a10 :: a11 :: a12 :: .ow ds :: l, n⟩ = we ⟨a0 :: a1 :: a2 :: a3 :: a4 :: a5 :: a6 :: a7 :: a8 :: a9 :: a10 :: a11 :: a12 :: .ow ds :: l, n⟩ (kApp 13 A) X := id rfl
theorem z_AppP14 {a0 a1 a2 a3 a4 a5 a6 a7 a8 a9 a10 a11 a12 a13 : Sl} {we : WE} {ds : List PyData} : wAppPre 14 we A X ⟨a0 :: a1 :: a2 :: a3 :: a4 :: a5 :: a6 :: a7 :: a8 :: a9 :: a10 :: a11 :: a12 :: a13 :: .ow ds :: l, n⟩ = we ⟨a0 :: a1 :: a2 :: a3 :: a4 :: a5 :: a6 :: a7 :: a8 :: a9 :: a10 :: a11 :: a12 :: a13 :: .ow ds :: l, n⟩ (kApp 14 A) X := id rfl
theorem z_AppP15 {a0 a1 a2 a3 a4 a5 a6 a7 a8 a9 a10 a11 a12 a13 a14 : Sl} {we : WE} {ds : List PyData} : wAppPre 15 we A X ⟨a0 :: a1 :: a2 :: a3 :: a4 :: a5 :: a6 :: a7 :: a8 :: a9 :: a10 :: a11 :: a12 :: a13 :: a14 :: .ow ds :: l, n⟩ = we ⟨a0 :: a1 :: a2 :: a3 :: a4 :: a5 :: a6 :: a7 :: a8 :: a9 :: a10 :: a11 :: a12 :: a13 :: a14 :: .ow ds :: l, n⟩ (kApp 15 A) X := id rfl
theorem z_AppP16 {a0 a1 a2 a3 a4 a5 a6 a7 a8 a9 a10 a11 a12 a13 a14 a15 : Sl} {we : WE} {ds : List PyData} : wAppPre 16 we A X ⟨a0 :: a1 :: a2 :: a3 :: a4 :: a5 :: a6 :: a7 :: a8 :: a9 :: a10 :: a11 :: a12 :: a13 :: a14 :: a15 :: .ow ds :: l, n⟩ = we ⟨a0 :: a1 :: a2 :: a3 :: a4 :: a5 :: a6 :: a7 :: a8 :: a9 :: a10 :: a11 :: a12 :: a13 :: a14 :: a15 :: .ow ds :: l, n⟩ (kApp 16 A) X := id rfl
theorem z_AppP17 {a0 a1 a2 a3 a4 a5 a6 a7 a8 a9 a10 a11 a12 a13 a14 a15 a16 : Sl} {we : WE} {ds : List PyData} : wAppPre 17 we A X ⟨a0 :: a1 :: a2 :: a3 :: a4 :: a5 :: a6 :: a7 :: a8 :: a9 :: a10 :: a11 :: a12 :: a13 :: a14 :: a15 :: a16 :: .ow ds :: l, n⟩ = we ⟨a0 :: a1 :: a2 :: a3 :: a4 :: a5 :: a6 :: a7 :: a8 :: a9 :: a10 :: a11 :: a12 :: a13 :: a14 :: a15 :: a16 :: .ow ds :: l, n⟩ (kApp 17 A) X := id rfl
theorem z_AppP18 {a0 a1 a2 a3 a4 a5 a6 a7 a8 a9 a10 a11 a12 a13 a14 a15 a16 a17 : Sl} {we : WE} {ds : List PyData} : wAppPre 18 we A X ⟨a0 :: a1 :: a2 :: a3 :: a4 :: a5 :: a6 :: a7 :: a8 :: a9 :: a10 :: a11 :: a12 :: a13 :: a14 :: a15 :: a16 :: a17 :: .ow ds :: l, n⟩ = we ⟨a0 :: a1 :: a2 :: a3 :: a4 :: a5 :: a6 :: a7 :: a8 :: a9 :: a10 :: a11 :: a12 :: a13 :: a14 :: a15 :: a16 :: a17 :: .ow ds :: l, n⟩ (kApp 18 A) X := id rfl
theorem z_AppP19 {a0 a1 a2 a3 a4 a5 a6 a7 a8 a9 a10 a11 a12 a13 a14 a15 a16 a17 a18 : Sl} {we : WE} {ds : List PyData} : wAppPre 19 we A X ⟨a0 :: a1 :: a2 :: a3 :: a4 :: a5 :: a6 :: a7 :: a8 :: a9 :: a10 :: a11 :: a12 :: a13 :: a14 :: a15 :: a16 :: a17 :: a18 :: .ow ds :: l, n⟩ = we ⟨a0 :: a1 :: a2 :: a3 :: a4 :: a5 :: a6 :: a7 :: a8 :: a9 :: a10 :: a11 :: a12 :: a13 :: a14 :: a15 :: a16 :: a17 :: a18 :: .ow ds :: l, n⟩ (kApp 19 A) X := id rfl
theorem z_AppP20 {a0 a1 a2 a3 a4 a5 a6 a7 a8 a9 a10 a11 a12 a13 a14 a15 a16 a17 a18 a19 : Sl} {we : WE} {ds : List PyData} : wAppPre 20 we A X ⟨a0 :: a1 :: a2 :: a3 :: a4 :: a5 :: a6 :: a7 :: a8 :: a9 :: a10 :: a11 :: a12 :: a13 :: a14 :: a15 :: a16 :: a17 :: a18 :: a19 :: .ow ds :: l, n⟩ = we ⟨a0 :: a1 :: a2 :: a3 :: a4 :: a5 :: a6 :: a7 :: a8 :: a9 :: a10 :: a11 :: a12 :: a13 :: a14 :: a15 :: a16 :: a17 :: a18 :: a19 :: .ow ds :: l, n⟩ (kApp 20 A) X := id rfl
theorem z_AppP21 {a0 a1 a2 a3 a4 a5 a6 a7 a8 a9 a10 a11 a12 a13 a14 a15 a16 a17 a18 a19 a20 : Sl} {we : WE} {ds : List PyData} : wAppPre 21 we A X ⟨a0 :: a1 :: a2 :: a3 :: a4 :: a5 :: a6 :: a7 :: a8 :: a9 :: a10 :: a11 :: a12 :: a13 :: a14 :: a15 :: a16 :: a17 :: a18 :: a19 :: a20 :: .ow ds :: l, n⟩ = we ⟨a0 :: a1 :: a2 :: a3 :: a4 :: a5 :: a6 :: a7 :: a8 :: a9 :: a10 :: a11 :: a12 :: a13 :: a14 :: a15 :: a16 :: a17 :: a18 :: a19 :: a20 :: .ow ds :: l, n⟩ (kApp 21 A) X := id rfl
theorem z_AppP22 {a0 a1 a2 a3 a4 a5 a6 a7 a8 a9 a10 a11 a12 a13 a14 a15 a16 a17 a18 a19 a20 a21 : Sl} {we : WE} {ds : List PyData} : wAppPre 22 we A X ⟨a0 :: a1 :: a2 :: a3 :: a4 :: a5 :: a6 :: a7 :: a8 :: a9 :: a10 :: a11 :: a12 :: a13 :: a14 :: a15 :: a16 :: a17 :: a18 :: a19 :: a20 :: a21 :: .ow ds :: l, n⟩ = we ⟨a0 :: a1 :: a2 :: a3 :: a4 :: a5 :: a6 :: a7 :: a8 :: a9 :: a10 :: a11 :: a12 :: a13 :: a14 :: a15 :: a16 :: a17 :: a18 :: a19 :: a20 :: a21 :: .ow ds :: l, n⟩ (kApp 22 A) X := id rfl
theorem z_AppP23 {a0 a1 a2 a3 a4 a5 a6 a7 a8 a9 a10 a11 a12 a13 a14 a15 a16 a17 a18 a19 a20 a21 a22 : Sl} {we : WE} {ds : List PyData} : wAppPre 23 we A X ⟨a0 :: a1 :: a2 :: a3 :: a4 :: a5 :: a6 :: a7 :: a8 :: a9 :: a10 :: a11 :: a12 :: a13 :: a14 :: a15 :: a16 :: a17 :: a18 :: a19 :: a20 :: a21 :: a22 :: .ow ds :: l, n⟩ = we ⟨a0 :: a1 :: a2 :: a3 :: a4 :: a5 :: a6 :: a7 :: a8 :: a9 :: a10 :: a11 :: a12 :: a13 :: a14 :: a15 :: a16 :: a17 :: a18 :: a19 :: a20 :: a21 :: a22 :: .ow ds :: l, n⟩ (kApp 23 A) X := id rfl
theorem z_AppP24 {a0 a1 a2 a3 a4 a5 a6 a7 a8 a9 a10 a11 a12 a13 a14 a15 a16 a17 a18 a19 a20 a21 a22 a23 : Sl} {we : WE} {ds : List PyData} : wAppPre 24 we A X ⟨a0 :: a1 :: a2 :: a3 :: a4 :: a5 :: a6 :: a7 :: a8 :: a9 :: a10 :: a11 :: a12 :: a13 :: a14 :: a15 :: a16 :: a17 :: a18 :: a19 :: a20 :: a21 :: a22 :: a23 :: .ow ds :: l, n⟩ = we ⟨a0 :: a1 :: a2 :: a3 :: a4 :: a5 :: a6 :: a7 :: a8 :: a9 :: a10 :: a11 :: a12 :: a13 :: a14 :: a15 :: a16 :: a17 :: a18 :: a19 :: a20 :: a21 :: a22 :: a23 :: .ow ds :: l, n⟩ (kApp 24 A) X := id rfl
theorem z_AppP25 {a0 a1 a2 a3 a4 a5 a6 a7 a8 a9 a10 a11 a12 a13 a14 a15 a16 a17 a18 a19 a20 a21 a22 a23 a24 : Sl} {we : WE} {ds : List PyData} : wAppPre 25 we A X ⟨a0 :: a1 :: a2 :: a3 :: a4 :: a5 :: a6 :: a7 :: a8 :: a9 :: a10 :: a11 :: a12 :: a13 :: a14 :: a15 :: a16 :: a17 :: a18 :: a19 :: a20 :: a21 :: a22 :: a23 :: a24 :: .ow ds :: l, n⟩ = we ⟨a0 :: a1 :: a2 :: a3 :: a4 :: a5 :: a6 :: a7 :: a8 :: a9 :: a10 :: a11 :: a12 :: a13 :: a14 :: a15 :: a16 :: a17 :: a18 :: a19 :: a20 :: a21 :: a22 :: a23 :: a24 :: .ow ds :: l, n⟩ (kApp 25 A) X := id rfl
theorem y_App0 {d : PyData} {ds : List PyData} : kApp 0 A d ⟨.ow ds :: l, n⟩ = (ds.length < 1000000 ∧ A.nx ⟨.ow (ds ++ [d]) :: l, n⟩) := id rfl
theorem y_App1 {a0 : Sl} {d : PyData} {ds : List PyData} : kApp 1 A d ⟨a0 :: .ow ds :: l, n⟩ = (ds.length < 1000000 ∧ A.nx ⟨a0 :: .ow (ds ++ [d]) :: l, n⟩) := id rfl
theorem y_App2 {a0 a1 : Sl} {d : PyData} {ds : List PyData} : kApp 2 A d ⟨a0 :: a1 :: .ow ds :: l, n⟩ = (ds.length < 1000000 ∧ A.nx ⟨a0 :: a1 :: .ow (ds ++ [d]) :: l, n⟩) := id rfl
theorem y_App3 {a0 a1 a2 : Sl} {d : PyData} {ds : List PyData} : kApp 3 A d ⟨a0 :: a1 :: a2 :: .ow ds :: l, n⟩ = (ds.length < 1000000 ∧ A.nx ⟨a0 :: a1 :: a2 :: .ow (ds ++ [d]) :: l, n⟩) := id rfl
theorem y_App4 {a0 a1 a2 a3 : Sl} {d : PyData} {ds : List PyData} : kApp 4 A d ⟨a0 :: a1 :: a2 :: a3 :: .ow ds :: l, n⟩ = (ds.length < 1000000 ∧ A.nx ⟨a0 :: a1 :: a2 :: a3 :: .ow (ds ++ [d]) :: l, n⟩) := id rfl
theorem y_App5 {a0 a1 a2 a3 a4 : Sl} {d : PyData} {ds : List PyData} : kApp 5 A d ⟨a0 :: a1 :: a2 :: a3 :: a4 :: .ow ds :: l, n⟩ = (ds.length < 1000000 ∧ A.nx ⟨a0 :: a1 :: a2 :: a3 :: a4 :: .ow (ds ++ [d]) :: l, n⟩) := id rfl
theorem y_App6 {a0 a1 a2 a3 a4 a5 : Sl} {d : PyData} {ds : List PyData} : kApp 6 A d ⟨a0 :: a1 :: a2 :: a3 :: a4 :: a5 :: .ow ds :: l, n⟩ = (ds.length < 1000000 ∧ A.nx ⟨a0 :: a1 :: a2 :: a3 :: a4 :: a5 :: .ow (ds ++ [d]) :: l, n⟩) := id rfl
theorem y_App7 {a0 a1 a2 a3 a4 a5 a6 : Sl} {d : PyData} {ds : List PyData} : kApp 7 A d ⟨a0 :: a1 :: a2 :: a3 :: a4 :: a5 :: a6 :: .ow ds :: l, n⟩ = (ds.length < 1000000 ∧ A.nx ⟨a0 :: a1 :: a2 :: a3 :: a4 :: a5 :: a6 :: .ow (ds ++ [d]) :: l, n⟩) := id rfl
theorem y_App8 {a0 a1 a2 a3 a4 a5 a6 a7 : Sl} {d : PyData} {ds : List PyData} : kApp 8 A d ⟨a0 :: a1 :: a2 :: a3 :: a4 :: a5 :: a6 :: a7 :: .ow ds :: l, n⟩ = (ds.length < 1000000 ∧ A.nx ⟨a0 :: a1 :: a2 :: a3 :: a4 :: a5 :: a6 :: a7 :: .ow (ds ++ [d]) :: l, n⟩) := id rfl
theorem y_App9 {a0 a1 a2 a3 a4 a5 a6 a7 a8 : Sl} {d : PyData} {ds : List PyData} : kApp 9 A d ⟨a0 :: a1 :: a2 :: a3 :: a4 :: a5 :: a6 :: a7 :: a8 :: .ow ds :: l, n⟩ = (ds.length < 1000000 ∧ A.nx ⟨a0 :: a1 :: a2 :: a3 :: a4 :: a5 :: a6 :: a7 :: a8 :: .ow (ds ++ [d]) :: l, n⟩) := id rfl
theorem y_App10 {a0 a1 a2 a3 a4 a5 a6 a7 a8 a9 : Sl} {d : PyData} {ds : List PyData} : kApp 10 A d ⟨a0 :: a1 :: a2 :: a3 :: a4 :: a5 :: a6 :: a7 :: a8 :: a9 :: .ow ds :: l, n⟩ = (ds.length < 1000000 ∧ A.nx ⟨a0 :: a1 :: a2 :: a3 :: a4 :: a5 :: a6 :: a7 :: a8 :: a9 :: .ow (ds ++ [d]) :: l, n⟩) := id rfl
theorem y_App11 {a0 a1 a2 a3 a4 a5 a6 a7 a8 a9 a10 : Sl} {d : PyData} {ds : List PyData} : kApp 11 A d ⟨a0 :: a1 :: a2 :: a3 :: a4 :: a5 :: a6 :: a7 :: a8 :: a9 :: a10 :: .ow ds :: l, n⟩ = (ds.length < 1000000 ∧ A.nx ⟨a0 :: a1 :: a2 :: a3 :: a4 :: a5 :: a6 :: a7 :: a8 :: a9 :: a10 :: .ow (ds ++ [d]) :: l, n⟩) := id rfl
theorem y_App12 {a0 a1 a2 a3 a4 a5 a6 a7 a8 a9 a10 a11 : Sl} {d : PyData} {ds : List PyData} : kApp 12 A d ⟨a0 :: a1 :: a2 :: a3 :: a4 :: a5 :: a6 :: a7 :: a8 :: a9 :: a10 :: a11 :: .ow ds :: l, n⟩ = (ds.length < 1000000 ∧ A.nx ⟨a0 :: a1 :: a2 :: a3 :: a4 :: a5 :: a6 :: a7 :: a8 :: a9 :: a10 :: a11 :: .ow (ds ++ [d]) :: l, n⟩) := id rfl
theorem y_App13 {a0 a1 a2 a3 a4 a5 a6 a7 a8 a9 a10 a11 a12 : Sl} {d : PyData} {ds : List PyData} : kApp 13 A d ⟨a0 :: a1 :: a2 :: a3 :: a4 :: a5 :: a6 :: a7 :: a8 :: a9 :: a10 :: a11 :: a12 :: .ow ds :: l, n⟩ = (ds.length < 1000000 ∧ A.nx ⟨a0 :: a1 :: a2 :: a3 :: a4 :: a5 :: a6 :: a7 :: a8 :: a9 :: a10 :: a11 :: a12 :: .ow (ds ++ [d]) :: l, n⟩) := id rfl
theorem y_App14 {a0 a1 a2 a3 a4 a5 a6 a7 a8 a9 a10 a11 a12 a13 : Sl} {d : PyData} {ds : List PyData} : kApp 14 A d ⟨a0 :: a1 :: a2 :: a3 :: a4 :: a5 :: a6 :: a7 :: a8 :: a9 :: a10 :: a11 :: a12 :: a13 :: .ow ds :: l, n⟩ = (ds.length < 1000000 ∧ A.nx ⟨a0 :: a1 :: a2 :: a3 :: a4 :: a5 :: a6 :: a7 :: a8 :: a9 :: a10 :: a11 :: a12 :: a13 :: .ow (ds ++ [d]) :: l, n⟩) := id rfl
theorem y_App15 {a0 a1 a2 a3 a4 a5 a6 a7 a8 a9 a10 a11 a12 a13 a14 : Sl} {d : PyData} {ds : List PyData} : kApp 15 A d ⟨a0 :: a1 :: a2 :: a3 :: a4 :: a5 :: a6 :: a7 :: a8 :: a9 :: a10 :: a11 :: a12 :: a13 :: a14 :: .ow ds :: l, n⟩ = (ds.length < 1000000 ∧ A.nx ⟨a0 :: a1 :: a2 :: a3 :: a4 :: a5 :: a6 :: a7 :: a8 :: a9 :: a10 :: a11 :: a12 :: a13 :: a14 :: .ow (ds ++ [d]) :: l, n⟩) := id rfl
theorem y_App16 {a0 a1 a2 a3 a4 a5 a6 a7 a8 a9 a10 a11 a12 a13 a14 a15 : Sl} {d : PyData} {ds : List PyData} : kApp 16 A d ⟨a0 :: a1 :: a2 :: a3 :: a4 :: a5 :: a6 :: a7 :: a8 :: a9 :: a10 :: a11 :: a12 :: a13 :: a14 :: a15 :: .ow ds :: l, n⟩ = (ds.length < 1000000 ∧ A.nx ⟨a0 :: a1 :: a2 :: a3 :: a4 :: a5 :: a6 :: a7 :: a8 :: a9 :: a10 :: a11 :: a12 :: a13 :: a14 :: a15 :: .ow (ds ++ [d]) :: l, n⟩) := id rfl
theorem y_App17 {a0 a1 a2 a3 a4 a5 a6 a7 a8 a9 a10 a11 a12 a13 a14 a15 a16 : Sl} {d : PyData} {ds : List PyData} : kApp 17 A d ⟨a0 :: a1 :: a2 :: a3 :: a4 :: a5 :: a6 :: a7 :: a8 :: a9 :: a10 :: a11 :: a12 :: a13 :: a14 :: a15 :: a16 :: .ow ds :: l, n⟩ = (ds.length < 1000000 ∧ A.nx ⟨a0 :: a1 :: a2 :: a3 :: a4 :: a5 :: a6 :: a7 :: a8 :: a9 :: a10 :: a11 :: a12 :: a13 :: a14 :: a15 :: a16 :: .ow (ds ++ [d]) :: l, n⟩) := id rfl
theorem y_App18 {a0 a1 a2 a3 a4 a5 a6 a7 a8 a9 a10 a11 a12 a13 a14 a15 a16 a17 : Sl} {d : PyData} {ds : List PyData} : kApp 18 A d ⟨a0 :: a1 :: a2 :: a3 :: a4 :: a5 :: a6 :: a7 :: a8 :: a9 :: a10 :: a11 :: a12 :: a13 :: a14 :: a15 :: a16 :: a17 :: .ow ds :: l, n⟩ = (ds.length < 1000000 ∧ A.nx ⟨a0 :: a1 :: a2 :: a3 :: a4 :: a5 :: a6 :: a7 :: a8 :: a9 :: a10 :: a11 :: a12 :: a13 :: a14 :: a15 :: a16 :: a17 :: .ow (ds ++ [d]) :: l, n⟩) := id rfl
theorem y_App19 {a0 a1 a2 a3 a4 a5 a6 a7 a8 a9 a10 a11 a12 a13 a14 a15 a16 a17 a18 : Sl} {d : PyData} {ds : List PyData} : kApp 19 A d ⟨a0 :: a1 :: a2 :: a3 :: a4 :: a5 :: a6 :: a7 :: a8 :: a9 :: a10 :: a11 :: a12 :: a13 :: a14 :: a15 :: a16 :: a17 :: a18 :: .ow ds :: l, n⟩ = (ds.length < 1000000 ∧ A.nx ⟨a0 :: a1 :: a2 :: a3 :: a4 :: a5 :: a6 :: a7 :: a8 :: a9 :: a10 :: a11 :: a12 :: a13 :: a14 :: a15 :: a16 :: a17 :: a18 :: .ow (ds ++ [d]) :: l, n⟩) := id rfl
theorem y_App20 {a0 a1 a2 a3 a4 a5 a6 a7 a8 a9 a10 a11 a12 a13 a14 a15 a16 a17 a18 a19 : Sl} {d : PyData} {ds : List PyData} : kApp 20 A d ⟨a0 :: a1 :: a2 :: a3 :: a4 :: a5 :: a6 :: a7 :: a8 :: a9 :: a10 :: a11 :: a12 :: a13 :: a14 :: a15 :: a16 :: a17 :: a18 :: a19 :: .ow ds :: l, n⟩ = (ds.length < 1000000 ∧ A.nx ⟨a0 :: a1 :: a2 :: a3 :: a4 :: a5 :: a6 :: a7 :: a8 :: a9 :: a10 :: a11 :: a12 :: a13 :: a14 :: a15 :: a16 :: a17 :: a18 :: a19 :: .ow (ds ++ [d]) :: l, n⟩) := id rfl
theorem y_App21 {a0 a1 a2 a3 a4 a5 a6 a7 a8 a9 a10 a11 a12 a13 a14 a15 a16 a17 a18 a19 a20 : Sl} {d : PyData} {ds : List PyData} : kApp 21 A d ⟨a0 :: a1 :: a2 :: a3 :: a4 :: a5 :: a6 :: a7 :: a8 :: a9 :: a10 :: a11 :: a12 :: a13 :: a14 :: a15 :: a16 :: a17 :: a18 :: a19 :: a20 :: .ow ds :: l, n⟩ = (ds.length < 1000000 ∧ A.nx ⟨a0 :: a1 :: a2 :: a3 :: a4 :: a5 :: a6 :: a7 :: a8 :: a9 :: a10 :: a11 :: a12 :: a13 :: a14 :: a15 :: a16 :: a17 :: a18 :: a19 :: a20 :: .ow (ds ++ [d]) :: l, n⟩) := id rfl
theorem y_App22 {a0 a1 a2 a3 a4 a5 a6 a7 a8 a9 a10 a11 a12 a13 a14 a15 a16 a17 a18 a19 a20 a21 : Sl} {d : PyData} {ds : List PyData} : kApp 22 A d ⟨a0 :: a1 :: a2 :: a3 :: a4 :: a5 :: a6 :: a7 :: a8 :: a9 :: a10 :: a11 :: a12 :: a13 :: a14 :: a15 :: a16 :: a17 :: a18 :: a19 :: a20 :: a21 :: .ow ds :: l, n⟩ = (ds.length < 1000000 ∧ A.nx ⟨a0 :: a1 :: a2 :: a3 :: a4 :: a5 :: a6 :: a7 :: a8 :: a9 :: a10 :: a11 :: a12 :: a13 :: a14 :: a15 :: a16 :: a17 :: a18 :: a19 :: a20 :: a21 :: .ow (ds ++ [d]) :: l, n⟩) := id rfl
theorem y_App23 {a0 a1 a2 a3 a4 a5 a6 a7 a8 a9 a10 a11 a12 a13 a14 a15 a16 a17 a18 a19 a20 a21 a22 : Sl} {d : PyData} {ds : List PyData} : kApp 23 A d ⟨a0 :: a1 :: a2 :: a3 :: a4 :: a5 :: a6 :: a7 :: a8 :: a9 :: a10 :: a11 :: a12 :: a13 :: a14 :: a15 :: a16 :: a17 :: a18 :: a19 :: a20 :: a21 :: a22 :: .ow ds :: l, n⟩ = (ds.length < 1000000 ∧ A.nx ⟨a0 :: a1 :: a2 :: a3 :: a4 :: a5 :: a6 :: a7 :: a8 :: a9 :: a10 :: a11 :: a12 :: a13 :: a14 :: a15 :: a16 :: a17 :: a18 :: a19 :: a20 :: a21 :: a22 :: .ow (ds ++ [d]) :: l, n⟩) := id rfl
theorem y_App24 {a0 a1 a2 a3 a4 a5 a6 a7 a8 a9 a10 a11 a12 a13 a14 a15 a16 a17 a18 a19 a20 a21 a22 a23 : Sl} {d : PyData} {ds : List PyData} : kApp 24 A d ⟨a0 :: a1 :: a2 :: a3 :: a4 :: a5 :: a6 :: a7 :: a8 :: a9 :: a10 :: a11 :: a12 :: a13 :: a14 :: a15 :: a16 :: a17 :: a18 :: a19 :: a20 :: a21 :: a22 :: a23 :: .ow ds :: l, n⟩ = (ds.length < 1000000 ∧ A.nx ⟨a0 :: a1 :: a2 :: a3 :: a4 :: a5 :: a6 :: a7 :: a8 :: a9 :: a10 :: a11 :: a12 :: a13 :: a14 :: a15 :: a16 :: a17 :: a18 :: a19 :: a20 :: a21 :: a22 :: a23 :: .ow (ds ++ [d]) :: l, n⟩) := id rfl
theorem y_App25 {a0 a1 a2 a3 a4 a5 a6 a7 a8 a9 a10 a11 a12 a13 a14 a15 a16 a17 a18 a19 a20 a21 a22 a23 a24 : Sl} {d : PyData} {ds : List PyData} : kApp 25 A d ⟨a0 :: a1 :: a2 :: a3 :: a4 :: a5 :: a6 :: a7 :: a8 :: a9 :: a10 :: a11 :: a12 :: a13 :: a14 :: a15 :: a16 :: a17 :: a18 :: a19 :: a20 :: a21 :: a22 :: a23 :: a24 :: .ow ds :: l, n⟩ = (ds.length < 1000000 ∧ A.nx ⟨a0 :: a1 :: a2 :: a3 :: a4 :: a5 :: a6 :: a7 :: a8 :: a9 :: a10 :: a11 :: a12 :: a13 :: a14 :: a15 :: a16 :: a17 :: a18 :: a19 :: a20 :: a21 :: a22 :: a23 :: a24 :: .ow (ds ++ [d]) :: l, n⟩) := id rfl
theorem z_Aug0 {we : WE} {d : PyData} {f : PyData → PyData → (PyData → Prop) → Prop} : wAug 0 f we A X ⟨.da d :: l, n⟩ = we ⟨.da d :: l, n⟩ (kAug 0 f A d) X := id rfl
theorem z_Aug1 {a0 : Sl} {we : WE} {d : PyData} {f : PyData → PyData → (PyData → Prop) → Prop} : wAug 1 f we A X ⟨a0 :: .da d :: l, n⟩ = we ⟨a0 :: .da d :: l, n⟩ (kAug 1 f A d) X := id rfl
theorem z_Aug2 {a0 a1 : Sl} {we : WE} {d : PyData} {f : PyData → PyData → (PyData → Prop) → Prop} : wAug 2 f we A X ⟨a0 :: a1 :: .da d :: l, n⟩ = we ⟨a0 :: a1 :: .da d :: l, n⟩ (kAug 2 f A d) X := id rfl
theorem z_Aug3 {a0 a1 a2 : Sl} {we : WE} {d : PyData} {f : PyData → PyData → (PyData → Prop) → Prop} : wAug 3 f we A X ⟨a0 :: a1 :: a2 :: .da d :: l, n⟩ = we ⟨a0 :: a1 :: a2 :: .da d :: l, n⟩ (kAug 3 f A d) X := id rfl
theorem z_Aug4 {a0 a1 a2 a3 : Sl} {we : WE} {d : PyData} {f : PyData → PyData → (PyData → Prop) → Prop} : wAug 4 f we A X ⟨a0 :: a1 :: a2 :: a3 :: .da d :: l, n⟩ = we ⟨a0 :: a1 :: a2 :: a3 :: .da d :: l, n⟩ (kAug 4 f A d) X := id rfl
theorem z_Aug5 {a0 a1 a2 a3 a4 : Sl} {we : WE} {d : PyData} {f : PyData → PyData → (PyData → Prop) → Prop} : wAug 5 f we A X ⟨a0 :: a1 :: a2 :: a3 :: a4 :: .da d :: l, n⟩ = we ⟨a0 :: a1 :: a2 :: a3 :: a4 :: .da d :: l, n⟩ (kAug 5 f A d) X := id rfl
theorem z_Aug6 {a0 a1 a2 a3 a4 a5 : Sl} {we : WE} {d : PyData} {f : PyData → PyData → (PyData → Prop) → Prop} : wAug 6 f we A X ⟨a0 :: a1 :: a2 :: a3 :: a4 :: a5 :: .da d :: l, n⟩ = we ⟨a0 :: a1 :: a2 :: a3 :: a4 :: a5 :: .da d :: l, n⟩ (kAug 6 f A d) X := id rfl
theorem z_Aug7 {a0 a1 a2 a3 a4 a5 a6 : Sl} {we : WE} {d : PyData} {f : PyData → PyData → (PyData → Prop) → Prop} : wAug 7 f we A X ⟨a0 :: a1 :: a2 :: a3 :: a4 :: a5 :: a6 :: .da d :: l, n⟩ = we ⟨a0 :: a1 :: a2 :: a3 :: a4 :: a5 :: a6 :: .da d :: l, n⟩ (kAug 7 f A d) X := id rfl
theorem z_Aug8 {a0 a1 a2 a3 a4 a5 a6 a7 : Sl} {we : WE} {d : PyData} {f : PyData → PyData → (PyData → Prop) → Prop} : wAug 8 f we A X ⟨a0 :: a1 :: a2 :: a3 :: a4 :: a5 :: a6 :: a7 :: .da d :: l, n⟩ = we ⟨a0 :: a1 :: a2 :: a3 :: a4 :: a5 :: a6 :: a7 :: .da d :: l, n⟩ (kAug 8 f A d) X := id rfl
theorem z_Aug9 {a0 a1 a2 a3 a4 a5 a6 a7 a8 : Sl} {we : WE} {d : PyData} {f : PyData → PyData → (PyData → Prop) → Prop} : wAug 9 f we A X ⟨a0 :: a1 :: a2 :: a3 :: a4 :: a5 :: a6 :: a7 :: a8 :: .da d :: l, n⟩ = we ⟨a0 :: a1 :: a2 :: a3 :: a4 :: a5 :: a6 :: a7 :: a8 :: .da d :: l, n⟩ (kAug 9 f A d) X := id rfl
theorem z_Aug10 {a0 a1 a2 a3 a4 a5 a6 a7 a8 a9 : Sl} {we : WE} {d : PyData} {f : PyData → PyData → (PyData → Prop) → Prop} : wAug 10 f we A X ⟨a0 :: a1 :: a2 :: a3 :: a4 :: a5 :: a6 :: a7 :: a8 :: a9 :: .da d :: l, n⟩ = we ⟨a0 :: a1 :: a2 :: a3 :: a4 :: a5 :: a6 :: a7 :: a8 :: a9 :: .da d :: l, n⟩ (kAug 10 f A d) X := id rfl
theorem z_Aug11 {a0 a1 a2 a3 a4 a5 a6 a7 a8 a9 a10 : Sl} {we : WE} {d : PyData} {f : PyData → PyData → (PyData → Prop) → Prop} : wAug 11 f we A X ⟨a0 :: a1 :: a2 :: a3 :: a4 :: a5 :: a6 :: a7 :: a8 :: a9 :: a10 :: .da d :: l, n⟩ = we ⟨a0 :: a1 :: a2 :: a3 :: a4 :: a5 :: a6 :: a7 :: a8 :: a9 :: a10 :: .da d :: l, n⟩ (kAug 11 f A d) X := id rfl
theorem z_Aug12 {a0 a1 a2 a3 a4 a5 a6 a7 a8 a9 a10 a11 : Sl} {we : WE} {d : PyData} {f : PyData → PyData → (PyData → Prop) → Prop} : wAug 12 f we A X ⟨a0 :: a1 :: a2 :: a3 :: a4 :: a5 :: a6 :: a7 :: a8 :: a9 :: a10 :: a11 :: .da d :: l, n⟩ = we ⟨a0 :: a1 :: a2 :: a3 :: a4 :: a5 :: a6 :: a7 :: a8 :: a9 :: a10 :: a11 :: .da d :: l, n⟩ (kAug 12 f A d) X := id rfl
theorem z_Aug13 {a0 a1 a2 a3 a4 a5 a6 a7 a8 a9 a10 a11 a12 : Sl} {we : WE} {d : PyData} {f : PyData → PyData → (PyData → Prop) → Prop} : wAug 13 f we A X ⟨a0 :: a1 :: a2 :: a3 :: a4 :: a5 :: a6 :: a7 :: a8 :: a9 :: a10 :: a11 :: a12 :: .da d :: l, n⟩ = we ⟨a0 :: a1 :: a2 :: a3 :: a4 :: a5 :: a6 :: a7 :: a8 :: a9 :: a10 :: a11 :: a12 :: .da d :: l, n⟩ (kAug 13 f A d) X := id rfl
theorem z_Aug14 {a0 a1 a2 a3 a4 a5 a6 a7 a8 a9 a10 a11 a12 a13 : Sl} {we : WE} {d : PyData} {f : PyData → PyData → (PyData → Prop) → Prop} : wAug 14 f we A X ⟨a0 :: a1 :: a2 :: a3 :: a4 :: a5 :: a6 :: a7 :: a8 :: a9 :: a10 :: a11 :: a12 :: a13 :: .da d :: l, n⟩ = we ⟨a0 :: a1 :: a2 :: a3 :: a4 :: a5 :: a6 :: a7 :: a8 :: a9 :: a10 :: a11 :: a12 :: a13 :: .da d :: l, n⟩ (kAug 14 f A d) X := id rfl
theorem z_Aug15 {a0 a1 a2 a3 a4 a5 a6 a7 a8 a9 a10 a11 a12 a13 a14 : Sl} {we : WE} {d : PyData} {f : PyData → PyData → (PyData → Prop) → Prop} : wAug 15 f we A X ⟨a0 :: a1 :: a2 :: a3 :: a4 :: a5 :: a6 :: a7 :: a8 :: a9 :: a10 :: a11 :: a12 :: a13 :: a14 :: .da d :: l, n⟩ = we ⟨a0 :: a1 :: a2 :: a3 :: a4 :: a5 :: a6 :: a7 :: a8 :: a9 :: a10 :: a11 :: a12 :: a13 :: a14 :: .da d :: l, n⟩ (kAug 15 f A d) X := id rfl
theorem z_Aug16 {a0 a1 a2 a3 a4 a5 a6 a7 a8 a9 a10 a11 a12 a13 a14 a15 : Sl} {we : WE} {d : PyData} {f : PyData → PyData → (PyData → Prop) → Prop} : wAug 16 f we A X ⟨a0 :: a1 :: a2 :: a3 :: a4 :: a5 :: a6 :: a7 :: a8 :: a9 :: a10 :: a11 :: a12 :: a13 :: a14 :: a15 :: .da d :: l, n⟩ = we ⟨a0 :: a1 :: a2 :: a3 :: a4 :: a5 :: a6 :: a7 :: a8 :: a9 :: a10 :: a11 :: a12 :: a13 :: a14 :: a15 :: .da d :: l, n⟩ (kAug 16 f A d) X := id rfl
theorem z_Aug17 {a0 a1 a2 a3 a4 a5 a6 a7 a8 a9 a10 a11 a12 a13 a14 a15 a16 : Sl} {we : WE} {d : PyData} {f : PyData → PyData → (PyData → Prop) → Prop} : wAug 17 f we A X ⟨a0 :: a1 :: a2 :: a3 :: a4 :: a5 :: a6 :: a7 :: a8 :: a9 :: a10 :: a11 :: a12 :: a13 :: a14 :: a15 :: a16 :: .da d :: l, n⟩ = we ⟨a0 :: a1 :: a2 :: a3 :: a4 :: a5 :: a6 :: a7 :: a8 :: a9 :: a10 :: a11 :: a12 :: a13 :: a14 :: a15 :: a16 :: .da d :: l, n⟩ (kAug 17 f A d) X := id rfl
theorem z_Aug18 {a0 a1 a2 a3 a4 a5 a6 a7 a8 a9 a10 a11 a12 a13 a14 a15 a16 a17 : Sl} {we : WE} {d : PyData} {f : PyData → PyData → (PyData → Prop) → Prop} : wAug 18 f we A X ⟨a0 :: a1 :: a2 :: a3 :: a4 :: a5 :: a6 :: a7 :: a8 :: a9 :: a10 :: a11 :: a12 :: a13 :: a14 :: a15 :: a16 :: a17 :: .da d :: l, n⟩ = we ⟨a0 :: a1 :: a2 :: a3 :: a4 :: a5 :: a6 :: a7 :: a8 :: a9 :: a10 :: a11 :: a12 :: a13 :: a14 :: a15 :: a16 :: a17 :: .da d :: l, n⟩ (kAug 18 f A d) X := id rfl
theorem z_Aug19 {a0 a1 a2 a3 a4 a5 a6 a7 a8 a9 a10 a11 a12 a13 a14 a15 a16 a17 a18 : Sl} {we : WE} {d : PyData} {f : PyData → PyData → (PyData → Prop) → Prop} : wAug 19 f we A X ⟨a0 :: a1 :: a2 :: a3 :: a4 :: a5 :: a6 :: a7 :: a8 :: a9 :: a10 :: a11 :: a12 :: a13 :: a14 :: a15 :: a16 :: a17 :: a18 :: .da d :: l, n⟩ = we ⟨a0 :: a1 :: a2 :: a3 :: a4 :: a5 :: a6 :: a7 :: a8 :: a9 :: a10 :: a11 :: a12 :: a13 :: a14 :: a15 :: a16 :: a17 :: a18 :: .da d :: l, n⟩ (kAug 19 f A d) X := id rfl
theorem z_Aug20 {a0 a1 a2 a3 a4 a5 a6 a7 a8 a9 a10 a11 a12 a13 a14 a15 a16 a17 a18 a19 : Sl} {we : WE} {d : PyData} {f : PyData → PyData → (PyData → Prop) → Prop} : wAug 20 f we A X ⟨a0 :: a1 :: a2 :: a3 :: a4 :: a5 :: a6 :: a7 :: a8 :: a9 :: a10 :: a11 :: a12 :: a13 :: a14 :: a15 :: a16 :: a17 :: a18 :: a19 :: .da d :: l, n⟩ = we ⟨a0 :: a1 :: a2 :: a3 :: a4 :: a5 :: a6 :: a7 :: a8 :: a9 :: a10 :: a11 :: a12 :: a13 :: a14 :: a15 :: a16 :: a17 :: a18 :: a19 :: .da d :: l, n⟩ (kAug 20 f A d) X := id rfl
theorem z_Aug21 {a0 a1 a2 a3 a4 a5 a6 a7 a8 a9 a10 a11 a12 a13 a14 a15 a16 a17 a18 a19 a20 : Sl} {we : WE} {d : PyData} {f : PyData → PyData → (PyData → Prop) → Prop} : wAug 21 f we A X ⟨a0 :: a1 :: a2 :: a3 :: a4 :: a5 :: a6 :: a7 :: a8 :: a9 :: a10 :: a11 :: a12 :: a13 :: a14 :: a15 :: a16 :: a17 :: a18 :: a19 :: a20 :: .da d :: l, n⟩ = we ⟨a0 :: a1 :: a2 :: a3 :: a4 :: a5 :: a6 :: a7 :: a8 :: a9 :: a10 :: a11 :: a12 :: a13 :: a14 :: a15 :: a16 :: a17 :: a18 :: a19 :: a20 :: .da d :: l, n⟩ (kAug 21 f A d) X := id rfl
theorem z_Aug22 {a0 a1 a2 a3 a4 a5 a6 a7 a8 a9 a10 a11 a12 a13 a14 a15 a16 a17 a18 a19 a20 a21 : Sl} {we : WE} {d : PyData} {f : PyData → PyData → (PyData → Prop) → Prop} : wAug 22 f we A X ⟨a0 :: a1 :: a2 :: a3 :: a4 :: a5 :: a6 :: a7 :: a8 :: a9 :: a10 :: a11 :: a12 :: a13 :: a14 :: a15 :: a16 :: a17 :: a18 :: a19 :: a20 :: a21 :: .da d :: l, n⟩ = we ⟨a0 :: a1 :: a2 :: a3 :: a4 :: a5 :: a6 :: a7 :: a8 :: a9 :: a10 :: a11 :: a12 :: a13 :: a14 :: a15 :: a16 :: a17 :: a18 :: a19 :: a20 :: a21 :: .da d :: l, n⟩ (kAug 22 f A d) X := id rfl
theorem z_Aug23 {a0 a1 a2 a3 a4 a5 a6 a7 a8 a9 a10 a11 a12 a13 a14 a15 a16 a17 a18 a19 a20 a21 a22 : Sl} {we : WE} {d : PyData} {f : PyData → PyData → (PyData → Prop) → Prop} : wAug 23 f we A X ⟨a0 :: a1 :: a2 :: a3 :: a4 :: a5 :: a6 :: a7 :: a8 :: a9 :: a10 :: a11 :: a12 :: a13 :: a14 :: a15 :: a16 :: a17 :: a18 :: a19 :: a20 :: a21 :: a22 :: .da d :: l, n⟩ = we ⟨a0 :: a1 :: a2 :: a3 :: a4 :: a5 :: a6 :: a7 :: a8 :: a9 :: a10 :: a11 :: a12 :: a13 :: a14 :: a15 :: a16 :: a17 :: a18 :: a19 :: a20 :: a21 :: a22 :: .da d :: l, n⟩ (kAug 23 f A d) X := id rfl
theorem z_Aug24 {a0 a1 a2 a3 a4 a5 a6 a7 a8 a9 a10 a11 a12 a13 a14 a15 a16 a17 a18 a19 a20 a21 a22 a23 : Sl} {we : WE} {d : PyData} {f : PyData → PyData → (PyData → Prop) → Prop} : wAug 24 f we A X ⟨a0 :: a1 :: a2 :: a3 :: a4 :: a5 :: a6 :: a7 :: a8 :: a9 :: a10 :: a11 :: a12 :: a13 :: a14 :: a15 :: a16 :: a17 :: a18 :: a19 :: a20 :: a21 :: a22 :: a23 :: .da d :: l, n⟩ = we ⟨a0 :: a1 :: a2 :: a3 :: a4 :: a5 :: a6 :: a7 :: a8 :: a9 :: a10 :: a11 :: a12 :: a13 :: a14 :: a15 :: a16 :: a17 :: a18 :: a19 :: a20 :: a21 :: a22 :: a23 :: .da d :: l, n⟩ (kAug 24 f A d) X := id rfl
theorem z_Aug25 {a0 a1 a2 a3 a4 a5 a6 a7 a8 a9 a10 a11 a12 a13 a14 a15 a16 a17 a18 a19 a20 a21 a22 a23 a24 : Sl} {we : WE} {d : PyData} {f : PyData → PyData → (PyData → Prop) → Prop} : wAug 25 f we A X ⟨a0 :: a1 :: a2 :: a3 :: a4 :: a5 :: a6 :: a7 :: a8 :: a9 :: a10 :: a11 :: a12 :: a13 :: a14 :: a15 :: a16 :: a17 :: a18 :: a19 :: a20 :: a21 :: a22 :: a23 :: a24 :: .da d :: l, n⟩ = we ⟨a0 :: a1 :: a2 :: a3 :: a4 :: a5 :: a6 :: a7 :: a8 :: a9 :: a10 :: a11 :: a12 :: a13 :: a14 :: a15 :: a16 :: a17 :: a18 :: a19 :: a20 :: a21 :: a22 :: a23 :: a24 :: .da d :: l, n⟩ (kAug 25 f A d) X := id rfl
theorem z_ErIs0 {P : PE'} {kit : Addr → Option Bool} {C : Addr} {d : PyData} : wErIs 0 kit ⟨.er C d :: l, n⟩ P X = kErIs (kit C) P ⟨.er C d :: l, n⟩ := id rfl
theorem z_ErIs1 {a0 : Sl} {P : PE'} {kit : Addr → Option Bool} {C : Addr} {d : PyData} : wErIs 1 kit ⟨a0 :: .er C d :: l, n⟩ P X = kErIs (kit C) P ⟨a0 :: .er C d :: l, n⟩ := id rfl
theorem z_ErIs2 {a0 a1 : Sl} {P : PE'} {kit : Addr → Option Bool} {C : Addr} {d : PyData} : wErIs 2 kit ⟨a0 :: a1 :: .er C d :: l, n⟩ P X = kErIs (kit C) P ⟨a0 :: a1 :: .er C d :: l, n⟩ := id rfl
theorem z_ErIs3 {a0 a1 a2 : Sl} {P : PE'} {kit : Addr → Option Bool} {C : Addr} {d : PyData} : wErIs 3 kit ⟨a0 :: a1 :: a2 :: .er C d :: l, n⟩ P X = kErIs (kit C) P ⟨a0 :: a1 :: a2 :: .er C d :: l, n⟩ := id rfl
theorem z_ErIs4 {a0 a1 a2 a3 : Sl} {P : PE'} {kit : Addr → Option Bool} {C : Addr} {d : PyData} : wErIs 4 kit ⟨a0 :: a1 :: a2 :: a3 :: .er C d :: l, n⟩ P X = kErIs (kit C) P ⟨a0 :: a1 :: a2 :: a3 :: .er C d :: l, n⟩ := id rfl
theorem z_ErVal0 {P : PE'} {ok : Addr → Prop} {C : Addr} {d : PyData} : wErVal 0 ok ⟨.er C d :: l, n⟩ P X = (ok C ∧ P d ⟨.er C d :: l, n⟩) := id rfl
theorem z_ErVal1 {a0 : Sl} {P : PE'} {ok : Addr → Prop} {C : Addr} {d : PyData} : wErVal 1 ok ⟨a0 :: .er C d :: l, n⟩ P X = (ok C ∧ P d ⟨a0 :: .er C d :: l, n⟩) := id rfl
theorem z_ErVal2 {a0 a1 : Sl} {P : PE'} {ok : Addr → Prop} {C : Addr} {d : PyData} : wErVal 2 ok ⟨a0 :: a1 :: .er C d :: l, n⟩ P X = (ok C ∧ P d ⟨a0 :: a1 :: .er C d :: l, n⟩) := id rfl
theorem z_ErVal3 {a0 a1 a2 : Sl} {P : PE'} {ok : Addr → Prop} {C : Addr} {d : PyData} : wErVal 3 ok ⟨a0 :: a1 :: a2 :: .er C d :: l, n⟩ P X = (ok C ∧ P d ⟨a0 :: a1 :: a2 :: .er C d :: l, n⟩) := id rfl
theorem z_ErVal4 {a0 a1 a2 a3 : Sl} {P : PE'} {ok : Addr → Prop} {C : Addr} {d : PyData} : wErVal 4 ok ⟨a0 :: a1 :: a2 :: a3 :: .er C d :: l, n⟩ P X = (ok C ∧ P d ⟨a0 :: a1 :: a2 :: a3 :: .er C d :: l, n⟩) := id rfl
theorem z_ErNN0 {P : PE'} {C : Addr} {d : PyData} : wErNN 0 ⟨.er C d :: l, n⟩ P X = P (.bool true) ⟨.er C d :: l, n⟩ := id rfl
theorem z_ErNN1 {a0 : Sl} {P : PE'} {C : Addr} {d : PyData} : wErNN 1 ⟨a0 :: .er C d :: l, n⟩ P X = P (.bool true) ⟨a0 :: .er C d :: l, n⟩ := id rfl
theorem z_ErNN2 {a0 a1 : Sl} {P : PE'} {C : Addr} {d : PyData} : wErNN 2 ⟨a0 :: a1 :: .er C d :: l, n⟩ P X = P (.bool true) ⟨a0 :: a1 :: .er C d :: l, n⟩ := id rfl
theorem z_ErNN3 {a0 a1 a2 : Sl} {P : PE'} {C : Addr} {d : PyData} : wErNN 3 ⟨a0 :: a1 :: a2 :: .er C d :: l, n⟩ P X = P (.bool true) ⟨a0 :: a1 :: a2 :: .er C d :: l, n⟩ := id rfl
theorem z_ErNN4 {a0 a1 a2 a3 : Sl} {P : PE'} {C : Addr} {d : PyData} : wErNN 4 ⟨a0 :: a1 :: a2 :: a3 :: .er C d :: l, n⟩ P X = P (.bool true) ⟨a0 :: a1 :: a2 :: a3 :: .er C d :: l, n⟩ := id rfl
theorem z_OwLen0 {P : PE'} {ds : List PyData} : wOwLen 0 ⟨.ow ds :: l, n⟩ P X = P (.int ds.length) ⟨.ow ds :: l, n⟩ := id rfl
theorem z_OwLen1 {a0 : Sl} {P : PE'} {ds : List PyData} : wOwLen 1 ⟨a0 :: .ow ds :: l, n⟩ P X = P (.int ds.length) ⟨a0 :: .ow ds :: l, n⟩ := id rfl
theorem z_OwLen2 {a0 a1 : Sl} {P : PE'} {ds : List PyData} : wOwLen 2 ⟨a0 :: a1 :: .ow ds :: l, n⟩ P X = P (.int ds.length) ⟨a0 :: a1 :: .ow ds :: l, n⟩ := id rfl
theorem z_OwLen3 {a0 a1 a2 : Sl} {P : PE'} {ds : List PyData} : wOwLen 3 ⟨a0 :: a1 :: a2 :: .ow ds :: l, n⟩ P X = P (.int ds.length) ⟨a0 :: a1 :: a2 :: .ow ds :: l, n⟩ := id rfl
theorem z_OwLen4 {a0 a1 a2 a3 : Sl} {P : PE'} {ds : List PyData} : wOwLen 4 ⟨a0 :: a1 :: a2 :: a3 :: .ow ds :: l, n⟩ P X = P (.int ds.length) ⟨a0 :: a1 :: a2 :: a3 :: .ow ds :: l, n⟩ := id rfl
theorem z_OwLen5 {a0 a1 a2 a3 a4 : Sl} {P : PE'} {ds : List PyData} : wOwLen 5 ⟨a0 :: a1 :: a2 :: a3 :: a4 :: .ow ds :: l, n⟩ P X = P (.int ds.length) ⟨a0 :: a1 :: a2 :: a3 :: a4 :: .ow ds :: l, n⟩ := id rfl
theorem z_OwLen6 {a0 a1 a2 a3 a4 a5 : Sl} {P : PE'} {ds : List PyData} : wOwLen 6 ⟨a0 :: a1 :: a2 :: a3 :: a4 :: a5 :: .ow ds :: l, n⟩ P X = P (.int ds.length) ⟨a0 :: a1 :: a2 :: a3 :: a4 :: a5 :: .ow ds :: l, n⟩ := id rfl
theorem z_OwLen7 {a0 a1 a2 a3 a4 a5 a6 : Sl} {P : PE'} {ds : List PyData} : wOwLen 7 ⟨a0 :: a1 :: a2 :: a3 :: a4 :: a5 :: a6 :: .ow ds :: l, n⟩ P X = P (.int ds.length) ⟨a0 :: a1 :: a2 :: a3 :: a4 :: a5 :: a6 :: .ow ds :: l, n⟩ := id rfl
theorem z_OwLen8 {a0 a1 a2 a3 a4 a5 a6 a7 : Sl} {P : PE'} {ds : List PyData} : wOwLen 8 ⟨a0 :: a1 :: a2 :: a3 :: a4 :: a5 :: a6 :: a7 :: .ow ds :: l, n⟩ P X = P (.int ds.length) ⟨a0 :: a1 :: a2 :: a3 :: a4 :: a5 :: a6 :: a7 :: .ow ds :: l, n⟩ := id rfl
theorem z_OwLen9 {a0 a1 a2 a3 a4 a5 a6 a7 a8 : Sl} {P : PE'} {ds : List PyData} : wOwLen 9 ⟨a0 :: a1 :: a2 :: a3 :: a4 :: a5 :: a6 :: a7 :: a8 :: .ow ds :: l, n⟩ P X = P (.int ds.length) ⟨a0 :: a1 :: a2 :: a3 :: a4 :: a5 :: a6 :: a7 :: a8 :: .ow ds :: l, n⟩ := id rfl
theorem z_OwLen10 {a0 a1 a2 a3 a4 a5 a6 a7 a8 a9 : Sl} {P : PE'} {ds : List PyData} : wOwLen 10 ⟨a0 :: a1 :: a2 :: a3 :: a4 :: a5 :: a6 :: a7 :: a8 :: a9 :: .ow ds :: l, n⟩ P X = P (.int ds.length) ⟨a0 :: a1 :: a2 :: a3 :: a4 :: a5 :: a6 :: a7 :: a8 :: a9 :: .ow ds :: l, n⟩ := id rfl
theorem z_OwLen11 {a0 a1 a2 a3 a4 a5 a6 a7 a8 a9 a10 : Sl} {P : PE'} {ds : List PyData} : wOwLen 11 ⟨a0 :: a1 :: a2 :: a3 :: a4 :: a5 :: a6 :: a7 :: a8 :: a9 :: a10 :: .ow ds :: l, n⟩ P X = P (.int ds.length) ⟨a0 :: a1 :: a2 :: a3 :: a4 :: a5 :: a6 :: a7 :: a8 :: a9 :: a10 :: .ow ds :: l, n⟩ := id rfl
theorem z_OwLen12 {a0 a1 a2 a3 a4 a5 a6 a7 a8 a9 a10 a11 : Sl} {P : PE'} {ds : List PyData} : wOwLen 12 ⟨a0 :: a1 :: a2 :: a3 :: a4 :: a5 :: a6 :: a7 :: a8 :: a9 :: a10 :: a11 :: .ow ds :: l, n⟩ P X = P (.int ds.length) ⟨a0 :: a1 :: a2 :: a3 :: a4 :: a5 :: a6 :: a7 :: a8 :: a9 :: a10 :: a11 :: .ow ds :: l, n⟩ := id rfl
theorem z_OwLen13 {a0 a1 a2 a3 a4 a5 a6 a7 a8 a9 a10 a11 a12 : Sl} {P : PE'} {ds : List PyData} : wOwLen 13 ⟨a0 :: a1 :: a2 :: a3 :: a4 :: a5 :: a6 :: a7 :: a8 :: a9 :: a10 :: a11 :: a12 :: .ow ds :: l, n⟩ P X = P (.int ds.length) ⟨a0 :: a1 :: a2 :: a3 :: a4 :: a5 :: a6 :: a7 :: a8 :: a9 :: a10 :: a11 :: a12 :: .ow ds :: l, n⟩ := id rfl
theorem z_OwLen14 {a0 a1 a2 a3 a4 a5 a6 a7 a8 a9 a10 a11 a12 a13 : Sl} {P : PE'} {ds : List PyData} : wOwLen 14 ⟨a0 :: a1 :: a2 :: a3 :: a4 :: a5 :: a6 :: a7 :: a8 :: a9 :: a10 :: a11 :: a12 :: a13 :: .ow ds :: l, n⟩ P X = P (.int ds.length) ⟨a0 :: a1 :: a2 :: a3 :: a4 :: a5 :: a6 :: a7 :: a8 :: a9 :: a10 :: a11 :: a12 :: a13 :: .ow ds :: l, n⟩ := id rfl
theorem z_OwLen15 {a0 a1 a2 a3 a4 a5 a6 a7 a8 a9 a10 a11 a12 a13 a14 : Sl} {P : PE'} {ds : List PyData} : wOwLen 15 ⟨a0 :: a1 :: a2 :: a3 :: a4 :: a5 :: a6 :: a7 :: a8 :: a9 :: a10 :: a11 :: a12 :: a13 :: a14 :: .ow ds :: l, n⟩ P X = P (.int ds.length) ⟨a0 :: a1 :: a2 :: a3 :: a4 :: a5 :: a6 :: a7 :: a8 :: a9 :: a10 :: a11 :: a12 :: a13 :: a14 :: .ow ds :: l, n⟩ := id rfl
theorem z_OwLen16 {a0 a1 a2 a3 a4 a5 a6 a7 a8 a9 a10 a11 a12 a13 a14 a15 : Sl} {P : PE'} {ds : List PyData} : wOwLen 16 ⟨a0 :: a1 :: a2 :: a3 :: a4 :: a5 :: a6 :: a7 :: a8 :: a9 :: a10 :: a11 :: a12 :: a13 :: a14 :: a15 :: .ow ds :: l, n⟩ P X = P (.int ds.length) ⟨a0 :: a1 :: a2 :: a3 :: a4 :: a5 :: a6 :: a7 :: a8 :: a9 :: a10 :: a11 :: a12 :: a13 :: a14 :: a15 :: .ow ds :: l, n⟩ := id rfl
theorem z_OwLen17 {a0 a1 a2 a3 a4 a5 a6 a7 a8 a9 a10 a11 a12 a13 a14 a15 a16 : Sl} {P : PE'} {ds : List PyData} : wOwLen 17 ⟨a0 :: a1 :: a2 :: a3 :: a4 :: a5 :: a6 :: a7 :: a8 :: a9 :: a10 :: a11 :: a12 :: a13 :: a14 :: a15 :: a16 :: .ow ds :: l, n⟩ P X = P (.int ds.length) ⟨a0 :: a1 :: a2 :: a3 :: a4 :: a5 :: a6 :: a7 :: a8 :: a9 :: a10 :: a11 :: a12 :: a13 :: a14 :: a15 :: a16 :: .ow ds :: l, n⟩ := id rfl
theorem z_OwLen18 {a0 a1 a2 a3 a4 a5 a6 a7 a8 a9 a10 a11 a12 a13 a14 a15 a16 a17 : Sl} {P : PE'} {ds : List PyData} : wOwLen 18 ⟨a0 :: a1 :: a2 :: a3 :: a4 :: a5 :: a6 :: a7 :: a8 :: a9 :: a10 :: a11 :: a12 :: a13 :: a14 :: a15 :: a16 :: a17 :: .ow ds :: l, n⟩ P X = P (.int ds.length) ⟨a0 :: a1 :: a2 :: a3 :: a4 :: a5 :: a6 :: a7 :: a8 :: a9 :: a10 :: a11 :: a12 :: a13 :: a14 :: a15 :: a16 :: a17 :: .ow ds :: l, n⟩ := id rfl
theorem z_OwLen19 {a0 a1 a2 a3 a4 a5 a6 a7 a8 a9 a10 a11 a12 a13 a14 a15 a16 a17 a18 : Sl} {P : PE'} {ds : List PyData} : wOwLen 19 ⟨a0 :: a1 :: a2 :: a3 :: a4 :: a5 :: a6 :: a7 :: a8 :: a9 :: a10 :: a11 :: a12 :: a13 :: a14 :: a15 :: a16 :: a17 :: a18 :: .ow ds :: l, n⟩ P X = P (.int ds.length) ⟨a0 :: a1 :: a2 :: a3 :: a4 :: a5 :: a6 :: a7 :: a8 :: a9 :: a10 :: a11 :: a12 :: a13 :: a14 :: a15 :: a16 :: a17 :: a18 :: .ow ds :: l, n⟩ := id rfl
theorem z_OwLen20 {a0 a1 a2 a3 a4 a5 a6 a7 a8 a9 a10 a11 a12 a13 a14 a15 a16 a17 a18 a19 : Sl} {P : PE'} {ds : List PyData} : wOwLen 20 ⟨a0 :: a1 :: a2 :: a3 :: a4 :: a5 :: a6 :: a7 :: a8 :: a9 :: a10 :: a11 :: a12 :: a13 :: a14 :: a15 :: a16 :: a17 :: a18 :: a19 :: .ow ds :: l, n⟩ P X = P (.int ds.length) ⟨a0 :: a1 :: a2 :: a3 :: a4 :: a5 :: a6 :: a7 :: a8 :: a9 :: a10 :: a11 :: a12 :: a13 :: a14 :: a15 :: a16 :: a17 :: a18 :: a19 :: .ow ds :: l, n⟩ := id rfl
theorem z_OwLen21 {a0 a1 a2 a3 a4 a5 a6 a7 a8 a9 a10 a11 a12 a13 a14 a15 a16 a17 a18 a19 a20 : Sl} {P : PE'} {ds : List PyData} : wOwLen 21 ⟨a0 :: a1 :: a2 :: a3 :: a4 :: a5 :: a6 :: a7 :: a8 :: a9 :: a10 :: a11 :: a12 :: a13 :: a14 :: a15 :: a16 :: a17 :: a18 :: a19 :: a20 :: .ow ds :: l, n⟩ P X = P (.int ds.length) ⟨a0 :: a1 :: a2 :: a3 :: a4 :: a5 :: a6 :: a7 :: a8 :: a9 :: a10 :: a11 :: a12 :: a13 :: a14 :: a15 :: a16 :: a17 :: a18 :: a19 :: a20 :: .ow ds :: l, n⟩ := id rfl
theorem z_OwLen22 {a0 a1 a2 a3 a4 a5 a6 a7 a8 a9 a10 a11 a12 a13 a14 a15 a16 a17 a18 a19 a20 a21 : Sl} {P : PE'} {ds : List PyData} : wOwLen 22 ⟨a0 :: a1 :: a2 :: a3 :: a4 :: a5 :: a6 :: a7 :: a8 :: a9 :: a10 :: a11 :: a12 :: a13 :: a14 :: a15 :: a16 :: a17 :: a18 :: a19 :: a20 :: a21 :: .ow ds :: l, n⟩ P X = P (.int ds.length) ⟨a0 :: a1 :: a2 :: a3 :: a4 :: a5 :: a6 :: a7 :: a8 :: a9 :: a10 :: a11 :: a12 :: a13 :: a14 :: a15 :: a16 :: a17 :: a18 :: a19 :: a20 :: a21 :: .ow ds :: l, n⟩ := id rfl
theorem z_OwLen23 {a0 a1 a2 a3 a4 a5 a6 a7 a8 a9 a10 a11 a12 a13 a14 a15 a16 a17 a18 a19 a20 a21 a22 : Sl} {P : PE'} {ds : List PyData} : wOwLen 23 ⟨a0 :: a1 :: a2 :: a3 :: a4 :: a5 :: a6 :: a7 :: a8 :: a9 :: a10 :: a11 :: a12 :: a13 :: a14 :: a15 :: a16 :: a17 :: a18 :: a19 :: a20 :: a21 :: a22 :: .ow ds :: l, n⟩ P X = P (.int ds.length) ⟨a0 :: a1 :: a2 :: a3 :: a4 :: a5 :: a6 :: a7 :: a8 :: a9 :: a10 :: a11 :: a12 :: a13 :: a14 :: a15 :: a16 :: a17 :: a18 :: a19 :: a20 :: a21 :: a22 :: .ow ds :: l, n⟩ := id rfl
theorem z_OwLen24 {a0 a1 a2 a3 a4 a5 a6 a7 a8 a9 a10 a11 a12 a13 a14 a15 a16 a17 a18 a19 a20 a21 a22 a23 : Sl} {P : PE'} {ds : List PyData} : wOwLen 24 ⟨a0 :: a1 :: a2 :: a3 :: a4 :: a5 :: a6 :: a7 :: a8 :: a9 :: a10 :: a11 :: a12 :: a13 :: a14 :: a15 :: a16 :: a17 :: a18 :: a19 :: a20 :: a21 :: a22 :: a23 :: .ow ds :: l, n⟩ P X = P (.int ds.length) ⟨a0 :: a1 :: a2 :: a3 :: a4 :: a5 :: a6 :: a7 :: a8 :: a9 :: a10 :: a11 :: a12 :: a13 :: a14 :: a15 :: a16 :: a17 :: a18 :: a19 :: a20 :: a21 :: a22 :: a23 :: .ow ds :: l, n⟩ := id rfl
theorem z_OwLen25 {a0 a1 a2 a3 a4 a5 a6 a7 a8 a9 a10 a11 a12 a13 a14 a15 a16 a17 a18 a19 a20 a21 a22 a23 a24 : Sl} {P : PE'} {ds : List PyData} : wOwLen 25 ⟨a0 :: a1 :: a2 :: a3 :: a4 :: a5 :: a6 :: a7 :: a8 :: a9 :: a10 :: a11 :: a12 :: a13 :: a14 :: a15 :: a16 :: a17 :: a18 :: a19 :: a20 :: a21 :: a22 :: a23 :: a24 :: .ow ds :: l, n⟩ P X = P (.int ds.length) ⟨a0 :: a1 :: a2 :: a3 :: a4 :: a5 :: a6 :: a7 :: a8 :: a9 :: a10 :: a11 :: a12 :: a13 :: a14 :: a15 :: a16 :: a17 :: a18 :: a19 :: a20 :: a21 :: a22 :: a23 :: a24 :: .ow ds :: l, n⟩ := id rfl
theorem z_OwIx0 {P : PE'} {wb : WE} {ds : List PyData} : wOwIx 0 wb ⟨.ow ds :: l, n⟩ P X = wb ⟨.ow ds :: l, n⟩ (kOwIx 0 ds P) X := id rfl
theorem z_OwIx1 {a0 : Sl} {P : PE'} {wb : WE} {ds : List PyData} : wOwIx 1 wb ⟨a0 :: .ow ds :: l, n⟩ P X = wb ⟨a0 :: .ow ds :: l, n⟩ (kOwIx 1 ds P) X := id rfl
theorem z_OwIx2 {a0 a1 : Sl} {P : PE'} {wb : WE} {ds : List PyData} : wOwIx 2 wb ⟨a0 :: a1 :: .ow ds :: l, n⟩ P X = wb ⟨a0 :: a1 :: .ow ds :: l, n⟩ (kOwIx 2 ds P) X := id rfl
theorem z_OwIx3 {a0 a1 a2 : Sl} {P : PE'} {wb : WE} {ds : List PyData} : wOwIx 3 wb ⟨a0 :: a1 :: a2 :: .ow ds :: l, n⟩ P X = wb ⟨a0 :: a1 :: a2 :: .ow ds :: l, n⟩ (kOwIx 3 ds P) X := id rfl
theorem z_OwIx4 {a0 a1 a2 a3 : Sl} {P : PE'} {wb : WE} {ds : List PyData} : wOwIx 4 wb ⟨a0 :: a1 :: a2 :: a3 :: .ow ds :: l, n⟩ P X = wb ⟨a0 :: a1 :: a2 :: a3 :: .ow ds :: l, n⟩ (kOwIx 4 ds P) X := id rfl
theorem z_OwIx5 {a0 a1 a2 a3 a4 : Sl} {P : PE'} {wb : WE} {ds : List PyData} : wOwIx 5 wb ⟨a0 :: a1 :: a2 :: a3 :: a4 :: .ow ds :: l, n⟩ P X = wb ⟨a0 :: a1 :: a2 :: a3 :: a4 :: .ow ds :: l, n⟩ (kOwIx 5 ds P) X := id rfl
theorem z_OwIx6 {a0 a1 a2 a3 a4 a5 : Sl} {P : PE'} {wb : WE} {ds : List PyData} : wOwIx 6 wb ⟨a0 :: a1 :: a2 :: a3 :: a4 :: a5 :: .ow ds :: l, n⟩ P X = wb ⟨a0 :: a1 :: a2 :: a3 :: a4 :: a5 :: .ow ds :: l, n⟩ (kOwIx 6 ds P) X := id rfl
theorem z_OwIx7 {a0 a1 a2 a3 a4 a5 a6 : Sl} {P : PE'} {wb : WE} {ds : List PyData} : wOwIx 7 wb ⟨a0 :: a1 :: a2 :: a3 :: a4 :: a5 :: a6 :: .ow ds :: l, n⟩ P X = wb ⟨a0 :: a1 :: a2 :: a3 :: a4 :: a5 :: a6 :: .ow ds :: l, n⟩ (kOwIx 7 ds P) X := id rfl
theorem z_OwIx8 {a0 a1 a2 a3 a4 a5 a6 a7 : Sl} {P : PE'} {wb : WE} {ds : List PyData} : wOwIx 8 wb ⟨a0 :: a1 :: a2 :: a3 :: a4 :: a5 :: a6 :: a7 :: .ow ds :: l, n⟩ P X = wb ⟨a0 :: a1 :: a2 :: a3 :: a4 :: a5 :: a6 :: a7 :: .ow ds :: l, n⟩ (kOwIx 8 ds P) X := id rfl
theorem z_OwIx9 {a0 a1 a2 a3 a4 a5 a6 a7 a8 : Sl} {P : PE'} {wb : WE} {ds : List PyData} : wOwIx 9 wb ⟨a0 :: a1 :: a2 :: a3 :: a4 :: a5 :: a6 :: a7 :: a8 :: .ow ds :: l, n⟩ P X = wb ⟨a0 :: a1 :: a2 :: a3 :: a4 :: a5 :: a6 :: a7 :: a8 :: .ow ds :: l, n⟩ (kOwIx 9 ds P) X := id rfl
theorem z_OwIx10 {a0 a1 a2 a3 a4 a5 a6 a7 a8 a9 : Sl} {P : PE'} {wb : WE} {ds : List PyData} : wOwIx 10 wb ⟨a0 :: a1 :: a2 :: a3 :: a4 :: a5 :: a6 :: a7 :: a8 :: a9 :: .ow ds :: l, n⟩ P X = wb ⟨a0 :: a1 :: a2 :: a3 :: a4 :: a5 :: a6 :: a7 :: a8 :: a9 :: .ow ds :: l, n⟩ (kOwIx 10 ds P) X := id rfl
theorem z_OwIx11 {a0 a1 a2 a3 a4 a5 a6 a7 a8 a9 a10 : Sl} {P : PE'} {wb : WE} {ds : List PyData} : wOwIx 11 wb ⟨a0 :: a1 :: a2 :: a3 :: a4 :: a5 :: a6 :: a7 :: a8 :: a9 :: a10 :: .ow ds :: l, n⟩ P X = wb ⟨a0 :: a1 :: a2 :: a3 :: a4 :: a5 :: a6 :: a7 :: a8 :: a9 :: a10 :: .ow ds :: l, n⟩ (kOwIx 11 ds P) X := id rfl
theorem z_OwIx12 {a0 a1 a2 a3 a4 a5 a6 a7 a8 a9 a10 a11 : Sl} {P : PE'} {wb : WE} {ds : List PyData} : wOwIx 12 wb ⟨a0 :: a1 :: a2 :: a3 :: a4 :: a5 :: a6 :: a7 :: a8 :: a9 :: a10 :: a11 :: .ow ds :: l, n⟩ P X = wb ⟨a0 :: a1 :: a2 :: a3 :: a4 :: a5 :: a6 :: a7 :: a8 :: a9 :: a10 :: a11 :: .ow ds :: l, n⟩ (kOwIx 12 ds P) X := id rfl
theorem z_OwIx13 {a0 a1 a2 a3 a4 a5 a6 a7 a8 a9 a10 a11 a12 : Sl} {P : PE'} {wb : WE} {ds : List PyData} : wOwIx 13 wb ⟨a0 :: a1 :: a2 :: a3 :: a4 :: a5 :: a6 :: a7 :: a8 :: a9 :: a10 :: a11 :: a12 :: .ow ds :: l, n⟩ P X = wb ⟨a0 :: a1 :: a2 :: a3 :: a4 :: a5 :: a6 :: a7 :: a8 :: a9 :: a10 :: a11 :: a12 :: .ow ds :: l, n⟩ (kOwIx 13 ds P) X := id rfl
theorem z_OwIx14 {a0 a1 a2 a3 a4 a5 a6 a7 a8 a9 a10 a11 a12 a13 : Sl} {P : PE'} {wb : WE} {ds : List PyData} : wOwIx 14 wb ⟨a0 :: a1 :: a2 :: a3 :: a4 :: a5 :: a6 :: a7 :: a8 :: a9 :: a10 :: a11 :: a12 :: a13 :: .ow ds :: l, n⟩ P X = wb ⟨a0 :: a1 :: a2 :: a3 :: a4 :: a5 :: a6 :: a7 :: a8 :: a9 :: a10 :: a11 :: a12 :: a13 :: .ow ds :: l, n⟩ (kOwIx 14 ds P) X := id rfl
theorem z_OwIx15 {a0 a1 a2 a3 a4 a5 a6 a7 a8 a9 a10 a11 a12 a13 a14 : Sl} {P : PE'} {wb : WE} {ds : List PyData} : wOwIx 15 wb ⟨a0 :: a1 :: a2 :: a3 :: a4 :: a5 :: a6 :: a7 :: a8 :: a9 :: a10 :: a11 :: a12 :: a13 :: a14 :: .ow ds :: l, n⟩ P X = wb ⟨a0 :: a1 :: a2 :: a3 :: a4 :: a5 :: a6 :: a7 :: a8 :: a9 :: a10 :: a11 :: a12 :: a13 :: a14 :: .ow ds :: l, n⟩ (kOwIx 15 ds P) X := id rfl
theorem z_OwIx16 {a0 a1 a2 a3 a4 a5 a6 a7 a8 a9 a10 a11 a12 a13 a14 a15 : Sl} {P : PE'} {wb : WE} {ds : List PyData} : wOwIx 16 wb ⟨a0 :: a1 :: a2 :: a3 :: a4 :: a5 :: a6 :: a7 :: a8 :: a9 :: a10 :: a11 :: a12 :: a13 :: a14 :: a15 :: .ow ds :: l, n⟩ P X = wb ⟨a0 :: a1 :: a2 :: a3 :: a4 :: a5 :: a6 :: a7 :: a8 :: a9 :: a10 :: a11 :: a12 :: a13 :: a14 :: a15 :: .ow ds :: l, n⟩ (kOwIx 16 ds P) X := id rfl
theorem z_OwIx17 {a0 a1 a2 a3 a4 a5 a6 a7 a8 a9 a10 a11 a12 a13 a14 a15 a16 : Sl} {P : PE'} {wb : WE} {ds : List PyData} : wOwIx 17 wb ⟨a0 :: a1 :: a2 :: a3 :: a4 :: a5 :: a6 :: a7 :: a8 :: a9 :: a10 :: a11 :: a12 :: a13 :: a14 :: a15 :: a16 :: .ow ds :: l, n⟩ P X = wb ⟨a0 :: a1 :: a2 :: a3 :: a4 :: a5 :: a6 :: a7 :: a8 :: a9 :: a10 :: a11 :: a12 :: a13 :: a14 :: a15 :: a16 :: .ow ds :: l, n⟩ (kOwIx 17 ds P) X := id rfl
theorem z_OwIx18 {a0 a1 a2 a3 a4 a5 a6 a7 a8 a9 a10 a11 a12 a13 a14 a15 a16 a17 : Sl} {P : PE'} {wb : WE} {ds : List PyData} : wOwIx 18 wb ⟨a0 :: a1 :: a2 :: a3 :: a4 :: a5 :: a6 :: a7 :: a8 :: a9 :: a10 :: a11 :: a12 :: a13 :: a14 :: a15 :: a16 :: a17 :: .ow ds :: l, n⟩ P X = wb ⟨a0 :: a1 :: a2 :: a3 :: a4 :: a5 :: a6 :: a7 :: a8 :: a9 :: a10 :: a11 :: a12 :: a13 :: a14 :: a15 :: a16 :: a17 :: .ow ds :: l, n⟩ (kOwIx 18 ds P) X := id rfl
theorem z_OwIx19 {a0 a1 a2 a3 a4 a5 a6 a7 a8 a9 a10 a11 a12 a13 a14 a15 a16 a17 a18 : Sl} {P : PE'} {wb : WE} {ds : List PyData} : wOwIx 19 wb ⟨a0 :: a1 :: a2 :: a3 :: a4 :: a5 :: a6 :: a7 :: a8 :: a9 :: a10 :: a11 :: a12 :: a13 :: a14 :: a15 :: a16 :: a17 :: a18 :: .ow ds :: l, n⟩ P X = wb ⟨a0 :: a1 :: a2 :: a3 :: a4 :: a5 :: a6 :: a7 :: a8 :: a9 :: a10 :: a11 :: a12 :: a13 :: a14 :: a15 :: a16 :: a17 :: a18 :: .ow ds :: l, n⟩ (kOwIx 19 ds P) X := id rfl
theorem z_OwIx20 {a0 a1 a2 a3 a4 a5 a6 a7 a8 a9 a10 a11 a12 a13 a14 a15 a16 a17 a18 a19 : Sl} {P : PE'} {wb : WE} {ds : List PyData} : wOwIx 20 wb ⟨a0 :: a1 :: a2 :: a3 :: a4 :: a5 :: a6 :: a7 :: a8 :: a9 :: a10 :: a11 :: a12 :: a13 :: a14 :: a15 :: a16 :: a17 :: a18 :: a19 :: .ow ds :: l, n⟩ P X = wb ⟨a0 :: a1 :: a2 :: a3 :: a4 :: a5 :: a6 :: a7 :: a8 :: a9 :: a10 :: a11 :: a12 :: a13 :: a14 :: a15 :: a16 :: a17 :: a18 :: a19 :: .ow ds :: l, n⟩ (kOwIx 20 ds P) X := id rfl
theorem z_OwIx21 {a0 a1 a2 a3 a4 a5 a6 a7 a8 a9 a10 a11 a12 a13 a14 a15 a16 a17 a18 a19 a20 : Sl} {P : PE'} {wb : WE} {ds : List PyData} : wOwIx 21 wb ⟨a0 :: a1 :: a2 :: a3 :: a4 :: a5 :: a6 :: a7 :: a8 :: a9 :: a10 :: a11 :: a12 :: a13 :: a14 :: a15 :: a16 :: a17 :: a18 :: a19 :: a20 :: .ow ds :: l, n⟩ P X = wb ⟨a0 :: a1 :: a2 :: a3 :: a4 :: a5 :: a6 :: a7 :: a8 :: a9 :: a10 :: a11 :: a12 :: a13 :: a14 :: a15 :: a16 :: a17 :: a18 :: a19 :: a20 :: .ow ds :: l, n⟩ (kOwIx 21 ds P) X := id rfl
theorem z_OwIx22 {a0 a1 a2 a3 a4 a5 a6 a7 a8 a9 a10 a11 a12 a13 a14 a15 a16 a17 a18 a19 a20 a21 : Sl} {P : PE'} {wb : WE} {ds : List PyData} : wOwIx 22 wb ⟨a0 :: a1 :: a2 :: a3 :: a4 :: a5 :: a6 :: a7 :: a8 :: a9 :: a10 :: a11 :: a12 :: a13 :: a14 :: a15 :: a16 :: a17 :: a18 :: a19 :: a20 :: a21 :: .ow ds :: l, n⟩ P X = wb ⟨a0 :: a1 :: a2 :: a3 :: a4 :: a5 :: a6 :: a7 :: a8 :: a9 :: a10 :: a11 :: a12 :: a13 :: a14 :: a15 :: a16 :: a17 :: a18 :: a19 :: a20 :: a21 :: .ow ds :: l, n⟩ (kOwIx 22 ds P) X := id rfl
theorem z_OwIx23 {a0 a1 a2 a3 a4 a5 a6 a7 a8 a9 a10 a11 a12 a13 a14 a15 a16 a17 a18 a19 a20 a21 a22 : Sl} {P : PE'} {wb : WE} {ds : List PyData} : wOwIx 23 wb ⟨a0 :: a1 :: a2 :: a3 :: a4 :: a5 :: a6 :: a7 :: a8 :: a9 :: a10 :: a11 :: a12 :: a13 :: a14 :: a15 :: a16 :: a17 :: a18 :: a19 :: a20 :: a21 :: a22 :: .ow ds :: l, n⟩ P X = wb ⟨a0 :: a1 :: a2 :: a3 :: a4 :: a5 :: a6 :: a7 :: a8 :: a9 :: a10 :: a11 :: a12 :: a13 :: a14 :: a15 :: a16 :: a17 :: a18 :: a19 :: a20 :: a21 :: a22 :: .ow ds :: l, n⟩ (kOwIx 23 ds P) X := id rfl
theorem z_OwIx24 {a0 a1 a2 a3 a4 a5 a6 a7 a8 a9 a10 a11 a12 a13 a14 a15 a16 a17 a18 a19 a20 a21 a22 a23 : Sl} {P : PE'} {wb : WE} {ds : List PyData} : wOwIx 24 wb ⟨a0 :: a1 :: a2 :: a3 :: a4 :: a5 :: a6 :: a7 :: a8 :: a9 :: a10 :: a11 :: a12 :: a13 :: a14 :: a15 :: a16 :: a17 :: a18 :: a19 :: a20 :: a21 :: a22 :: a23 :: .ow ds :: l, n⟩ P X = wb ⟨a0 :: a1 :: a2 :: a3 :: a4 :: a5 :: a6 :: a7 :: a8 :: a9 :: a10 :: a11 :: a12 :: a13 :: a14 :: a15 :: a16 :: a17 :: a18 :: a19 :: a20 :: a21 :: a22 :: a23 :: .ow ds :: l, n⟩ (kOwIx 24 ds P) X := id rfl
theorem z_OwIx25 {a0 a1 a2 a3 a4 a5 a6 a7 a8 a9 a10 a11 a12 a13 a14 a15 a16 a17 a18 a19 a20 a21 a22 a23 a24 : Sl} {P : PE'} {wb : WE} {ds : List PyData} : wOwIx 25 wb ⟨a0 :: a1 :: a2 :: a3 :: a4 :: a5 :: a6 :: a7 :: a8 :: a9 :: a10 :: a11 :: a12 :: a13 :: a14 :: a15 :: a16 :: a17 :: a18 :: a19 :: a20 :: a21 :: a22 :: a23 :: a24 :: .ow ds :: l, n⟩ P X = wb ⟨a0 :: a1 :: a2 :: a3 :: a4 :: a5 :: a6 :: a7 :: a8 :: a9 :: a10 :: a11 :: a12 :: a13 :: a14 :: a15 :: a16 :: a17 :: a18 :: a19 :: a20 :: a21 :: a22 :: a23 :: a24 :: .ow ds :: l, n⟩ (kOwIx 25 ds P) X := id rfl
theorem z_OwCmp0 {P : PE'} {wb : WE} {ds : List PyData} {f : PyData → PyData → (PyData → Prop) → Prop} : wOwCmp f 0 wb ⟨.ow ds :: l, n⟩ P X = wb ⟨.ow ds :: l, n⟩ (kOwCmp 0 ds f P) X := id rfl
theorem z_OwCmp1 {a0 : Sl} {P : PE'} {wb : WE} {ds : List PyData} {f : PyData → PyData → (PyData → Prop) → Prop} : wOwCmp f 1 wb ⟨a0 :: .ow ds :: l, n⟩ P X = wb ⟨a0 :: .ow ds :: l, n⟩ (kOwCmp 1 ds f P) X := id rfl
theorem z_OwCmp2 {a0 a1 : Sl} {P : PE'} {wb : WE} {ds : List PyData} {f : PyData → PyData → (PyData → Prop) → Prop} : wOwCmp f 2 wb ⟨a0 :: a1 :: .ow ds :: l, n⟩ P X = wb ⟨a0 :: a1 :: .ow ds :: l, n⟩ (kOwCmp 2 ds f P) X := id rfl
theorem z_OwCmp3 {a0 a1 a2 : Sl} {P : PE'} {wb : WE} {ds : List PyData} {f : PyData → PyData → (PyData → Prop) → Prop} : wOwCmp f 3 wb ⟨a0 :: a1 :: a2 :: .ow ds :: l, n⟩ P X = wb ⟨a0 :: a1 :: a2 :: .ow ds :: l, n⟩ (kOwCmp 3 ds f P) X := id rfl
theorem z_OwCmp4 {a0 a1 a2 a3 : Sl} {P : PE'} {wb : WE} {ds : List PyData} {f : PyData → PyData → (PyData → Prop) → Prop} : wOwCmp f 4 wb ⟨a0 :: a1 :: a2 :: a3 :: .ow ds :: l, n⟩ P X = wb ⟨a0 :: a1 :: a2 :: a3 :: .ow ds :: l, n⟩ (kOwCmp 4 ds f P) X := id rfl
theorem z_OwCmp5 {a0 a1 a2 a3 a4 : Sl} {P : PE'} {wb : WE} {ds : List PyData} {f : PyData → PyData → (PyData → Prop) → Prop} : wOwCmp f 5 wb ⟨a0 :: a1 :: a2 :: a3 :: a4 :: .ow ds :: l, n⟩ P X = wb ⟨a0 :: a1 :: a2 :: a3 :: a4 :: .ow ds :: l, n⟩ (kOwCmp 5 ds f P) X := id rfl
theorem z_OwCmp6 {a0 a1 a2 a3 a4 a5 : Sl} {P : PE'} {wb : WE} {ds : List PyData} {f : PyData → PyData → (PyData → Prop) → Prop} : wOwCmp f 6 wb ⟨a0 :: a1 :: a2 :: a3 :: a4 :: a5 :: .ow ds :: l, n⟩ P X = wb ⟨a0 :: a1 :: a2 :: a3 :: a4 :: a5 :: .ow ds :: l, n⟩ (kOwCmp 6 ds f P) X := id rfl
theorem z_OwCmp7 {a0 a1 a2 a3 a4 a5 a6 : Sl} {P : PE'} {wb : WE} {ds : List PyData} {f : PyData → PyData → (PyData → Prop) → Prop} : wOwCmp f 7 wb ⟨a0 :: a1 :: a2 :: a3 :: a4 :: a5 :: a6 :: .ow ds :: l, n⟩ P X = wb ⟨a0 :: a1 :: a2 :: a3 :: a4 :: a5 :: a6 :: .ow ds :: l, n⟩ (kOwCmp 7 ds f P) X := id rfl
theorem z_OwCmp8 {a0 a1 a2 a3 a4 a5 a6 a7 : Sl} {P : PE'} {wb : WE} {ds : List PyData} {f : PyData → PyData → (PyData → Prop) → Prop} : wOwCmp f 8 wb ⟨a0 :: a1 :: a2 :: a3 :: a4 :: a5 :: a6 :: a7 :: .ow ds :: l, n⟩ P X = wb ⟨a0 :: a1 :: a2 :: a3 :: a4 :: a5 :: a6 :: a7 :: .ow ds :: l, n⟩ (kOwCmp 8 ds f P) X := id rfl
theorem z_OwCmp9 {a0 a1 a2 a3 a4 a5 a6 a7 a8 : Sl} {P : PE'} {wb : WE} {ds : List PyData} {f : PyData → PyData → (PyData → Prop) → Prop} : wOwCmp f 9 wb ⟨a0 :: a1 :: a2 :: a3 :: a4 :: a5 :: a6 :: a7 :: a8 :: .ow ds :: l, n⟩ P X = wb ⟨a0 :: a1 :: a2 :: a3 :: a4 :: a5 :: a6 :: a7 :: a8 :: .ow ds :: l, n⟩ (kOwCmp 9 ds f P) X := id rfl
theorem z_OwCmp10 {a0 a1 a2 a3 a4 a5 a6 a7 a8 a9 : Sl} {P : PE'} {wb : WE} {ds : List PyData} {f : PyData → PyData → (PyData → Prop) → Prop} : wOwCmp f 10 wb ⟨a0 :: a1 :: a2 :: a3 :: a4 :: a5 :: a6 :: a7 :: a8 :: a9 :: .ow ds :: l, n⟩ P X = wb ⟨a0 :: a1 :: a2 :: a3 :: a4 :: a5 :: a6 :: a7 :: a8 :: a9 :: .ow ds :: l, n⟩ (kOwCmp 10 ds f P) X := id rfl
theorem z_OwCmp11 {a0 a1 a2 a3 a4 a5 a6 a7 a8 a9 a10 : Sl} {P : PE'} {wb : WE} {ds : List PyData} {f : PyData → PyData → (PyData → Prop) → Prop} : wOwCmp f 11 wb ⟨a0 :: a1 :: a2 :: a3 :: a4 :: a5 :: a6 :: a7 :: a8 :: a9 :: a10 :: .ow ds :: l, n⟩ P X = wb ⟨a0 :: a1 :: a2 :: a3 :: a4 :: a5 :: a6 :: a7 :: a8 :: a9 :: a10 :: .ow ds :: l, n⟩ (kOwCmp 11 ds f P) X := id rfl
theorem z_OwCmp12 {a0 a1 a2 a3 a4 a5 a6 a7 a8 a9 a10 a11 : Sl} {P : PE'} {wb : WE} {ds : List PyData} {f : PyData → PyData → (PyData → Prop) → Prop} : wOwCmp f 12 wb ⟨a0 :: a1 :: a2 :: a3 :: a4 :: a5 :: a6 :: a7 :: a8 :: a9 :: a10 :: a11 :: .ow ds :: l, n⟩ P X = wb ⟨a0 :: a1 :: a2 :: a3 :: a4 :: a5 :: a6 :: a7 :: a8 :: a9 :: a10 :: a11 :: .ow ds :: l, n⟩ (kOwCmp 12 ds f P) X := id rfl
theorem z_OwCmp13 {a0 a1 a2 a3 a4 a5 a6 a7 a8 a9 a10 a11 a12 : Sl} {P : PE'} {wb : WE} {ds : List PyData} {f : PyData → PyData → (PyData → Prop) → Prop} : wOwCmp f 13 wb ⟨a0 :: a1 :: a2 :: a3 :: a4 :: a5 :: a6 :: a7 :: a8 :: a9 :: a10 :: a11 :: a12 :: .ow ds :: l, n⟩ P X = wb ⟨a0 :: a1 :: a2 :: a3 :: a4 :: a5 :: a6 :: a7 :: a8 :: a9 :: a10 :: a11 :: a12 :: .ow ds :: l, n⟩ (kOwCmp 13 ds f P) X := id rfl
theorem z_OwCmp14 {a0 a1 a2 a3 a4 a5 a6 a7 a8 a9 a10 a11 a12 a13 : Sl} {P : PE'} {wb : WE} {ds : List PyData} {f : PyData → PyData → (PyData → Prop) → Prop} : wOwCmp f 14 wb ⟨a0 :: a1 :: a2 :: a3 :: a4 :: a5 :: a6 :: a7 :: a8 :: a9 :: a10 :: a11 :: a12 :: a13 :: .ow ds :: l, n⟩ P X = wb ⟨a0 :: a1 :: a2 :: a3 :: a4 :: a5 :: a6 :: a7 :: a8 :: a9 :: a10 :: a11 :: a12 :: a13 :: .ow ds :: l, n⟩ (kOwCmp 14 ds f P) X := id rfl
theorem z_OwCmp15 {a0 a1 a2 a3 a4 a5 a6 a7 a8 a9 a10 a11 a12 a13 a14 : Sl} {P : PE'} {wb : WE} {ds : List PyData} {f : PyData → PyData → (PyData → Prop) → Prop} : wOwCmp f 15 wb ⟨a0 :: a1 :: a2 :: a3 :: a4 :: a5 :: a6 :: a7 :: a8 :: a9 :: a10 :: a11 :: a12 :: a13 :: a14 :: .ow ds :: l, n⟩ P X = wb ⟨a0 :: a1 :: a2 :: a3 :: a4 :: a5 :: a6 :: a7 :: a8 :: a9 :: a10 :: a11 :: a12 :: a13 :: a14 :: .ow ds :: l, n⟩ (kOwCmp 15 ds f P) X := id rfl
theorem z_OwCmp16 {a0 a1 a2 a3 a4 a5 a6 a7 a8 a9 a10 a11 a12 a13 a14 a15 : Sl} {P : PE'} {wb : WE} {ds : List PyData} {f : PyData → PyData → (PyData → Prop) → Prop} : wOwCmp f 16 wb ⟨a0 :: a1 :: a2 :: a3 :: a4 :: a5 :: a6 :: a7 :: a8 :: a9 :: a10 :: a11 :: a12 :: a13 :: a14 :: a15 :: .ow ds :: l, n⟩ P X = wb ⟨a0 :: a1 :: a2 :: a3 :: a4 :: a5 :: a6 :: a7 :: a8 :: a9 :: a10 :: a11 :: a12 :: a13 :: a14 :: a15 :: .ow ds :: l, n⟩ (kOwCmp 16 ds f P) X := id rfl
theorem z_OwCmp17 {a0 a1 a2 a3 a4 a5 a6 a7 a8 a9 a10 a11 a12 a13 a14 a15 a16 : Sl} {P : PE'} {wb : WE} {ds : List PyData} {f : PyData → PyData → (PyData → Prop) → Prop} : wOwCmp f 17 wb ⟨a0 :: a1 :: a2 :: a3 :: a4 :: a5 :: a6 :: a7 :: a8 :: a9 :: a10 :: a11 :: a12 :: a13 :: a14 :: a15 :: a16 :: .ow ds :: l, n⟩ P X = wb ⟨a0 :: a1 :: a2 :: a3 :: a4 :: a5 :: a6 :: a7 :: a8 :: a9 :: a10 :: a11 :: a12 :: a13 :: a14 :: a15 :: a16 :: .ow ds :: l, n⟩ (kOwCmp 17 ds f P) X := id rfl
theorem z_OwCmp18 {a0 a1 a2 a3 a4 a5 a6 a7 a8 a9 a10 a11 a12 a13 a14 a15 a16 a17 : Sl} {P : PE'} {wb : WE} {ds : List PyData} {f : PyData → PyData → (PyData → Prop) → Prop} : wOwCmp f 18 wb ⟨a0 :: a1 :: a2 :: a3 :: a4 :: a5 :: a6 :: a7 :: a8 :: a9 :: a10 :: a11 :: a12 :: a13 :: a14 :: a15 :: a16 :: a17 :: .ow ds :: l, n⟩ P X = wb ⟨a0 :: a1 :: a2 :: a3 :: a4 :: a5 :: a6 :: a7 :: a8 :: a9 :: a10 :: a11 :: a12 :: a13 :: a14 :: a15 :: a16 :: a17 :: .ow ds :: l, n⟩ (kOwCmp 18 ds f P) X := id rfl
theorem z_OwCmp19 {a0 a1 a2 a3 a4 a5 a6 a7 a8 a9 a10 a11 a12 a13 a14 a15 a16 a17 a18 : Sl} {P : PE'} {wb : WE} {ds : List PyData} {f : PyData → PyData → (PyData → Prop) → Prop} : wOwCmp f 19 wb ⟨a0 :: a1 :: a2 :: a3 :: a4 :: a5 :: a6 :: a7 :: a8 :: a9 :: a10 :: a11 :: a12 :: a13 :: a14 :: a15 :: a16 :: a17 :: a18 :: .ow ds :: l, n⟩ P X = wb ⟨a0 :: a1 :: a2 :: a3 :: a4 :: a5 :: a6 :: a7 :: a8 :: a9 :: a10 :: a11 :: a12 :: a13 :: a14 :: a15 :: a16 :: a17 :: a18 :: .ow ds :: l, n⟩ (kOwCmp 19 ds f P) X := id rfl
theorem z_OwCmp20 {a0 a1 a2 a3 a4 a5 a6 a7 a8 a9 a10 a11 a12 a13 a14 a15 a16 a17 a18 a19 : Sl} {P : PE'} {wb : WE} {ds : List PyData} {f : PyData → PyData → (PyData → Prop) → Prop} : wOwCmp f 20 wb ⟨a0 :: a1 :: a2 :: a3 :: a4 :: a5 :: a6 :: a7 :: a8 :: a9 :: a10 :: a11 :: a12 :: a13 :: a14 :: a15 :: a16 :: a17 :: a18 :: a19 :: .ow ds :: l, n⟩ P X = wb ⟨a0 :: a1 :: a2 :: a3 :: a4 :: a5 :: a6 :: a7 :: a8 :: a9 :: a10 :: a11 :: a12 :: a13 :: a14 :: a15 :: a16 :: a17 :: a18 :: a19 :: .ow ds :: l, n⟩ (kOwCmp 20 ds f P) X := id rfl
theorem z_OwCmp21 {a0 a1 a2 a3 a4 a5 a6 a7 a8 a9 a10 a11 a12 a13 a14 a15 a16 a17 a18 a19 a20 : Sl} {P : PE'} {wb : WE} {ds : List PyData} {f : PyData → PyData → (PyData → Prop) → Prop} : wOwCmp f 21 wb ⟨a0 :: a1 :: a2 :: a3 :: a4 :: a5 :: a6 :: a7 :: a8 :: a9 :: a10 :: a11 :: a12 :: a13 :: a14 :: a15 :: a16 :: a17 :: a18 :: a19 :: a20 :: .ow ds :: l, n⟩ P X = wb ⟨a0 :: a1 :: a2 :: a3 :: a4 :: a5 :: a6 :: a7 :: a8 :: a9 :: a10 :: a11 :: a12 :: a13 :: a14 :: a15 :: a16 :: a17 :: a18 :: a19 :: a20 :: .ow ds :: l, n⟩ (kOwCmp 21 ds f P) X := id rfl
theorem z_OwCmp22 {a0 a1 a2 a3 a4 a5 a6 a7 a8 a9 a10 a11 a12 a13 a14 a15 a16 a17 a18 a19 a20 a21 : Sl} {P : PE'} {wb : WE} {ds : List PyData} {f : PyData → PyData → (PyData → Prop) → Prop} : wOwCmp f 22 wb ⟨a0 :: a1 :: a2 :: a3 :: a4 :: a5 :: a6 :: a7 :: a8 :: a9 :: a10 :: a11 :: a12 :: a13 :: a14 :: a15 :: a16 :: a17 :: a18 :: a19 :: a20 :: a21 :: .ow ds :: l, n⟩ P X = wb ⟨a0 :: a1 :: a2 :: a3 :: a4 :: a5 :: a6 :: a7 :: a8 :: a9 :: a10 :: a11 :: a12 :: a13 :: a14 :: a15 :: a16 :: a17 :: a18 :: a19 :: a20 :: a21 :: .ow ds :: l, n⟩ (kOwCmp 22 ds f P) X := id rfl
theorem z_OwCmp23 {a0 a1 a2 a3 a4 a5 a6 a7 a8 a9 a10 a11 a12 a13 a14 a15 a16 a17 a18 a19 a20 a21 a22 : Sl} {P : PE'} {wb : WE} {ds : List PyData} {f : PyData → PyData → (PyData → Prop) → Prop} : wOwCmp f 23 wb ⟨a0 :: a1 :: a2 :: a3 :: a4 :: a5 :: a6 :: a7 :: a8 :: a9 :: a10 :: a11 :: a12 :: a13 :: a14 :: a15 :: a16 :: a17 :: a18 :: a19 :: a20 :: a21 :: a22 :: .ow ds :: l, n⟩ P X = wb ⟨a0 :: a1 :: a2 :: a3 :: a4 :: a5 :: a6 :: a7 :: a8 :: a9 :: a10 :: a11 :: a12 :: a13 :: a14 :: a15 :: a16 :: a17 :: a18 :: a19 :: a20 :: a21 :: a22 :: .ow ds :: l, n⟩ (kOwCmp 23 ds f P) X := id rfl
theorem z_OwCmp24 {a0 a1 a2 a3 a4 a5 a6 a7 a8 a9 a10 a11 a12 a13 a14 a15 a16 a17 a18 a19 a20 a21 a22 a23 : Sl} {P : PE'} {wb : WE} {ds : List PyData} {f : PyData → PyData → (PyData → Prop) → Prop} : wOwCmp f 24 wb ⟨a0 :: a1 :: a2 :: a3 :: a4 :: a5 :: a6 :: a7 :: a8 :: a9 :: a10 :: a11 :: a12 :: a13 :: a14 :: a15 :: a16 :: a17 :: a18 :: a19 :: a20 :: a21 :: a22 :: a23 :: .ow ds :: l, n⟩ P X = wb ⟨a0 :: a1 :: a2 :: a3 :: a4 :: a5 :: a6 :: a7 :: a8 :: a9 :: a10 :: a11 :: a12 :: a13 :: a14 :: a15 :: a16 :: a17 :: a18 :: a19 :: a20 :: a21 :: a22 :: a23 :: .ow ds :: l, n⟩ (kOwCmp 24 ds f P) X := id rfl
theorem z_OwCmp25 {a0 a1 a2 a3 a4 a5 a6 a7 a8 a9 a10 a11 a12 a13 a14 a15 a16 a17 a18 a19 a20 a21 a22 a23 a24 : Sl} {P : PE'} {wb : WE} {ds : List PyData} {f : PyData → PyData → (PyData → Prop) → Prop} : wOwCmp f 25 wb ⟨a0 :: a1 :: a2 :: a3 :: a4 :: a5 :: a6 :: a7 :: a8 :: a9 :: a10 :: a11 :: a12 :: a13 :: a14 :: a15 :: a16 :: a17 :: a18 :: a19 :: a20 :: a21 :: a22 :: a23 :: a24 :: .ow ds :: l, n⟩ P X = wb ⟨a0 :: a1 :: a2 :: a3 :: a4 :: a5 :: a6 :: a7 :: a8 :: a9 :: a10 :: a11 :: a12 :: a13 :: a14 :: a15 :: a16 :: a17 :: a18 :: a19 :: a20 :: a21 :: a22 :: a23 :: a24 :: .ow ds :: l, n⟩ (kOwCmp 25 ds f P) X := id rfl
theorem z_CallL0 {P : Ar → En → Prop} {cs : Addr → Option Ct} {wr : WR} {g : Addr} : wCallL 0 cs wr ⟨.op (.ref g) :: l, n⟩ P X = kCs (cs g) wr P X ⟨.op (.ref g) :: l, n⟩ := id rfl
theorem z_CallL1 {a0 : Sl} {P : Ar → En → Prop} {cs : Addr → Option Ct} {wr : WR} {g : Addr} : wCallL 1 cs wr ⟨a0 :: .op (.ref g) :: l, n⟩ P X = kCs (cs g) wr P X ⟨a0 :: .op (.ref g) :: l, n⟩ := id rfl
theorem z_CallL2 {a0 a1 : Sl} {P : Ar → En → Prop} {cs : Addr → Option Ct} {wr : WR} {g : Addr} : wCallL 2 cs wr ⟨a0 :: a1 :: .op (.ref g) :: l, n⟩ P X = kCs (cs g) wr P X ⟨a0 :: a1 :: .op (.ref g) :: l, n⟩ := id rfl
theorem z_CallL3 {a0 a1 a2 : Sl} {P : Ar → En → Prop} {cs : Addr → Option Ct} {wr : WR} {g : Addr} : wCallL 3 cs wr ⟨a0 :: a1 :: a2 :: .op (.ref g) :: l, n⟩ P X = kCs (cs g) wr P X ⟨a0 :: a1 :: a2 :: .op (.ref g) :: l, n⟩ := id rfl
theorem z_CallL4 {a0 a1 a2 a3 : Sl} {P : Ar → En → Prop} {cs : Addr → Option Ct} {wr : WR} {g : Addr} : wCallL 4 cs wr ⟨a0 :: a1 :: a2 :: a3 :: .op (.ref g) :: l, n⟩ P X = kCs (cs g) wr P X ⟨a0 :: a1 :: a2 :: a3 :: .op (.ref g) :: l, n⟩ := id rfl
theorem z_CallL5 {a0 a1 a2 a3 a4 : Sl} {P : Ar → En → Prop} {cs : Addr → Option Ct} {wr : WR} {g : Addr} : wCallL 5 cs wr ⟨a0 :: a1 :: a2 :: a3 :: a4 :: .op (.ref g) :: l, n⟩ P X = kCs (cs g) wr P X ⟨a0 :: a1 :: a2 :: a3 :: a4 :: .op (.ref g) :: l, n⟩ := id rfl
theorem z_CallL6 {a0 a1 a2 a3 a4 a5 : Sl} {P : Ar → En → Prop} {cs : Addr → Option Ct} {wr : WR} {g : Addr} : wCallL 6 cs wr ⟨a0 :: a1 :: a2 :: a3 :: a4 :: a5 :: .op (.ref g) :: l, n⟩ P X = kCs (cs g) wr P X ⟨a0 :: a1 :: a2 :: a3 :: a4 :: a5 :: .op (.ref g) :: l, n⟩ := id rfl
theorem z_CallL7 {a0 a1 a2 a3 a4 a5 a6 : Sl} {P : Ar → En → Prop} {cs : Addr → Option Ct} {wr : WR} {g : Addr} : wCallL 7 cs wr ⟨a0 :: a1 :: a2 :: a3 :: a4 :: a5 :: a6 :: .op (.ref g) :: l, n⟩ P X = kCs (cs g) wr P X ⟨a0 :: a1 :: a2 :: a3 :: a4 :: a5 :: a6 :: .op (.ref g) :: l, n⟩ := id rfl
theorem z_CallL8 {a0 a1 a2 a3 a4 a5 a6 a7 : Sl} {P : Ar → En → Prop} {cs : Addr → Option Ct} {wr : WR} {g : Addr} : wCallL 8 cs wr ⟨a0 :: a1 :: a2 :: a3 :: a4 :: a5 :: a6 :: a7 :: .op (.ref g) :: l, n⟩ P X = kCs (cs g) wr P X ⟨a0 :: a1 :: a2 :: a3 :: a4 :: a5 :: a6 :: a7 :: .op (.ref g) :: l, n⟩ := id rfl
theorem z_CallL9 {a0 a1 a2 a3 a4 a5 a6 a7 a8 : Sl} {P : Ar → En → Prop} {cs : Addr → Option Ct} {wr : WR} {g : Addr} : wCallL 9 cs wr ⟨a0 :: a1 :: a2 :: a3 :: a4 :: a5 :: a6 :: a7 :: a8 :: .op (.ref g) :: l, n⟩ P X = kCs (cs g) wr P X ⟨a0 :: a1 :: a2 :: a3 :: a4 :: a5 :: a6 :: a7 :: a8 :: .op (.ref g) :: l, n⟩ := id rfl
theorem z_CallL10 {a0 a1 a2 a3 a4 a5 a6 a7 a8 a9 : Sl} {P : Ar → En → Prop} {cs : Addr → Option Ct} {wr : WR} {g : Addr} : wCallL 10 cs wr ⟨a0 :: a1 :: a2 :: a3 :: a4 :: a5 :: a6 :: a7 :: a8 :: a9 :: .op (.ref g) :: l, n⟩ P X = kCs (cs g) wr P X ⟨a0 :: a1 :: a2 :: a3 :: a4 :: a5 :: a6 :: a7 :: a8 :: a9 :: .op (.ref g) :: l, n⟩ := id rfl
theorem z_CallL11 {a0 a1 a2 a3 a4 a5 a6 a7 a8 a9 a10 : Sl} {P : Ar → En → Prop} {cs : Addr → Option Ct} {wr : WR} {g : Addr} : wCallL 11 cs wr ⟨a0 :: a1 :: a2 :: a3 :: a4 :: a5 :: a6 :: a7 :: a8 :: a9 :: a10 :: .op (.ref g) :: l, n⟩ P X = kCs (cs g) wr P X ⟨a0 :: a1 :: a2 :: a3 :: a4 :: a5 :: a6 :: a7 :: a8 :: a9 :: a10 :: .op (.ref g) :: l, n⟩ := id rfl
theorem z_CallL12 {a0 a1 a2 a3 a4 a5 a6 a7 a8 a9 a10 a11 : Sl} {P : Ar → En → Prop} {cs : Addr → Option Ct} {wr : WR} {g : Addr} : wCallL 12 cs wr ⟨a0 :: a1 :: a2 :: a3 :: a4 :: a5 :: a6 :: a7 :: a8 :: a9 :: a10 :: a11 :: .op (.ref g) :: l, n⟩ P X = kCs (cs g) wr P X ⟨a0 :: a1 :: a2 :: a3 :: a4 :: a5 :: a6 :: a7 :: a8 :: a9 :: a10 :: a11 :: .op (.ref g) :: l, n⟩ := id rfl
theorem z_CallL13 {a0 a1 a2 a3 a4 a5 a6 a7 a8 a9 a10 a11 a12 : Sl} {P : Ar → En → Prop} {cs : Addr → Option Ct} {wr : WR} {g : Addr} : wCallL 13 cs wr ⟨a0 :: a1 :: a2 :: a3 :: a4 :: a5 :: a6 :: a7 :: a8 :: a9 :: a10 :: a11 :: a12 :: .op (.ref g) :: l, n⟩ P X = kCs (cs g) wr P X ⟨a0 :: a1 :: a2 :: a3 :: a4 :: a5 :: a6 :: a7 :: a8 :: a9 :: a10 :: a11 :: a12 :: .op (.ref g) :: l, n⟩ := id rfl
theorem z_CallL14 {a0 a1 a2 a3 a4 a5 a6 a7 a8 a9 a10 a11 a12 a13 : Sl} {P : Ar → En → Prop} {cs : Addr → Option Ct} {wr : WR} {g : Addr} : wCallL 14 cs wr ⟨a0 :: a1 :: a2 :: a3 :: a4 :: a5 :: a6 :: a7 :: a8 :: a9 :: a10 :: a11 :: a12 :: a13 :: .op (.ref g) :: l, n⟩ P X = kCs (cs g) wr P X ⟨a0 :: a1 :: a2 :: a3 :: a4 :: a5 :: a6 :: a7 :: a8 :: a9 :: a10 :: a11 :: a12 :: a13 :: .op (.ref g) :: l, n⟩ := id rfl
theorem z_CallL15 {a0 a1 a2 a3 a4 a5 a6 a7 a8 a9 a10 a11 a12 a13 a14 : Sl} {P : Ar → En → Prop} {cs : Addr → Option Ct} {wr : WR} {g : Addr} : wCallL 15 cs wr ⟨a0 :: a1 :: a2 :: a3 :: a4 :: a5 :: a6 :: a7 :: a8 :: a9 :: a10 :: a11 :: a12 :: a13 :: a14 :: .op (.ref g) :: l, n⟩ P X = kCs (cs g) wr P X ⟨a0 :: a1 :: a2 :: a3 :: a4 :: a5 :: a6 :: a7 :: a8 :: a9 :: a10 :: a11 :: a12 :: a13 :: a14 :: .op (.ref g) :: l, n⟩ := id rfl
theorem z_CallL16 {a0 a1 a2 a3 a4 a5 a6 a7 a8 a9 a10 a11 a12 a13 a14 a15 : Sl} {P : Ar → En → Prop} {cs : Addr → Option Ct} {wr : WR} {g : Addr} : wCallL 16 cs wr ⟨a0 :: a1 :: a2 :: a3 :: a4 :: a5 :: a6 :: a7 :: a8 :: a9 :: a10 :: a11 :: a12 :: a13 :: a14 :: a15 :: .op (.ref g) :: l, n⟩ P X = kCs (cs g) wr P X ⟨a0 :: a1 :: a2 :: a3 :: a4 :: a5 :: a6 :: a7 :: a8 :: a9 :: a10 :: a11 :: a12 :: a13 :: a14 :: a15 :: .op (.ref g) :: l, n⟩ := id rfl
theorem z_CallL17 {a0 a1 a2 a3 a4 a5 a6 a7 a8 a9 a10 a11 a12 a13 a14 a15 a16 : Sl} {P : Ar → En → Prop} {cs : Addr → Option Ct} {wr : WR} {g : Addr} : wCallL 17 cs wr ⟨a0 :: a1 :: a2 :: a3 :: a4 :: a5 :: a6 :: a7 :: a8 :: a9 :: a10 :: a11 :: a12 :: a13 :: a14 :: a15 :: a16 :: .op (.ref g) :: l, n⟩ P X = kCs (cs g) wr P X ⟨a0 :: a1 :: a2 :: a3 :: a4 :: a5 :: a6 :: a7 :: a8 :: a9 :: a10 :: a11 :: a12 :: a13 :: a14 :: a15 :: a16 :: .op (.ref g) :: l, n⟩ := id rfl
theorem z_CallL18 {a0 a1 a2 a3 a4 a5 a6 a7 a8 a9 a10 a11 a12 a13 a14 a15 a16 a17 : Sl} {P : Ar → En → Prop} {cs : Addr → Option Ct} {wr : WR} {g : Addr} : wCallL 18 cs wr ⟨a0 :: a1 :: a2 :: a3 :: a4 :: a5 :: a6 :: a7 :: a8 :: a9 :: a10 :: a11 :: a12 :: a13 :: a14 :: a15 :: a16 :: a17 :: .op (.ref g) :: l, n⟩ P X = kCs (cs g) wr P X ⟨a0 :: a1 :: a2 :: a3 :: a4 :: a5 :: a6 :: a7 :: a8 :: a9 :: a10 :: a11 :: a12 :: a13 :: a14 :: a15 :: a16 :: a17 :: .op (.ref g) :: l, n⟩ := id rfl
theorem z_CallL19 {a0 a1 a2 a3 a4 a5 a6 a7 a8 a9 a10 a11 a12 a13 a14 a15 a16 a17 a18 : Sl} {P : Ar → En → Prop} {cs : Addr → Option Ct} {wr : WR} {g : Addr} : wCallL 19 cs wr ⟨a0 :: a1 :: a2 :: a3 :: a4 :: a5 :: a6 :: a7 :: a8 :: a9 :: a10 :: a11 :: a12 :: a13 :: a14 :: a15 :: a16 :: a17 :: a18 :: .op (.ref g) :: l, n⟩ P X = kCs (cs g) wr P X ⟨a0 :: a1 :: a2 :: a3 :: a4 :: a5 :: a6 :: a7 :: a8 :: a9 :: a10 :: a11 :: a12 :: a13 :: a14 :: a15 :: a16 :: a17 :: a18 :: .op (.ref g) :: l, n⟩ := id rfl
theorem z_CallL20 {a0 a1 a2 a3 a4 a5 a6 a7 a8 a9 a10 a11 a12 a13 a14 a15 a16 a17 a18 a19 : Sl} {P : Ar → En → Prop} {cs : Addr → Option Ct} {wr : WR} {g : Addr} : wCallL 20 cs wr ⟨a0 :: a1 :: a2 :: a3 :: a4 :: a5 :: a6 :: a7 :: a8 :: a9 :: a10 :: a11 :: a12 :: a13 :: a14 :: a15 :: a16 :: a17 :: a18 :: a19 :: .op (.ref g) :: l, n⟩ P X = kCs (cs g) wr P X ⟨a0 :: a1 :: a2 :: a3 :: a4 :: a5 :: a6 :: a7 :: a8 :: a9 :: a10 :: a11 :: a12 :: a13 :: a14 :: a15 :: a16 :: a17 :: a18 :: a19 :: .op (.ref g) :: l, n⟩ := id rfl
theorem z_CallL21 {a0 a1 a2 a3 a4 a5 a6 a7 a8 a9 a10 a11 a12 a13 a14 a15 a16 a17 a18 a19 a20 : Sl} {P : Ar → En → Prop} {cs : Addr → Option Ct} {wr : WR} {g : Addr} : wCallL 21 cs wr ⟨a0 :: a1 :: a2 :: a3 :: a4 :: a5 :: a6 :: a7 :: a8 :: a9 :: a10 :: a11 :: a12 :: a13 :: a14 :: a15 :: a16 :: a17 :: a18 :: a19 :: a20 :: .op (.ref g) :: l, n⟩ P X = kCs (cs g) wr P X ⟨a0 :: a1 :: a2 :: a3 :: a4 :: a5 :: a6 :: a7 :: a8 :: a9 :: a10 :: a11 :: a12 :: a13 :: a14 :: a15 :: a16 :: a17 :: a18 :: a19 :: a20 :: .op (.ref g) :: l, n⟩ := id rfl
theorem z_CallL22 {a0 a1 a2 a3 a4 a5 a6 a7 a8 a9 a10 a11 a12 a13 a14 a15 a16 a17 a18 a19 a20 a21 : Sl} {P : Ar → En → Prop} {cs : Addr → Option Ct} {wr : WR} {g : Addr} : wCallL 22 cs wr ⟨a0 :: a1 :: a2 :: a3 :: a4 :: a5 :: a6 :: a7 :: a8 :: a9 :: a10 :: a11 :: a12 :: a13 :: a14 :: a15 :: a16 :: a17 :: a18 :: a19 :: a20 :: a21 :: .op (.ref g) :: l, n⟩ P X = kCs (cs g) wr P X ⟨a0 :: a1 :: a2 :: a3 :: a4 :: a5 :: a6 :: a7 :: a8 :: a9 :: a10 :: a11 :: a12 :: a13 :: a14 :: a15 :: a16 :: a17 :: a18 :: a19 :: a20 :: a21 :: .op (.ref g) :: l, n⟩ := id rfl
theorem z_CallL23 {a0 a1 a2 a3 a4 a5 a6 a7 a8 a9 a10 a11 a12 a13 a14 a15 a16 a17 a18 a19 a20 a21 a22 : Sl} {P : Ar → En → Prop} {cs : Addr → Option Ct} {wr : WR} {g : Addr} : wCallL 23 cs wr ⟨a0 :: a1 :: a2 :: a3 :: a4 :: a5 :: a6 :: a7 :: a8 :: a9 :: a10 :: a11 :: a12 :: a13 :: a14 :: a15 :: a16 :: a17 :: a18 :: a19 :: a20 :: a21 :: a22 :: .op (.ref g) :: l, n⟩ P X = kCs (cs g) wr P X ⟨a0 :: a1 :: a2 :: a3 :: a4 :: a5 :: a6 :: a7 :: a8 :: a9 :: a10 :: a11 :: a12 :: a13 :: a14 :: a15 :: a16 :: a17 :: a18 :: a19 :: a20 :: a21 :: a22 :: .op (.ref g) :: l, n⟩ := id rfl
theorem z_CallL24 {a0 a1 a2 a3 a4 a5 a6 a7 a8 a9 a10 a11 a12 a13 a14 a15 a16 a17 a18 a19 a20 a21 a22 a23 : Sl} {P : Ar → En → Prop} {cs : Addr → Option Ct} {wr : WR} {g : Addr} : wCallL 24 cs wr ⟨a0 :: a1 :: a2 :: a3 :: a4 :: a5 :: a6 :: a7 :: a8 :: a9 :: a10 :: a11 :: a12 :: a13 :: a14 :: a15 :: a16 :: a17 :: a18 :: a19 :: a20 :: a21 :: a22 :: a23 :: .op (.ref g) :: l, n⟩ P X = kCs (cs g) wr P X ⟨a0 :: a1 :: a2 :: a3 :: a4 :: a5 :: a6 :: a7 :: a8 :: a9 :: a10 :: a11 :: a12 :: a13 :: a14 :: a15 :: a16 :: a17 :: a18 :: a19 :: a20 :: a21 :: a22 :: a23 :: .op (.ref g) :: l, n⟩ := id rfl
theorem z_CallL25 {a0 a1 a2 a3 a4 a5 a6 a7 a8 a9 a10 a11 a12 a13 a14 a15 a16 a17 a18 a19 a20 a21 a22 a23 a24 : Sl} {P : Ar → En → Prop} {cs : Addr → Option Ct} {wr : WR} {g : Addr} : wCallL 25 cs wr ⟨a0 :: a1 :: a2 :: a3 :: a4 :: a5 :: a6 :: a7 :: a8 :: a9 :: a10 :: a11 :: a12 :: a13 :: a14 :: a15 :: a16 :: a17 :: a18 :: a19 :: a20 :: a21 :: a22 :: a23 :: a24 :: .op (.ref g) :: l, n⟩ P X = kCs (cs g) wr P X ⟨a0 :: a1 :: a2 :: a3 :: a4 :: a5 :: a6 :: a7 :: a8 :: a9 :: a10 :: a11 :: a12 :: a13 :: a14 :: a15 :: a16 :: a17 :: a18 :: a19 :: a20 :: a21 :: a22 :: a23 :: a24 :: .op (.ref g) :: l, n⟩ := id rfl
theorem fIx_l {ds : List PyData} {i : Int} {z : PyData} {P : PyData → Prop} (h : atI ds i = some z) : fIx (.list ds) (.int i) P = P z := by
  show (∃ d, atI ds i = some d ∧ P d) = P z
  rw [h]; simp
theorem fIx_t {ds : List PyData} {i : Int} {z : PyData} {P : PyData → Prop} (h : atI ds i = some z) : fIx (.tuple ds) (.int i) P = P z := by
  show (∃ d, atI ds i = some d ∧ P d) = P z
  rw [h]; simp
theorem x_l0 {P : PyData → Prop} {a0 : PyData} {ds : List PyData} : fIx (.list (a0 :: ds)) (.int 0) P = P a0 := fIx_l (atI_some (by decide) rfl)
theorem x_t0 {P : PyData → Prop} {a0 : PyData} {ds : List PyData} : fIx (.tuple (a0 :: ds)) (.int 0) P = P a0 := fIx_t (atI_some (by decide) rfl)
theorem x_l1 {P : PyData → Prop} {a0 a1 : PyData} {ds : List PyData} : fIx (.list (a0 :: a1 :: ds)) (.int 1) P = P a1 := fIx_l (atI_some (by decide) rfl)
theorem x_t1 {P : PyData → Prop} {a0 a1 : PyData} {ds : List PyData} : fIx (.tuple (a0 :: a1 :: ds)) (.int 1) P = P a1 := fIx_t (atI_some (by decide) rfl)
theorem x_l2 {P : PyData → Prop} {a0 a1 a2 : PyData} {ds : List PyData} : fIx (.list (a0 :: a1 :: a2 :: ds)) (.int 2) P = P a2 := fIx_l (atI_some (by decide) rfl)
theorem x_t2 {P : PyData → Prop} {a0 a1 a2 : PyData} {ds : List PyData} : fIx (.tuple (a0 :: a1 :: a2 :: ds)) (.int 2) P = P a2 := fIx_t (atI_some (by decide) rfl)
theorem x_l3 {P : PyData → Prop} {a0 a1 a2 a3 : PyData} {ds : List PyData} : fIx (.list (a0 :: a1 :: a2 :: a3 :: ds)) (.int 3) P = P a3 := fIx_l (atI_some (by decide) rfl)
theorem x_t3 {P : PyData → Prop} {a0 a1 a2 a3 : PyData} {ds : List PyData} : fIx (.tuple (a0 :: a1 :: a2 :: a3 :: ds)) (.int 3) P = P a3 := fIx_t (atI_some (by decide) rfl)
theorem x_l4 {P : PyData → Prop} {a0 a1 a2 a3 a4 : PyData} {ds : List PyData} : fIx (.list (a0 :: a1 :: a2 :: a3 :: a4 :: ds)) (.int 4) P = P a4 := fIx_l (atI_some (by decide) rfl)
theorem x_t4 {P : PyData → Prop} {a0 a1 a2 a3 a4 : PyData} {ds : List PyData} : fIx (.tuple (a0 :: a1 :: a2 :: a3 :: a4 :: ds)) (.int 4) P = P a4 := fIx_t (atI_some (by decide) rfl)
theorem x_l5 {P : PyData → Prop} {a0 a1 a2 a3 a4 a5 : PyData} {ds : List PyData} : fIx (.list (a0 :: a1 :: a2 :: a3 :: a4 :: a5 :: ds)) (.int 5) P = P a5 := fIx_l (atI_some (by decide) rfl)
theorem x_t5 {P : PyData → Prop} {a0 a1 a2 a3 a4 a5 : PyData} {ds : List PyData} : fIx (.tuple (a0 :: a1 :: a2 :: a3 :: a4 :: a5 :: ds)) (.int 5) P = P a5 := fIx_t (atI_some (by decide) rfl)
theorem x_l6 {P : PyData → Prop} {a0 a1 a2 a3 a4 a5 a6 : PyData} {ds : List PyData} : fIx (.list (a0 :: a1 :: a2 :: a3 :: a4 :: a5 :: a6 :: ds)) (.int 6) P = P a6 := fIx_l (atI_some (by decide) rfl)
theorem x_t6 {P : PyData → Prop} {a0 a1 a2 a3 a4 a5 a6 : PyData} {ds : List PyData} : fIx (.tuple (a0 :: a1 :: a2 :: a3 :: a4 :: a5 :: a6 :: ds)) (.int 6) P = P a6 := fIx_t (atI_some (by decide) rfl)
theorem x_l7 {P : PyData → Prop} {a0 a1 a2 a3 a4 a5 a6 a7 : PyData} {ds : List PyData} : fIx (.list (a0 :: a1 :: a2 :: a3 :: a4 :: a5 :: a6 :: a7 :: ds)) (.int 7) P = P a7 := fIx_l (atI_some (by decide) rfl)
theorem x_t7 {P : PyData → Prop} {a0 a1 a2 a3 a4 a5 a6 a7 : PyData} {ds : List PyData} : fIx (.tuple (a0 :: a1 :: a2 :: a3 :: a4 :: a5 :: a6 :: a7 :: ds)) (.int 7) P = P a7 := fIx_t (atI_some (by decide) rfl)
theorem x_l8 {P : PyData → Prop} {a0 a1 a2 a3 a4 a5 a6 a7 a8 : PyData} {ds : List PyData} : fIx (.list (a0 :: a1 :: a2 :: a3 :: a4 :: a5 :: a6 :: a7 :: a8 :: ds)) (.int 8) P = P a8 := fIx_l (atI_some (by decide) rfl)
theorem x_t8 {P : PyData → Prop} {a0 a1 a2 a3 a4 a5 a6 a7 a8 : PyData} {ds : List PyData} : fIx (.tuple (a0 :: a1 :: a2 :: a3 :: a4 :: a5 :: a6 :: a7 :: a8 :: ds)) (.int 8) P = P a8 := fIx_t (atI_some (by decide) rfl)
theorem x_l9 {P : PyData → Prop} {a0 a1 a2 a3 a4 a5 a6 a7 a8 a9 : PyData} {ds : List PyData} : fIx (.list (a0 :: a1 :: a2 :: a3 :: a4 :: a5 :: a6 :: a7 :: a8 :: a9 :: ds)) (.int 9) P = P a9 := fIx_l (atI_some (by decide) rfl)
theorem x_t9 {P : PyData → Prop} {a0 a1 a2 a3 a4 a5 a6 a7 a8 a9 : PyData} {ds : List PyData} : fIx (.tuple (a0 :: a1 :: a2 :: a3 :: a4 :: a5 :: a6 :: a7 :: a8 :: a9 :: ds)) (.int 9) P = P a9 := fIx_t (atI_some (by decide) rfl)
theorem x_l10 {P : PyData → Prop} {a0 a1 a2 a3 a4 a5 a6 a7 a8 a9 a10 : PyData} {ds : List PyData} : fIx (.list (a0 :: a1 :: a2 :: a3 :: a4 :: a5 :: a6 :: a7 :: a8 :: a9 :: a10 :: ds)) (.int 10) P = P a10 := fIx_l (atI_some (by decide) rfl)
theorem x_t10 {P : PyData → Prop} {a0 a1 a2 a3 a4 a5 a6 a7 a8 a9 a10 : PyData} {ds : List PyData} : fIx (.tuple (a0 :: a1 :: a2 :: a3 :: a4 :: a5 :: a6 :: a7 :: a8 :: a9 :: a10 :: ds)) (.int 10) P = P a10 := fIx_t (atI_some (by decide) rfl)
theorem x_l11 {P : PyData → Prop} {a0 a1 a2 a3 a4 a5 a6 a7 a8 a9 a10 a11 : PyData} {ds : List PyData} : fIx (.list (a0 :: a1 :: a2 :: a3 :: a4 :: a5 :: a6 :: a7 :: a8 :: a9 :: a10 :: a11 :: ds)) (.int 11) P = P a11 := fIx_l (atI_some (by decide) rfl)
theorem x_t11 {P : PyData → Prop} {a0 a1 a2 a3 a4 a5 a6 a7 a8 a9 a10 a11 : PyData} {ds : List PyData} : fIx (.tuple (a0 :: a1 :: a2 :: a3 :: a4 :: a5 :: a6 :: a7 :: a8 :: a9 :: a10 :: a11 :: ds)) (.int 11) P = P a11 := fIx_t (atI_some (by decide) rfl)
theorem x_l12 {P : PyData → Prop} {a0 a1 a2 a3 a4 a5 a6 a7 a8 a9 a10 a11 a12 : PyData} {ds : List PyData} : fIx (.list (a0 :: a1 :: a2 :: a3 :: a4 :: a5 :: a6 :: a7 :: a8 :: a9 :: a10 :: a11 :: a12 :: ds)) (.int 12) P = P a12 := fIx_l (atI_some (by decide) rfl)
theorem x_t12 {P : PyData → Prop} {a0 a1 a2 a3 a4 a5 a6 a7 a8 a9 a10 a11 a12 : PyData} {ds : List PyData} : fIx (.tuple (a0 :: a1 :: a2 :: a3 :: a4 :: a5 :: a6 :: a7 :: a8 :: a9 :: a10 :: a11 :: a12 :: ds)) (.int 12) P = P a12 := fIx_t (atI_some (by decide) rfl)
theorem x_l13 {P : PyData → Prop} {a0 a1 a2 a3 a4 a5 a6 a7 a8 a9 a10 a11 a12 a13 : PyData} {ds : List PyData} : fIx (.list (a0 :: a1 :: a2 :: a3 :: a4 :: a5 :: a6 :: a7 :: a8 :: a9 :: a10 :: a11 :: a12 :: a13 :: ds)) (.int 13) P = P a13 := fIx_l (atI_some (by decide) rfl)
theorem x_t13 {P : PyData → Prop} {a0 a1 a2 a3 a4 a5 a6 a7 a8 a9 a10 a11 a12 a13 : PyData} {ds : List PyData} : fIx (.tuple (a0 :: a1 :: a2 :: a3 :: a4 :: a5 :: a6 :: a7 :: a8 :: a9 :: a10 :: a11 :: a12 :: a13 :: ds)) (.int 13) P = P a13 := fIx_t (atI_some (by decide) rfl)
theorem x_l14 {P : PyData → Prop} {a0 a1 a2 a3 a4 a5 a6 a7 a8 a9 a10 a11 a12 a13 a14 : PyData} {ds : List PyData} : fIx (.list (a0 :: a1 :: a2 :: a3 :: a4 :: a5 :: a6 :: a7 :: a8 :: a9 :: a10 :: a11 :: a12 :: a13 :: a14 :: ds)) (.int 14) P = P a14 := fIx_l (atI_some (by decide) rfl)
theorem x_t14 {P : PyData → Prop} {a0 a1 a2 a3 a4 a5 a6 a7 a8 a9 a10 a11 a12 a13 a14 : PyData} {ds : List PyData} : fIx (.tuple (a0 :: a1 :: a2 :: a3 :: a4 :: a5 :: a6 :: a7 :: a8 :: a9 :: a10 :: a11 :: a12 :: a13 :: a14 :: ds)) (.int 14) P = P a14 := fIx_t (atI_some (by decide) rfl)
theorem x_l15 {P : PyData → Prop} {a0 a1 a2 a3 a4 a5 a6 a7 a8 a9 a10 a11 a12 a13 a14 a15 : PyData} {ds : List PyData} : fIx (.list (a0 :: a1 :: a2 :: a3 :: a4 :: a5 :: a6 :: a7 :: a8 :: a9 :: a10 :: a11 :: a12 :: a13 :: a14 :: a15 :: ds)) (.int 15) P = P a15 := fIx_l (atI_some (by decide) rfl)
theorem x_t15 {P : PyData → Prop} {a0 a1 a2 a3 a4 a5 a6 a7 a8 a9 a10 a11 a12 a13 a14 a15 : PyData} {ds : List PyData} : fIx (.tuple (a0 :: a1 :: a2 :: a3 :: a4 :: a5 :: a6 :: a7 :: a8 :: a9 :: a10 :: a11 :: a12 :: a13 :: a14 :: a15 :: ds)) (.int 15) P = P a15 := fIx_t (atI_some (by decide) rfl)
theorem t_int_none  : isT "int" (.none) = false := by simp
theorem t_int_bool {b : Bool} : isT "int" (.bool b) = true := by simp
theorem t_int_int {i : Int} : isT "int" (.int i) = true := by simp
theorem t_int_str {s : Str} : isT "int" (.str s) = false := by simp
theorem t_int_list {ds : List PyData} : isT "int" (.list ds) = false := by simp
theorem t_int_tuple {ds : List PyData} : isT "int" (.tuple ds) = false := by simp
theorem t_int_dict {kvs : List (PyData × PyData)} : isT "int" (.dict kvs) = false := by simp
theorem t_bool_none  : isT "bool" (.none) = false := by simp
theorem t_bool_bool {b : Bool} : isT "bool" (.bool b) = true := by simp
theorem t_bool_int {i : Int} : isT "bool" (.int i) = false := by simp
theorem t_bool_str {s : Str} : isT "bool" (.str s) = false := by simp
theorem t_bool_list {ds : List PyData} : isT "bool" (.list ds) = false := by simp
theorem t_bool_tuple {ds : List PyData} : isT "bool" (.tuple ds) = false := by simp
theorem t_bool_dict {kvs : List (PyData × PyData)} : isT "bool" (.dict kvs) = false := by simp
theorem t_str_none  : isT "str" (.none) = false := by simp
theorem t_str_bool {b : Bool} : isT "str" (.bool b) = false := by simp
theorem t_str_int {i : Int} : isT "str" (.int i) = false := by simp
theorem t_str_str {s : Str} : isT "str" (.str s) = true := by simp
theorem t_str_list {ds : List PyData} : isT "str" (.list ds) = false := by simp
theorem t_str_tuple {ds : List PyData} : isT "str" (.tuple ds) = false := by simp
theorem t_str_dict {kvs : List (PyData × PyData)} : isT "str" (.dict kvs) = false := by simp
theorem t_list_none  : isT "list" (.none) = false := by simp
theorem t_list_bool {b : Bool} : isT "list" (.bool b) = false := by simp
theorem t_list_int {i : Int} : isT "list" (.int i) = false := by simp
theorem t_list_str {s : Str} : isT "list" (.str s) = false := by simp
theorem t_list_list {ds : List PyData} : isT "list" (.list ds) = true := by simp
theorem t_list_tuple {ds : List PyData} : isT "list" (.tuple ds) = false := by simp
theorem t_list_dict {kvs : List (PyData × PyData)} : isT "list" (.dict kvs) = false := by simp
theorem t_tuple_none  : isT "tuple" (.none) = false := by simp
theorem t_tuple_bool {b : Bool} : isT "tuple" (.bool b) = false := by simp
theorem t_tuple_int {i : Int} : isT "tuple" (.int i) = false := by simp
theorem t_tuple_str {s : Str} : isT "tuple" (.str s) = false := by simp
theorem t_tuple_list {ds : List PyData} : isT "tuple" (.list ds) = false := by simp
theorem t_tuple_tuple {ds : List PyData} : isT "tuple" (.tuple ds) = true := by simp
theorem t_tuple_dict {kvs : List (PyData × PyData)} : isT "tuple" (.dict kvs) = false := by simp
theorem q_int {i j : Int} {P : PyData → Prop} : fEq (.int i) (.int j) P = P (.bool (decide (i = j))) := by
  show (_ ∧ _ ∧ _) = _
  rw [eqOkL_int, eqOkL_int, eqv_int]; simp
theorem q_bool {i j : Bool} {P : PyData → Prop} : fEq (.bool i) (.bool j) P = P (.bool (decide (i = j))) := by
  show (_ ∧ _ ∧ _) = _
  rw [eqOkL_bool, eqOkL_bool, eqv_bool]; simp
theorem q_str {i j : Str} {P : PyData → Prop} : fEq (.str i) (.str j) P = P (.bool (decide (i = j))) := by
  show (_ ∧ _ ∧ _) = _
  rw [eqv_str]; simp [eqOkL]
theorem q_nil0 {P : PyData → Prop} : fEq (.list []) (.list []) P = P (.bool true) := by
  show (_ ∧ _ ∧ _) = _
  simp [eqOkL, PyData.eqv, PyData.eqvAll]
theorem q_nil1 {d : PyData} {ds : List PyData} {P : PyData → Prop} : fEq (.list (d :: ds)) (.list []) P = P (.bool false) := by
  show (_ ∧ _ ∧ _) = _
  simp [eqOkL, PyData.eqv, PyData.eqvAll]
theorem f_I {P : PyData → Prop} {C : Int → Int → Prop} {g : Int → Int → Int} {i j : Int} : fI C g (.int i) (.int j) P = (C i j ∧ P (.int (g i j))) := id rfl
theorem f_I0 {P : PyData → Prop} {g : Int → Int → Int} {i j : Int} : fI0 g (.int i) (.int j) P = P (.int (g i j)) := id rfl
theorem f_IB {P : PyData → Prop} {g : Int → Int → Bool} {i j : Int} : fIB g (.int i) (.int j) P = P (.bool (g i j)) := id rfl
theorem f_Isi {P : PyData → Prop} {T : String} {d : PyData} : fIsi T d P = P (.bool (isT T d)) := id rfl
theorem f_Isi2 {P : PyData → Prop} {T U : String} {d : PyData} : fIsi2 T U d P = P (.bool (isT T d || isT U d)) := id rfl
theorem f_Inti {P : PyData → Prop} {i : Int} : fInt [.int i] P = P (.int i) := id rfl
theorem f_Intb {P : PyData → Prop} {b : Bool} : fInt [.bool b] P = P (.int (if b then 1 else 0)) := id rfl
theorem f_LenL {P : PyData → Prop} {ds : List PyData} : fLen [.list ds] P = P (.int ds.length) := id rfl
theorem f_LenT {P : PyData → Prop} {ds : List PyData} : fLen [.tuple ds] P = P (.int ds.length) := id rfl
theorem f_LenS {P : PyData → Prop} {z : Str} : fLen [.str z] P = (z.length ≤ sizeLine ∧ P (.int z.length)) := id rfl
theorem f_AddI {P : PyData → Prop} {i j : Int} : fAdd (.int i) (.int j) P = P (.int (i + j)) := id rfl
theorem f_AddL {P : PyData → Prop} {xs ys : List PyData} : fAdd (.list xs) (.list ys) P = (xs.length + ys.length ≤ sizeLine ∧ P (.list (xs ++ ys))) := id rfl
theorem f_AddT {P : PyData → Prop} {xs ys : List PyData} : fAdd (.tuple xs) (.tuple ys) P = (xs.length + ys.length ≤ sizeLine ∧ P (.tuple (xs ++ ys))) := id rfl
theorem f_AddS {P : PyData → Prop} {x y : Str} : fAdd (.str x) (.str y) P = (x.length + y.length ≤ sizeLine ∧ P (.str (x ++ y))) := id rfl
theorem f_MulI {P : PyData → Prop} {i j : Int} : fMul (.int i) (.int j) P = (CMul' i j ∧ P (.int (i * j))) := id rfl
theorem f_MulL {P : PyData → Prop} {xs : List PyData} {k : Int} : fMul (.list xs) (.int k) P = ((-(2 ^ 63) ≤ k ∧ k < 2 ^ 63 ∧ xs.length * k.toNat ≤ sizeLine) ∧ P (.list (List.replicate k.toNat xs).flatten)) := id rfl
theorem f_SlL {P : PyData → Prop} {ds : List PyData} {lo hi : Option Int} : fSl (.list ds) lo hi P = P (.list (cutA ds lo hi)) := id rfl
theorem f_SlT {P : PyData → Prop} {ds : List PyData} {lo hi : Option Int} : fSl (.tuple ds) lo hi P = P (.tuple (cutA ds lo hi)) := id rfl
theorem f_ToLl {P : PyData → Prop} {ds : List PyData} : fToL [.list ds] P = P (.list ds) := id rfl
theorem f_ToLt {P : PyData → Prop} {ds : List PyData} : fToL [.tuple ds] P = P (.list ds) := id rfl
theorem f_ToTl {P : PyData → Prop} {ds : List PyData} : fToT [.list ds] P = P (.tuple ds) := id rfl
theorem f_ToTt {P : PyData → Prop} {ds : List PyData} : fToT [.tuple ds] P = P (.tuple ds) := id rfl
theorem f_Neg {P : PyData → Prop} {i : Int} : fNeg (.int i) P = P (.int (-i)) := id rfl
theorem f_Abs {P : PyData → Prop} {i : Int} : fAbs [.int i] P = P (.int (if i < 0 then -i else i)) := id rfl
theorem f_Bits {P : PyData → Prop} {i : Int} : fBits (.int i) P = P (.int (Builtin.Int.intBits i : Nat)) := id rfl
theorem f_IsN {P : PyData → Prop} {d : PyData} : fIsN d .none P = P (.bool (isNone d)) := id rfl
theorem f_NotN {P : PyData → Prop} {d : PyData} : fNotN d .none P = P (.bool (!isNone d)) := id rfl
theorem f_IsB {P : PyData → Prop} {x y : Bool} : fIsB (.bool x) (.bool y) P = P (.bool (decide (x = y))) := id rfl
theorem f_Repr {P : PyData → Prop} {d : PyData} : fRepr [d] P = (reprOk d = true ∧ d.shown.length ≤ sizeLine ∧ P (.str d.shown)) := id rfl
theorem f_Max2 {P : PyData → Prop} {i j : Int} : fMax [.int i, .int j] P = P (.int (if j > i then j else i)) := id rfl
theorem f_Min2 {P : PyData → Prop} {i j : Int} : fMin [.int i, .int j] P = P (.int (if j < i then j else i)) := id rfl
theorem f_Rev {P : PyData → Prop} {ds : List PyData} : fRev (.list ds) P = P (.list ds.reverse) := id rfl
end
end VL

end
section
set_option Elab.async false
set_option linter.all false
set_option maxRecDepth 100000
set_option maxHeartbeats 2000000
/-! Two names at once of which some own their list; slices with a step. -/
namespace VL
open PySem PySem.Spec PyProof.Rows L2
section
variable {G : Gx} {X : Cx} {E : XK} {pos px py pt : Pos} {a b : Expr} {ta tb : TE} {wa wb : WE} {wl wl2 : WA} {x y : Str} {kt k2 : Nat} {pt2 : Pos}
theorem later_own {W W1 : Addr → Option Nat} {S S1 H H1 : Hp} {p : Addr} {vs : List V} {ds : List PyData} {K : PySem.W.Frag} (f : Fw W S H W1 S1 H1) (n2 : S p = none) (n3 : W p = none) (h1 : H p = some (.lst vs)) (d1 : DtA K S vs ds) :
    S1 p = none ∧ W1 p = none ∧ H1 p = some (.lst vs) ∧ DtA K S1 vs ds := by
  have hn : H p ≠ none := by rw [h1]; exact fun z => by cases z
  exact ⟨f.nw p n2 hn n3, opt_none fun z => (f.wn p z).elim (fun q => q n3) hn, f.hh p _ n3 (fun _ z => by cases z) h1, d1.up f.ss⟩
def wParOD (i j : Nat) (wl : WA) (wb : WE) : WS := fun A X e => wl e (fun ds e1 => wb e1 (fun y e2 => A.nx ((e2.set i (.ow ds)).set j (.da y))) X) X
def wParDO (i j : Nat) (wa : WE) (wl : WA) : WS := fun A X e => wa e (fun x e1 => wl e1 (fun ds e2 => A.nx ((e2.set i (.da x)).set j (.ow ds))) X) X
def wParOO (i j : Nat) (wl wl2 : WA) : WS := fun A X e => wl e (fun ds e1 => wl2 e1 (fun es e2 => A.nx ((e2.set i (.ow ds)).set j (.ow es))) X) X
theorem vs_parOD (i j : Nat) (hN : X.N.Nodup) (ha : VF G X E a ta wl) (hb : VE G X E b tb wb) (hi : X.N[i]? = some x := by rfl) (hj : X.N[j]? = some y := by rfl) (hij : i ≠ j := by decide) (hx : X.env.scope.names.lookup x = some .local := by rfl) (hy : X.env.scope.names.lookup y = some .local := by rfl)
    (hc : X.calm = true := by rfl) (hw : swappedStores [.Tuple [.Name x px, .Name y py] kt pt] (.Tuple [a, b] k2 pt2) X.env = pure (some [x, y]) := by rfl) (hs : swapsWithSole [.Tuple [.Name x px, .Name y py] kt pt] (.Tuple [a, b] k2 pt2) pos.line X.env = pure false := by rfl)
    (hs1 : starEach [a, b] X.env = (false, eval a X.env) :: starEach [b] X.env := by rfl) (hs2 : starEach [b] X.env = (false, eval b X.env) :: starEach [] X.env := by rfl) (hg : i < gcode := by decide) :
    VS G X E (.Assign [.Tuple [.Name x px, .Name y py] kt pt] (.Tuple [a, b] k2 pt2) pos) (tPar i j (tCons ta (tCons tb tNil))) (wParOD i j wl wb) :=
  ⟨ha.hK, ps_par hc hN hi hj hij hx hy (pa_cons ha.pe (pa_cons hb.pe pa_nil hs2) hs1) hw hs, fun W S H σ e A X hs hw hk D n _ _ _ => ha.rf W S H σ e _ X hs hw hk _ fun p vs ds W1 S1 H1 e1 f1 s1 n1 n2 n3 h1 d1 hp =>
    hb.re W1 S1 H1 σ e1 _ X s1 hp (hk.next f1) _ fun u du W2 S2 H2 e2 f2 s2 d2 h2 => by
      obtain ⟨m2, m3, m1, md⟩ := later_own f2 n2 n3 h1 d1
      exact ⟨_, _, rfl, n _ S2 H2 _ _ ((f1.trans f2).own n1 m3) ((s2.own hg m2 m3 m1 md).setD d2) h2⟩⟩
theorem vs_parDO (i j : Nat) (hN : X.N.Nodup) (ha : VE G X E a ta wa) (hb : VF G X E b tb wl) (hi : X.N[i]? = some x := by rfl) (hj : X.N[j]? = some y := by rfl) (hij : i ≠ j := by decide) (hx : X.env.scope.names.lookup x = some .local := by rfl) (hy : X.env.scope.names.lookup y = some .local := by rfl)
    (hc : X.calm = true := by rfl) (hw : swappedStores [.Tuple [.Name x px, .Name y py] kt pt] (.Tuple [a, b] k2 pt2) X.env = pure (some [x, y]) := by rfl) (hs : swapsWithSole [.Tuple [.Name x px, .Name y py] kt pt] (.Tuple [a, b] k2 pt2) pos.line X.env = pure false := by rfl)
    (hs1 : starEach [a, b] X.env = (false, eval a X.env) :: starEach [b] X.env := by rfl) (hs2 : starEach [b] X.env = (false, eval b X.env) :: starEach [] X.env := by rfl) (hg : j < gcode := by decide) :
    VS G X E (.Assign [.Tuple [.Name x px, .Name y py] kt pt] (.Tuple [a, b] k2 pt2) pos) (tPar i j (tCons ta (tCons tb tNil))) (wParDO i j wa wl) :=
  ⟨ha.hK, ps_par hc hN hi hj hij hx hy (pa_cons ha.pe (pa_cons hb.pe pa_nil hs2) hs1) hw hs, fun W S H σ e A X hs hw hk D n _ _ _ => ha.re W S H σ e _ X hs hw hk _ fun v dv W1 S1 H1 e1 f1 s1 d1 hp =>
    hb.rf W1 S1 H1 σ e1 _ X s1 hp (hk.next f1) _ fun p vs ds W2 S2 H2 e2 f2 s2 n1 n2 n3 h1 d2 h2 =>
      ⟨_, _, rfl, n _ S2 H2 _ _ ((f1.trans f2).own (f1.back n1) n3) ((s2.setD (d1.up f2.ss)).own hg n2 n3 h1 d2) h2⟩⟩
theorem vs_parOO (i j : Nat) (hN : X.N.Nodup) (ha : VF G X E a ta wl) (hb : VF G X E b tb wl2) (hi : X.N[i]? = some x := by rfl) (hj : X.N[j]? = some y := by rfl) (hij : i ≠ j := by decide) (hx : X.env.scope.names.lookup x = some .local := by rfl) (hy : X.env.scope.names.lookup y = some .local := by rfl)
    (hc : X.calm = true := by rfl) (hw : swappedStores [.Tuple [.Name x px, .Name y py] kt pt] (.Tuple [a, b] k2 pt2) X.env = pure (some [x, y]) := by rfl) (hs : swapsWithSole [.Tuple [.Name x px, .Name y py] kt pt] (.Tuple [a, b] k2 pt2) pos.line X.env = pure false := by rfl)
    (hs1 : starEach [a, b] X.env = (false, eval a X.env) :: starEach [b] X.env := by rfl) (hs2 : starEach [b] X.env = (false, eval b X.env) :: starEach [] X.env := by rfl) (hg : i < gcode := by decide) (hg2 : j < gcode := by decide) :
    VS G X E (.Assign [.Tuple [.Name x px, .Name y py] kt pt] (.Tuple [a, b] k2 pt2) pos) (tPar i j (tCons ta (tCons tb tNil))) (wParOO i j wl wl2) :=
  ⟨ha.hK, ps_par hc hN hi hj hij hx hy (pa_cons ha.pe (pa_cons hb.pe pa_nil hs2) hs1) hw hs, fun W S H σ e A X hs hw hk D n _ _ _ => ha.rf W S H σ e _ X hs hw hk _ fun p vs ds W1 S1 H1 e1 f1 s1 n1 n2 n3 h1 d1 hp =>
    hb.rf W1 S1 H1 σ e1 _ X s1 hp (hk.next f1) _ fun q us es W2 S2 H2 e2 f2 s2 m1 m2 m3 g1 d2 h2 => by
      obtain ⟨k2, k3, k1, kd⟩ := later_own f2 n2 n3 h1 d1
      have hqp : q ≠ p := fun z => by rw [z, h1] at m1; cases m1
      have w' : (if q = p then some i else W2 q) = none := by rw [if_neg hqp]; exact m3
      have fo := (f1.trans f2).own (i := i) n1 k3
      exact ⟨_, _, rfl, n _ S2 H2 _ _ (Fw.own (i := j) fo (f1.back m1) w') ((s2.own hg k2 k3 k1 kd).own hg2 m2 w' g1 d2) h2⟩⟩
/-! ### xs[lo:hi:step] -/
def pickA {α : Type} (xs : List α) (lo hi st : Option Int) : List α := (sliceRange (sliceBounds lo hi st xs.length).1 (sliceBounds lo hi st xs.length).2.1 (sliceBounds lo hi st xs.length).2.2).filterMap (xs[·]?)
theorem vals_pick {vs : List V} {us : List Value} (r : Vals vs us) : ∀ (is : List Nat), Vals (is.filterMap (vs[·]?)) (is.filterMap (us[·]?))
  | [] => .nil
  | i :: is => by
    have ih := vals_pick r is
    cases q : vs[i]? with
    | none =>
      have q' : us[i]? = none := by
        rw [List.getElem?_eq_none_iff] at q ⊢
        rw [← L2.Vals.length r]; exact q
      rw [List.filterMap_cons_none q, List.filterMap_cons_none q']
      exact ih
    | some v =>
      obtain ⟨u, hu, rv⟩ := L2.Vals.get r q
      rw [List.filterMap_cons_some q, List.filterMap_cons_some hu]
      exact .cons rv ih
theorem dta_pick {K : PySem.W.Frag} {S : Hp} {vs : List V} {ds : List PyData} (h : DtA K S vs ds) : ∀ (is : List Nat), DtA K S (is.filterMap (vs[·]?)) (is.filterMap (ds[·]?))
  | [] => .nil
  | i :: is => by
    have ih := dta_pick h is
    cases q : ds[i]? with
    | none =>
      have q' : vs[i]? = none := by
        rw [List.getElem?_eq_none_iff] at q ⊢
        rw [h.len]; exact q
      rw [List.filterMap_cons_none q, List.filterMap_cons_none q']
      exact ih
    | some d =>
      obtain ⟨v, hv, hd⟩ := h.get q
      rw [List.filterMap_cons_some q, List.filterMap_cons_some hv]
      exact .cons hd ih
def tSl3 (K : PySem.W.Frag) (te : TE) (tl th ts : TO) : TE := fun σ H Q => te σ H fun x H1 => tl σ H1 fun l H2 => th σ H2 fun u H3 => ts σ H3 fun c H4 => c ≠ some 0 ∧ ∃ a xs, x = .ref a ∧ SqL K H4 a xs ∧ ∀ p, H4 p = none → Q (.ref p) (upd H4 p (.lst (pickA xs l u c)))
theorem pe_sl3 {e st : Expr} {lo hi : Option Expr} {te : TE} {tl th ts : TO} {p2 pos : Pos} (he : PE X e te) (hl : PO X lo tl) (hh : PO X hi th) (ht : PO X (some st) ts) : PE X (.Subscript e (.Slice lo hi (some st) p2) pos) (tSl3 X.K te tl th ts) := by
  refine ⟨fun pins s σ H Q I h => ?_⟩
  refine Subscript_ (thn (he.run pins s σ H _ I h) fun v s1 ⟨x, H1, I1, r1, q1⟩ => ?_)
  refine wpAny_Slice (thn (hl.run pins s1 σ H1 _ I1 q1) fun vl s2 ⟨l, H2, I2, pl, q2⟩ => thn (hh.run pins s2 σ H2 _ I2 q2) fun vu s3 ⟨u, H3, I3, pu, q3⟩ => thn (ht.run pins s3 σ H3 _ I3 q3) fun vs s4 ⟨c, H4, I4, pc, hc, a, xs, ex, hx, q⟩ => ?_)
  subst ex
  cases r1
  have I5 : Inv X pins σ H4 { s4 with heap := s4.heap.push { cls := .type "slice", data := .fields #[vl, vu, vs] } } := I4.kept (t' := s4.toks) fun b ob q => Heap.get?_push_of_some _ q
  obtain ⟨its, r, hT, hz⟩ := I5.list hx
  have hlen := r.length
  show wpAny (model X.prog X.w) X.A (subscriptTail e (.Slice lo hi (some st) p2) (.ref a) (.ref s4.heap.objs.size)) (EP X pins σ Q) X.xe { s4 with heap := s4.heap.push { cls := .type "slice", data := .fields #[vl, vu, vs] } }
  refine tail_any (ops := [.ref a, .ref s4.heap.objs.size]) hT.isList.typeIs (PySem.slot_list_getitem.lookup) ?_ (by with_unfolding_all rfl)
  refine wpAny_getItem_list_slice hT.isList (Heap.IsSliceOf.new _ vl vu vs) pl pu pc hc ?_ (by rw [List.size_toArray]; omega)
  have e1 : slicePick its.toArray l u c = (pickA its l u c).toArray := by
    unfold slicePick pickA
    simp
  have rp : Vals (pickA xs l u c) (pickA its l u c) := by
    unfold pickA
    rw [← hlen]
    exact vals_pick r _
  have hsz : (pickA xs l u c).length ≤ sizeLine := by
    have h1 := slicePick_size_le its.toArray l u c
    rw [e1, List.size_toArray, List.size_toArray, ← L2.Vals.length rp] at h1
    omega
  rw [e1]
  exact ⟨.ref _, _, I5.laid (t' := s4.toks) (o := .lst (pickA xs l u c)) (fun b ob q => Heap.get?_push_of_some _ q) (Nat.le_refl _) ⟨hsz, _, 0, rp, Heap.get?_push_size _ rfl⟩, rfl, q _ (I5.hok.fresh (Nat.le_refl _))⟩
def fSl3 (d : PyData) (lo hi st : Option Int) (P : PyData → Prop) : Prop := match d with
  | .list ds => st ≠ some 0 ∧ P (.list (pickA ds lo hi st))
  | _ => False
def wSl3 (wa : WE) (wl wh wt : WO) : WE := fun e P X => wa e (fun d e1 => wl e1 (fun lo e2 => wh e2 (fun hi e3 => wt e3 (fun st e4 => fSl3 d lo hi st fun z => P z e4) X) X) X) X
theorem ve_sl3 {st : Expr} {lo hi : Option Expr} {tl th ts : TO} {wl wh wt : WO} {p2 : Pos} (ha : VE G X E a ta wa) (hl : VO G X E lo tl wl) (hh : VO G X E hi th wh) (ht : VO G X E (some st) ts wt) : VE G X E (.Subscript a (.Slice lo hi (some st) p2) pos) (tSl3 G.K ta tl th ts) (wSl3 wa wl wh wt) :=
  ⟨ha.hK, by rw [← ha.hK]; exact pe_sl3 ha.pe hl.po hh.po ht.po, fun W S H σ e P X hs hw hk Q q => ha.re W S H σ e _ X hs hw hk _ fun v d W1 S1 H1 e1 f1 s1 d1 h1 =>
    hl.rp W1 S1 H1 σ e1 _ X s1 h1 (hk.next f1) _ fun l W2 S2 H2 e2 f2 s2 h2 => hh.rp W2 S2 H2 σ e2 _ X s2 h2 (hk.next (f1.trans f2)) _ fun u W3 S3 H3 e3 f3 s3 h3 => ht.rp W3 S3 H3 σ e3 _ X s3 h3 (hk.next ((f1.trans f2).trans f3)) _ fun c W4 S4 H4 e4 f4 s4 h4 => by
      have d4 := ((d1.up f2.ss).up f3.ss).up f4.ss
      have ff := ((f1.trans f2).trans f3).trans f4
      unfold fSl3 at h4
      split at h4
      · rename_i ds
        obtain ⟨p, xs, rfl, hp, hxs⟩ := dt_sl d4
        refine ⟨h4.1, p, xs, rfl, .inl (.inl (s4.gd.sh _ _ hp)), fun r hr => ?_⟩
        have nw := Nw.laid (o := .lst (pickA xs l u c)) s4.gd.sh hr
        have dp : DtA G.K S4 (pickA xs l u c) (pickA ds l u c) := by
          unfold pickA
          rw [hxs.len]
          exact dta_pick hxs _
        exact q _ _ W4 _ _ e4 (ff.trans nw.fw) (s4.new nw) (.lst upd_same (dp.up nw.ss)) h4.2
      · exact h4.elim⟩
end
end VL

end
section
set_option Elab.async false
set_option linter.all false
set_option maxRecDepth 100000
set_option maxHeartbeats 400000
set_option autoImplicit false
namespace VL
open PySem PySem.Spec PyProof.Rows L2
section
variable {l : List Sl} {n : Nat} {e : En} {X : XP} {A : EV}
def kPOD2 (i j : Nat) (A : EV) (ds : List PyData) (y : PyData) (e : En) : Prop := A.nx ((e.set i (.ow ds)).set j (.da y))
def kPOD1 (i j : Nat) (wb : WE) (A : EV) (X : XP) (ds : List PyData) (e : En) : Prop := wb e (kPOD2 i j A ds) X
def kPDO2 (i j : Nat) (A : EV) (x : PyData) (ds : List PyData) (e : En) : Prop := A.nx ((e.set i (.da x)).set j (.ow ds))
def kPDO1 (i j : Nat) (wl : WA) (A : EV) (X : XP) (x : PyData) (e : En) : Prop := wl e (kPDO2 i j A x) X
def kPOO2 (i j : Nat) (A : EV) (ds es : List PyData) (e : En) : Prop := A.nx ((e.set i (.ow ds)).set j (.ow es))
def kPOO1 (i j : Nat) (wl : WA) (A : EV) (X : XP) (ds : List PyData) (e : En) : Prop := wl e (kPOO2 i j A ds) X
def kSt4 (P : PE') (d : PyData) (lo hi st : Option Int) (e : En) : Prop := fSl3 d lo hi st (k2c P e)
def kSt3 (wt : WO) (P : PE') (X : XP) (d : PyData) (lo hi : Option Int) (e : En) : Prop := wt e (kSt4 P d lo hi) X
def kSt2 (wh wt : WO) (P : PE') (X : XP) (d : PyData) (lo : Option Int) (e : En) : Prop := wh e (kSt3 wt P X d lo) X
def kSt1 (wl wh wt : WO) (P : PE') (X : XP) (d : PyData) (e : En) : Prop := wl e (kSt2 wh wt P X d) X

theorem z_POD {i j : Nat} {wl : WA} {wb : WE} : wParOD i j wl wb A X ⟨l, n⟩ = wl ⟨l, n⟩ (kPOD1 i j wb A X) X := id rfl
theorem y_POD1 {i j : Nat} {wb : WE} {ds : List PyData} : kPOD1 i j wb A X ds e = wb e (kPOD2 i j A ds) X := id rfl
theorem y_POD2 {i j : Nat} {ds : List PyData} {y : PyData} : kPOD2 i j A ds y ⟨l, n⟩ = A.nx ⟨(l.set i (.ow ds)).set j (.da y), n⟩ := id rfl
theorem z_PDO {i j : Nat} {wl : WA} {wb : WE} : wParDO i j wb wl A X ⟨l, n⟩ = wb ⟨l, n⟩ (kPDO1 i j wl A X) X := id rfl
theorem y_PDO1 {i j : Nat} {wl : WA} {x : PyData} : kPDO1 i j wl A X x e = wl e (kPDO2 i j A x) X := id rfl
theorem y_PDO2 {i j : Nat} {ds : List PyData} {x : PyData} : kPDO2 i j A x ds ⟨l, n⟩ = A.nx ⟨(l.set i (.da x)).set j (.ow ds), n⟩ := id rfl
theorem z_POO {i j : Nat} {wl wk : WA} : wParOO i j wl wk A X ⟨l, n⟩ = wl ⟨l, n⟩ (kPOO1 i j wk A X) X := id rfl
theorem y_POO1 {i j : Nat} {wl : WA} {ds : List PyData} : kPOO1 i j wl A X ds e = wl e (kPOO2 i j A ds) X := id rfl
theorem y_POO2 {i j : Nat} {ds es : List PyData} : kPOO2 i j A ds es ⟨l, n⟩ = A.nx ⟨(l.set i (.ow ds)).set j (.ow es), n⟩ := id rfl
theorem z_Sl3 {P : PE'} {wa : WE} {wl wh wt : WO} : wSl3 wa wl wh wt ⟨l, n⟩ P X = wa ⟨l, n⟩ (kSt1 wl wh wt P X) X := id rfl
theorem y_St1 {P : PE'} {d : PyData} {wl wh wt : WO} : kSt1 wl wh wt P X d e = wl e (kSt2 wh wt P X d) X := id rfl
theorem y_St2 {P : PE'} {d : PyData} {lo : Option Int} {wh wt : WO} : kSt2 wh wt P X d lo e = wh e (kSt3 wt P X d lo) X := id rfl
theorem y_St3 {P : PE'} {d : PyData} {lo hi : Option Int} {wt : WO} : kSt3 wt P X d lo hi e = wt e (kSt4 P d lo hi) X := id rfl
theorem y_St4 {P : PE'} {ds : List PyData} {lo hi st : Option Int} : kSt4 P (.list ds) lo hi st e = (st ≠ some 0 ∧ P (.list (pickA ds lo hi st)) e) := id rfl
theorem q_nilG {ds : List PyData} {P : PyData → Prop} : fEq (.list ds) (.list []) P = P (.bool ds.isEmpty) := by
  cases ds with
  | nil => exact q_nil0
  | cons d ds => exact q_nil1
theorem flat_empty {p : PyData → Bool} : ∀ ds : List PyData, (ds.flatMap fun d => if p d then [] else [d]).isEmpty = ds.all p
  | [] => rfl
  | d :: ds => by
    rw [List.flatMap_cons, List.all_cons, ← flat_empty ds]
    cases h : p d <;> simp [h]
theorem f_Sum {ns : List Int} {P : PyData → Prop} (h : P (.int ns.sum)) : fSum [.list (ns.map .int)] P := ⟨ns, rfl, h⟩
theorem q_neI {i j : Int} {P : PyData → Prop} : fNe (.int i) (.int j) P = P (.bool (!decide (i = j))) := by
  show (_ ∧ _ ∧ _) = _
  rw [eqOk_int, eqOk_int, eqv_int]; simp
end
end VL

end
section
set_option Elab.async false
set_option linter.all false
set_option maxRecDepth 100000
set_option maxHeartbeats 0
set_option autoImplicit false
namespace LX
open PySem PySem.Spec PyProof.Rows L2 VL
def top (i : Nat) : Stmt := PySem.Challenge.pw_pictureheld_k49_whole_turns_of_told_rect.main.body.getD i (.Pass ⟨0, 0, 0, 0⟩)
abbrev R : PySem.W.OpenRow := PySem.W.OpenLaw.row PySem.Challenge.rw_pictureheld_k49_whole_turns_of_told_rect
abbrev s_is_integer : Stmt := top 7
def d_is_integer : He.DefD := ⟨("is_integer", none), "is_integer", "is_integer", defArgs s_is_integer, defBody s_is_integer, defScope s_is_integer, [], []⟩
abbrev s_is_number : Stmt := top 8
def d_is_number : He.DefD := ⟨("is_number", none), "is_number", "is_number", defArgs s_is_number, defBody s_is_number, defScope s_is_number, [], []⟩
abbrev s_is_grid_place : Stmt := top 13
def d_is_grid_place : He.DefD := ⟨("is_grid_place", none), "is_grid_place", "is_grid_place", defArgs s_is_grid_place, defBody s_is_grid_place, defScope s_is_grid_place, [], []⟩
abbrev s_is_path : Stmt := top 14
def d_is_path : He.DefD := ⟨("is_path", none), "is_path", "is_path", defArgs s_is_path, defBody s_is_path, defScope s_is_path, [], []⟩
abbrev s_edges_of : Stmt := top 15
def d_edges_of : He.DefD := ⟨("edges_of", none), "edges_of", "edges_of", defArgs s_edges_of, defBody s_edges_of, defScope s_edges_of, [], []⟩
abbrev s_beside : Stmt := top 16
def d_beside : He.DefD := ⟨("beside", none), "beside", "beside", defArgs s_beside, defBody s_beside, defScope s_beside, [], []⟩
abbrev s_middle_of : Stmt := top 17
def d_middle_of : He.DefD := ⟨("middle_of", none), "middle_of", "middle_of", defArgs s_middle_of, defBody s_middle_of, defScope s_middle_of, [], []⟩
abbrev s_turns_round : Stmt := top 18
def d_turns_round : He.DefD := ⟨("turns_round", none), "turns_round", "turns_round", defArgs s_turns_round, defBody s_turns_round, defScope s_turns_round, [], []⟩
abbrev s_check_cell : Stmt := top 19
def d_check_cell : He.DefD := ⟨("check_cell", none), "check_cell", "check_cell", defArgs s_check_cell, defBody s_check_cell, defScope s_check_cell, [], []⟩
abbrev s_check_path : Stmt := top 20
def d_check_path : He.DefD := ⟨("check_path", none), "check_path", "check_path", defArgs s_check_path, defBody s_check_path, defScope s_check_path, [], []⟩
abbrev s_turns : Stmt := top 21
def d_turns : He.DefD := ⟨("turns", none), "turns", "turns", defArgs s_turns, defBody s_turns, defScope s_turns, [], []⟩
abbrev s_area_of : Stmt := top 22
def d_area_of : He.DefD := ⟨("area_of", none), "area_of", "area_of", defArgs s_area_of, defBody s_area_of, defScope s_area_of, [], []⟩
abbrev s_area : Stmt := top 23
def d_area : He.DefD := ⟨("area", none), "area", "area", defArgs s_area, defBody s_area, defScope s_area, [], []⟩
abbrev s__law_cell : Stmt := top 25
def d__law_cell : He.DefD := ⟨("_law_cell", none), "_law_cell", "_law_cell", defArgs s__law_cell, defBody s__law_cell, defScope s__law_cell, [], []⟩
abbrev s__law_hash : Stmt := top 26
def d__law_hash : He.DefD := ⟨("_law_hash", none), "_law_hash", "_law_hash", defArgs s__law_hash, defBody s__law_hash, defScope s__law_hash, [], []⟩
abbrev s__law_generator : Stmt := top 27
def d__law_generator : He.DefD := ⟨("_law_generator", none), "_law_generator", "_law_generator", defArgs s__law_generator, defBody s__law_generator, defScope s__law_generator, [], []⟩
abbrev s__law_random : Stmt := top 28
def d__law_random : He.DefD := ⟨("_law_random", none), "_law_random", "_law_random", defArgs s__law_random, defBody s__law_random, defScope s__law_random, [], []⟩
abbrev s__law_between : Stmt := top 29
def d__law_between : He.DefD := ⟨("_law_between", none), "_law_between", "_law_between", defArgs s__law_between, defBody s__law_between, defScope s__law_between, [], []⟩
abbrev s__law_pick : Stmt := top 30
def d__law_pick : He.DefD := ⟨("_law_pick", none), "_law_pick", "_law_pick", defArgs s__law_pick, defBody s__law_pick, defScope s__law_pick, [], []⟩
abbrev s__law_exact : Stmt := top 31
def d__law_exact : He.DefD := ⟨("_law_exact", none), "_law_exact", "_law_exact", defArgs s__law_exact, defBody s__law_exact, defScope s__law_exact, [], []⟩
abbrev s__law_refused : Stmt := top 32
def d__law_refused : He.DefD := ⟨("_law_refused", none), "_law_refused", "_law_refused", defArgs s__law_refused, defBody s__law_refused, defScope s__law_refused, [], []⟩
abbrev s__law_kind : Stmt := top 33
def d__law_kind : He.DefD := ⟨("_law_kind", none), "_law_kind", "_law_kind", defArgs s__law_kind, defBody s__law_kind, defScope s__law_kind, [], []⟩
abbrev s__law_side_at : Stmt := top 34
def d__law_side_at : He.DefD := ⟨("_law_side_at", none), "_law_side_at", "_law_side_at", defArgs s__law_side_at, defBody s__law_side_at, defScope s__law_side_at, [], []⟩
abbrev s__law_rectangles : Stmt := top 35
def d__law_rectangles : He.DefD := ⟨("_law_rectangles", none), "_law_rectangles", "_law_rectangles", defArgs s__law_rectangles, defBody s__law_rectangles, defScope s__law_rectangles, [], []⟩
abbrev s__law_round : Stmt := top 36
def d__law_round : He.DefD := ⟨("_law_round", none), "_law_round", "_law_round", defArgs s__law_round, defBody s__law_round, defScope s__law_round, [], []⟩
abbrev s__law_path : Stmt := top 37
def d__law_path : He.DefD := ⟨("_law_path", none), "_law_path", "_law_path", defArgs s__law_path, defBody s__law_path, defScope s__law_path, [], []⟩
abbrev s__law_due : Stmt := top 38
def d__law_due : He.DefD := ⟨("_law_due", none), "_law_due", "_law_due", defArgs s__law_due, defBody s__law_due, defScope s__law_due, [], []⟩
abbrev s__law_parted_right : Stmt := top 39
def d__law_parted_right : He.DefD := ⟨("_law_parted_right", none), "_law_parted_right", "_law_parted_right", defArgs s__law_parted_right, defBody s__law_parted_right, defScope s__law_parted_right, [], []⟩
abbrev s__law_right : Stmt := top 40
def d__law_right : He.DefD := ⟨("_law_right", none), "_law_right", "_law_right", defArgs s__law_right, defBody s__law_right, defScope s__law_right, [], []⟩
abbrev s__law_refused_right : Stmt := top 41
def d__law_refused_right : He.DefD := ⟨("_law_refused_right", none), "_law_refused_right", "_law_refused_right", defArgs s__law_refused_right, defBody s__law_refused_right, defScope s__law_refused_right, [], []⟩
abbrev s_law : Stmt := top 42
def d_law : He.DefD := ⟨("law", none), "law", "law", defArgs s_law, defBody s_law, defScope s_law, [], []⟩
def fn : List He.DefD := [d_is_integer, d_is_number, d_is_grid_place, d_is_path, d_edges_of, d_beside, d_middle_of, d_turns_round, d_check_cell, d_check_path, d_turns, d_area_of, d_area, d__law_cell, d__law_hash, d__law_generator, d__law_random, d__law_between, d__law_pick, d__law_exact, d__law_refused, d__law_kind, d__law_side_at, d__law_rectangles, d__law_round, d__law_path, d__law_due, d__law_parted_right, d__law_right, d__law_refused_right, d_law]
def fa : List He.Fa := [.glo "is_integer", .glo "is_number", .glo "is_grid_place", .glo "is_path", .glo "edges_of", .glo "beside", .glo "middle_of", .glo "turns_round", .glo "check_cell", .glo "check_path", .glo "turns", .glo "area_of", .glo "area", .glo "_law_cell", .glo "_law_hash", .glo "_law_generator", .glo "_law_random", .glo "_law_between", .glo "_law_pick", .glo "_law_exact", .glo "_law_refused", .glo "_law_kind", .glo "_law_side_at", .glo "_law_rectangles", .glo "_law_round", .glo "_law_path", .glo "_law_due", .glo "_law_parted_right", .glo "_law_right", .glo "_law_refused_right", .glo "law", .free "abs", .free "all", .free "bool", .free "enumerate", .free "int", .free "isinstance", .free "len", .free "list", .free "max", .free "range", .free "repr", .free "sorted", .free "str", .free "sum", .free "tuple", .int "LOWEST" (-2147483648), .int "HIGHEST" 2147483647, .int "CELL" 16, .int "HALF" 8, .int "MOST_PLACES" 64, .glo "InvalidNumber", .glo "InvalidRow", .glo "PictureError", .exm "InvalidNumber" "PictureError" true, .exm "InvalidRow" "PictureError" true]
def exs (K : PySem.W.Frag) : List Bool := [VX.errB K "/claim/cut.py" "InvalidNumber",
  VX.errB K "/claim/cut.py" "InvalidRow",
  decide (PySem.W.kitOne K (.ref (He.ga K "InvalidNumber")) (.ref (He.ga K "InvalidNumber")) = some true),
  decide (PySem.W.kitOne K (.ref (He.ga K "InvalidNumber")) (.ref (He.ga K "InvalidRow")) = some false),
  decide (PySem.W.kitOne K (.ref (He.ga K "InvalidRow")) (.ref (He.ga K "InvalidNumber")) = some false),
  decide (PySem.W.kitOne K (.ref (He.ga K "InvalidRow")) (.ref (He.ga K "InvalidRow")) = some true),
  decide (He.ga K "InvalidRow" ≠ He.ga K "InvalidNumber"),
  smB K]
def ex (K : PySem.W.Frag) : Bool := (exs K).all id
def tf : List He.Defn := [("_law_refused_right", none)]
abbrev hk : PySem.W.Hook := VX.hookY 6 fa fn tf ex
def ob (s : PySem.W.SharedT) : He.AlX := VX.obsY 6 fa fn tf ex (HandSHeadRun.getT s)
theorem ob_eq (s : PySem.W.SharedT) : ob s = hk.obs s.abs := VX.obsY_eq (HandSHeadRun.getT_eq s)
def names : List PySem.Str := (["PictureError", "InvalidNumber", "InvalidRow", "LOWEST", "HIGHEST", "is_integer", "is_number", "CELL", "HALF", "MOST_PLACES", "is_grid_place", "is_path", "edges_of", "beside", "middle_of", "turns_round", "check_cell", "check_path", "turns", "area_of", "area", "_law_cell", "_law_hash", "_law_generator", "_law_random", "_law_between", "_law_pick", "_law_exact", "_law_refused", "_law_kind"] : List PySem.Str) ++ (["_law_side_at", "_law_rectangles", "_law_round", "_law_path", "_law_due", "_law_parted_right", "_law_right", "_law_refused_right"] : List PySem.Str)
theorem run (w : World) : HandSHeadRun.RunEq R (PySem.W.view R.prog [42]) hk ob 12000 names w := by
  intro os
  kernel_rfl
end LX

end
section
namespace LX
open PySem PySem.Spec PyProof.Rows L2 VL
def gx (K : PySem.W.Frag) : Gx := ⟨K, [((He.cT K ("_law_refused_right", none)).2, "_law_refused_right" ++ ".<locals>." ++ "<lambda>")]⟩
structure Fax (P : Program) (w : World) (K : PySem.W.Frag) (mg : Str → Option Value) (base : Heap) : Prop where
  d_is_integer : FunD K "is_integer" "is_integer" (defArgs s_is_integer) (defBody s_is_integer) (defScope s_is_integer) [] [] (He.ga K "is_integer") (fdOf K "is_integer")
  g_is_integer : mg "is_integer" = some (.ref (He.ga K "is_integer"))
  d_is_number : FunD K "is_number" "is_number" (defArgs s_is_number) (defBody s_is_number) (defScope s_is_number) [] [] (He.ga K "is_number") (fdOf K "is_number")
  g_is_number : mg "is_number" = some (.ref (He.ga K "is_number"))
  d_is_grid_place : FunD K "is_grid_place" "is_grid_place" (defArgs s_is_grid_place) (defBody s_is_grid_place) (defScope s_is_grid_place) [] [] (He.ga K "is_grid_place") (fdOf K "is_grid_place")
  g_is_grid_place : mg "is_grid_place" = some (.ref (He.ga K "is_grid_place"))
  d_is_path : FunD K "is_path" "is_path" (defArgs s_is_path) (defBody s_is_path) (defScope s_is_path) [] [] (He.ga K "is_path") (fdOf K "is_path")
  g_is_path : mg "is_path" = some (.ref (He.ga K "is_path"))
  d_edges_of : FunD K "edges_of" "edges_of" (defArgs s_edges_of) (defBody s_edges_of) (defScope s_edges_of) [] [] (He.ga K "edges_of") (fdOf K "edges_of")
  g_edges_of : mg "edges_of" = some (.ref (He.ga K "edges_of"))
  d_beside : FunD K "beside" "beside" (defArgs s_beside) (defBody s_beside) (defScope s_beside) [] [] (He.ga K "beside") (fdOf K "beside")
  g_beside : mg "beside" = some (.ref (He.ga K "beside"))
  d_middle_of : FunD K "middle_of" "middle_of" (defArgs s_middle_of) (defBody s_middle_of) (defScope s_middle_of) [] [] (He.ga K "middle_of") (fdOf K "middle_of")
  g_middle_of : mg "middle_of" = some (.ref (He.ga K "middle_of"))
  d_turns_round : FunD K "turns_round" "turns_round" (defArgs s_turns_round) (defBody s_turns_round) (defScope s_turns_round) [] [] (He.ga K "turns_round") (fdOf K "turns_round")
  g_turns_round : mg "turns_round" = some (.ref (He.ga K "turns_round"))
  d_check_cell : FunD K "check_cell" "check_cell" (defArgs s_check_cell) (defBody s_check_cell) (defScope s_check_cell) [] [] (He.ga K "check_cell") (fdOf K "check_cell")
  g_check_cell : mg "check_cell" = some (.ref (He.ga K "check_cell"))
  d_check_path : FunD K "check_path" "check_path" (defArgs s_check_path) (defBody s_check_path) (defScope s_check_path) [] [] (He.ga K "check_path") (fdOf K "check_path")
  g_check_path : mg "check_path" = some (.ref (He.ga K "check_path"))
  d_turns : FunD K "turns" "turns" (defArgs s_turns) (defBody s_turns) (defScope s_turns) [] [] (He.ga K "turns") (fdOf K "turns")
  g_turns : mg "turns" = some (.ref (He.ga K "turns"))
  d_area_of : FunD K "area_of" "area_of" (defArgs s_area_of) (defBody s_area_of) (defScope s_area_of) [] [] (He.ga K "area_of") (fdOf K "area_of")
  g_area_of : mg "area_of" = some (.ref (He.ga K "area_of"))
  d_area : FunD K "area" "area" (defArgs s_area) (defBody s_area) (defScope s_area) [] [] (He.ga K "area") (fdOf K "area")
  g_area : mg "area" = some (.ref (He.ga K "area"))
  d__law_cell : FunD K "_law_cell" "_law_cell" (defArgs s__law_cell) (defBody s__law_cell) (defScope s__law_cell) [] [] (He.ga K "_law_cell") (fdOf K "_law_cell")
  g__law_cell : mg "_law_cell" = some (.ref (He.ga K "_law_cell"))
  d__law_hash : FunD K "_law_hash" "_law_hash" (defArgs s__law_hash) (defBody s__law_hash) (defScope s__law_hash) [] [] (He.ga K "_law_hash") (fdOf K "_law_hash")
  g__law_hash : mg "_law_hash" = some (.ref (He.ga K "_law_hash"))
  d__law_generator : FunD K "_law_generator" "_law_generator" (defArgs s__law_generator) (defBody s__law_generator) (defScope s__law_generator) [] [] (He.ga K "_law_generator") (fdOf K "_law_generator")
  g__law_generator : mg "_law_generator" = some (.ref (He.ga K "_law_generator"))
  d__law_random : FunD K "_law_random" "_law_random" (defArgs s__law_random) (defBody s__law_random) (defScope s__law_random) [] [] (He.ga K "_law_random") (fdOf K "_law_random")
  g__law_random : mg "_law_random" = some (.ref (He.ga K "_law_random"))
  d__law_between : FunD K "_law_between" "_law_between" (defArgs s__law_between) (defBody s__law_between) (defScope s__law_between) [] [] (He.ga K "_law_between") (fdOf K "_law_between")
  g__law_between : mg "_law_between" = some (.ref (He.ga K "_law_between"))
  d__law_pick : FunD K "_law_pick" "_law_pick" (defArgs s__law_pick) (defBody s__law_pick) (defScope s__law_pick) [] [] (He.ga K "_law_pick") (fdOf K "_law_pick")
  g__law_pick : mg "_law_pick" = some (.ref (He.ga K "_law_pick"))
  d__law_exact : FunD K "_law_exact" "_law_exact" (defArgs s__law_exact) (defBody s__law_exact) (defScope s__law_exact) [] [] (He.ga K "_law_exact") (fdOf K "_law_exact")
  g__law_exact : mg "_law_exact" = some (.ref (He.ga K "_law_exact"))
  d__law_refused : FunD K "_law_refused" "_law_refused" (defArgs s__law_refused) (defBody s__law_refused) (defScope s__law_refused) [] [] (He.ga K "_law_refused") (fdOf K "_law_refused")
  g__law_refused : mg "_law_refused" = some (.ref (He.ga K "_law_refused"))
  d__law_kind : FunD K "_law_kind" "_law_kind" (defArgs s__law_kind) (defBody s__law_kind) (defScope s__law_kind) [] [] (He.ga K "_law_kind") (fdOf K "_law_kind")
  g__law_kind : mg "_law_kind" = some (.ref (He.ga K "_law_kind"))
  d__law_side_at : FunD K "_law_side_at" "_law_side_at" (defArgs s__law_side_at) (defBody s__law_side_at) (defScope s__law_side_at) [] [] (He.ga K "_law_side_at") (fdOf K "_law_side_at")
  g__law_side_at : mg "_law_side_at" = some (.ref (He.ga K "_law_side_at"))
  d__law_rectangles : FunD K "_law_rectangles" "_law_rectangles" (defArgs s__law_rectangles) (defBody s__law_rectangles) (defScope s__law_rectangles) [] [] (He.ga K "_law_rectangles") (fdOf K "_law_rectangles")
  g__law_rectangles : mg "_law_rectangles" = some (.ref (He.ga K "_law_rectangles"))
  d__law_round : FunD K "_law_round" "_law_round" (defArgs s__law_round) (defBody s__law_round) (defScope s__law_round) [] [] (He.ga K "_law_round") (fdOf K "_law_round")
  g__law_round : mg "_law_round" = some (.ref (He.ga K "_law_round"))
  d__law_path : FunD K "_law_path" "_law_path" (defArgs s__law_path) (defBody s__law_path) (defScope s__law_path) [] [] (He.ga K "_law_path") (fdOf K "_law_path")
  g__law_path : mg "_law_path" = some (.ref (He.ga K "_law_path"))
  d__law_due : FunD K "_law_due" "_law_due" (defArgs s__law_due) (defBody s__law_due) (defScope s__law_due) [] [] (He.ga K "_law_due") (fdOf K "_law_due")
  g__law_due : mg "_law_due" = some (.ref (He.ga K "_law_due"))
  d__law_parted_right : FunD K "_law_parted_right" "_law_parted_right" (defArgs s__law_parted_right) (defBody s__law_parted_right) (defScope s__law_parted_right) [] [] (He.ga K "_law_parted_right") (fdOf K "_law_parted_right")
  g__law_parted_right : mg "_law_parted_right" = some (.ref (He.ga K "_law_parted_right"))
  d__law_right : FunD K "_law_right" "_law_right" (defArgs s__law_right) (defBody s__law_right) (defScope s__law_right) [] [] (He.ga K "_law_right") (fdOf K "_law_right")
  g__law_right : mg "_law_right" = some (.ref (He.ga K "_law_right"))
  d__law_refused_right : FunD K "_law_refused_right" "_law_refused_right" (defArgs s__law_refused_right) (defBody s__law_refused_right) (defScope s__law_refused_right) [] [] (He.ga K "_law_refused_right") (fdOf K "_law_refused_right")
  g__law_refused_right : mg "_law_refused_right" = some (.ref (He.ga K "_law_refused_right"))
  d_law : FunD K "law" "law" (defArgs s_law) (defBody s_law) (defScope s_law) [] [] (He.ga K "law") (fdOf K "law")
  g_law : mg "law" = some (.ref (He.ga K "law"))
  n_abs : mg "abs" = none
  n_all : mg "all" = none
  n_bool : mg "bool" = none
  n_enumerate : mg "enumerate" = none
  n_int : mg "int" = none
  n_isinstance : mg "isinstance" = none
  n_len : mg "len" = none
  n_list : mg "list" = none
  n_max : mg "max" = none
  n_range : mg "range" = none
  n_repr : mg "repr" = none
  n_sorted : mg "sorted" = none
  n_str : mg "str" = none
  n_sum : mg "sum" = none
  n_tuple : mg "tuple" = none
  c_LOWEST : ∃ t, mg "LOWEST" = some (.int (-2147483648) t)
  c_HIGHEST : ∃ t, mg "HIGHEST" = some (.int 2147483647 t)
  c_CELL : ∃ t, mg "CELL" = some (.int 16 t)
  c_HALF : ∃ t, mg "HALF" = some (.int 8 t)
  c_MOST_PLACES : ∃ t, mg "MOST_PLACES" = some (.int 64 t)
  g_InvalidNumber : mg "InvalidNumber" = some (.ref (He.ga K "InvalidNumber"))
  g_InvalidRow : mg "InvalidRow" = some (.ref (He.ga K "InvalidRow"))
  g_PictureError : mg "PictureError" = some (.ref (He.ga K "PictureError"))
  e_InvalidNumber : VX.ErrTxt P K (He.ga K "InvalidNumber") (He.ma K (He.ga K "InvalidNumber") "__init__") ∧ ExcC K (He.ga K "InvalidNumber") ∧ ErC K (He.ga K "InvalidNumber")
  e_InvalidRow : VX.ErrTxt P K (He.ga K "InvalidRow") (He.ma K (He.ga K "InvalidRow") "__init__") ∧ ExcC K (He.ga K "InvalidRow") ∧ ErC K (He.ga K "InvalidRow")
  x_InvalidNumber_PictureError : PySem.W.exmOne K (.ref (He.ga K "InvalidNumber")) (.ref (He.ga K "PictureError")) = some true
  x_InvalidRow_PictureError : PySem.W.exmOne K (.ref (He.ga K "InvalidRow")) (.ref (He.ga K "PictureError")) = some true
  k_InvalidNumber_InvalidNumber : PySem.W.kitOne K (.ref (He.ga K "InvalidNumber")) (.ref (He.ga K "InvalidNumber")) = some true
  k_InvalidNumber_InvalidRow : PySem.W.kitOne K (.ref (He.ga K "InvalidNumber")) (.ref (He.ga K "InvalidRow")) = some false
  k_InvalidRow_InvalidNumber : PySem.W.kitOne K (.ref (He.ga K "InvalidRow")) (.ref (He.ga K "InvalidNumber")) = some false
  k_InvalidRow_InvalidRow : PySem.W.kitOne K (.ref (He.ga K "InvalidRow")) (.ref (He.ga K "InvalidRow")) = some true
  ne_InvalidRow_InvalidNumber : He.ga K "InvalidRow" ≠ He.ga K "InvalidNumber"
  sm : SmK K
  tb__law_refused_right : LamX.TabB base mg (He.cT K ("_law_refused_right", none)).1 (He.cT K ("_law_refused_right", none)).2
/-- the errors are unlike -/
def nes (K : PySem.W.Frag) : Prop := He.ga K "InvalidRow" ≠ He.ga K "InvalidNumber" ∧ True
/-- the errors of the text -/
def okC (K : PySem.W.Frag) (C : Addr) : Prop := C = He.ga K "InvalidNumber" ∨ C = He.ga K "InvalidRow"
def kit_InvalidNumber (K : PySem.W.Frag) (C : Addr) : Option Bool := if C = He.ga K "InvalidNumber" then some true else if C = He.ga K "InvalidRow" then some false else none
def kit_InvalidRow (K : PySem.W.Frag) (C : Addr) : Option Bool := if C = He.ga K "InvalidNumber" then some false else if C = He.ga K "InvalidRow" then some true else none
section
variable {P : Program} {w : World} {K : PySem.W.Frag} {mg : Str → Option Value} {base : Heap}
theorem okE (Z : Fax P w K mg base) : ∀ C, okC K C → ErC K C := fun C h => by
  unfold okC at h
  rcases h with rfl | rfl
  · exact Z.e_InvalidNumber.2.2
  · exact Z.e_InvalidRow.2.2
theorem okX (Z : Fax P w K mg base) : ∀ C, okC K C → PySem.W.exmOne K (.ref C) (.ref (He.ga K "PictureError")) = some true := fun C h => by
  unfold okC at h
  rcases h with rfl | rfl
  · exact Z.x_InvalidNumber_PictureError
  · exact Z.x_InvalidRow_PictureError
theorem uniq__law_refused_right (Z : Fax P w K mg base) : ∀ p ∈ (gx K).T, p.1 = (He.cT K ("_law_refused_right", none)).2 → p.2 = "_law_refused_right" ++ ".<locals>." ++ "<lambda>" := fun p hp e => by
  have hp' : p ∈ ([((He.cT K ("_law_refused_right", none)).2, "_law_refused_right" ++ ".<locals>." ++ "<lambda>")] : List (Addr × Str)) := hp
  simp only [List.mem_cons, List.not_mem_nil, or_false] at hp'
  rcases hp' with rfl
  · rfl
theorem kitE_InvalidNumber (Z : Fax P w K mg base) : ∀ C b, kit_InvalidNumber K C = some b → ExcC K C ∧ PySem.W.kitOne K (.ref C) (.ref (He.ga K "InvalidNumber")) = some b := fun C b h => by
  unfold kit_InvalidNumber at h
  split at h
  · rename_i e; subst e; cases h; exact ⟨Z.e_InvalidNumber.2.1, Z.k_InvalidNumber_InvalidNumber⟩
  split at h
  · rename_i e; subst e; cases h; exact ⟨Z.e_InvalidRow.2.1, Z.k_InvalidRow_InvalidNumber⟩
  cases h
theorem kitE_InvalidRow (Z : Fax P w K mg base) : ∀ C b, kit_InvalidRow K C = some b → ExcC K C ∧ PySem.W.kitOne K (.ref C) (.ref (He.ga K "InvalidRow")) = some b := fun C b h => by
  unfold kit_InvalidRow at h
  split at h
  · rename_i e; subst e; cases h; exact ⟨Z.e_InvalidNumber.2.1, Z.k_InvalidNumber_InvalidRow⟩
  split at h
  · rename_i e; subst e; cases h; exact ⟨Z.e_InvalidRow.2.1, Z.k_InvalidRow_InvalidRow⟩
  cases h
end
end LX

end
section
set_option maxHeartbeats 400000
set_option autoImplicit false
set_option Elab.async false
set_option linter.all false
set_option maxRecDepth 100000
namespace LX
open PySem PySem.Spec PyProof.Rows L2 VL
local macro_rules | `(tactic| walk_at "V") => `(tactic| simp only [y_hold, y_2c, y_2b, y_2a, y_1, y_B, y_Not, y_And1, y_And0, y_Or1, y_Or0, y_AndV1, y_AndV0, y_OrV1, y_OrV0, y_NotV, y_IfE1, y_IfE0, y_Ch31, y_Ch30, y_If1, y_If0, y_Ch2, y_Ch1, y_Cons2, y_Cons, y_Tup, y_Lst, y_CB, y_Sl3, y_Sl2, y_Sl1, y_Part, y_xD, y_D, y_r2, y_r1, y_c2, y_c1, y_cl, y_Cs, y_Rf2, y_Rf1, y_SAn, y_SAr, y_SAb, y_SAc, y_Asg, y_Ret, y_Drop, y_For, y_SqL, y_SqT, y_Rng1, y_Rng2, y_Rng3, y_Enum, y_Zip, y_Par, y_SetX, y_RetX, y_SetOw, y_Aug2, y_Aug, y_Raise, y_ErIs, y_Lc, y_wipe, y_set, y_G, y_outN, y_outD, y_outG, y_LcT1, y_LcT0, y_LcE, y_LcG, y_LpAn, y_LpAr, y_LpAb, y_LpAc, y_Lp, z_C, z_2, z_1, z_Isi, z_B, z_Not, z_And, z_Or, z_AndV, z_OrV, z_NotV, z_IfE, z_Chain, z_Nil, z_Cons, z_Tup, z_Lst, z_CB, z_Sl, z_No, z_Part, z_xD, z_xOp, z_D, z_rNil, z_rCons, z_Call, z_Ref, z_Seq, z_Next, z_Brk, z_Cont, z_Ret, z_RetN, z_Drop, z_If, z_Asg, z_gN, z_gNone, z_gMore, z_gT, z_gTl, z_For, z_SeqI, z_Rng1, z_Rng2, z_Rng3, z_Enum, z_Zip, z_Par, z_SetX, z_RetX, z_SetOw, z_Raise, z_Yes, z_Lc, z_N0, z_N1, z_N2, z_N3, z_N4, z_N5, z_N6, z_N7, z_N8, z_N9, z_N10, z_N11, z_N12, z_N13, z_N14, z_N15, z_N16, z_N17, z_N18, z_N19, z_N20, z_N21, z_N22, z_N23, z_N24, z_N25, z_No0, z_No1, z_No2, z_No3, z_No4, z_No5, z_No6, z_No7, z_No8, z_No9, z_No10, z_No11, z_No12, z_No13, z_No14, z_No15, z_No16, z_No17, z_No18, z_No19, z_No20, z_No21, z_No22, z_No23, z_No24, z_No25, z_xNd0, z_xNd1, z_xNd2, z_xNd3, z_xNd4, z_xNd5, z_xNd6, z_xNd7, z_xNd8, z_xNd9, z_xNd10, z_xNd11, z_xNd12, z_xNd13, z_xNd14, z_xNd15, z_xNd16, z_xNd17, z_xNd18, z_xNd19, z_xNd20, z_xNd21, z_xNd22, z_xNd23, z_xNd24, z_xNd25, z_xNo0, z_xNo1, z_xNo2, z_xNo3, z_xNo4, z_xNo5, z_xNo6, z_xNo7, z_xNo8, z_xNo9, z_xNo10, z_xNo11, z_xNo12, z_xNo13, z_xNo14, z_xNo15, z_xNo16, z_xNo17, z_xNo18, z_xNo19, z_xNo20, z_xNo21, z_xNo22, z_xNo23, z_xNo24, z_xNo25, z_xNg0, z_xNg1, z_xNg2, z_xNg3, z_xNg4, z_xNg5, z_xNg6, z_xNg7, z_xNg8, z_xNg9, z_xNg10, z_xNg11, z_xNg12, z_xNg13, z_xNg14, z_xNg15, z_xNg16, z_xNg17, z_xNg18, z_xNg19, z_xNg20, z_xNg21, z_xNg22, z_xNg23, z_xNg24, z_xNg25, z_xNe0, z_xNe1, z_xNe2, z_xNe3, z_xNs0, z_xNs1, z_AppP0, z_AppP1, z_AppP2, z_AppP3, z_AppP4, z_AppP5, z_AppP6, z_AppP7, z_AppP8, z_AppP9, z_AppP10, z_AppP11, z_AppP12, z_AppP13, z_AppP14, z_AppP15, z_AppP16, z_AppP17, z_AppP18, z_AppP19, z_AppP20, z_AppP21, z_AppP22, z_AppP23, z_AppP24, z_AppP25, y_App0, y_App1, y_App2, y_App3, y_App4, y_App5, y_App6, y_App7, y_App8, y_App9, y_App10, y_App11, y_App12, y_App13, y_App14, y_App15, y_App16, y_App17, y_App18, y_App19, y_App20, y_App21, y_App22, y_App23, y_App24, y_App25, z_Aug0, z_Aug1, z_Aug2, z_Aug3, z_Aug4, z_Aug5, z_Aug6, z_Aug7, z_Aug8, z_Aug9, z_Aug10, z_Aug11, z_Aug12, z_Aug13, z_Aug14, z_Aug15, z_Aug16, z_Aug17, z_Aug18, z_Aug19, z_Aug20, z_Aug21, z_Aug22, z_Aug23, z_Aug24, z_Aug25, z_ErIs0, z_ErIs1, z_ErIs2, z_ErIs3, z_ErIs4, z_ErVal0, z_ErVal1, z_ErVal2, z_ErVal3, z_ErVal4, z_ErNN0, z_ErNN1, z_ErNN2, z_ErNN3, z_ErNN4, z_OwLen0, z_OwLen1, z_OwLen2, z_OwLen3, z_OwLen4, z_OwLen5, z_OwLen6, z_OwLen7, z_OwLen8, z_OwLen9, z_OwLen10, z_OwLen11, z_OwLen12, z_OwLen13, z_OwLen14, z_OwLen15, z_OwLen16, z_OwLen17, z_OwLen18, z_OwLen19, z_OwLen20, z_OwLen21, z_OwLen22, z_OwLen23, z_OwLen24, z_OwLen25, z_OwIx0, z_OwIx1, z_OwIx2, z_OwIx3, z_OwIx4, z_OwIx5, z_OwIx6, z_OwIx7, z_OwIx8, z_OwIx9, z_OwIx10, z_OwIx11, z_OwIx12, z_OwIx13, z_OwIx14, z_OwIx15, z_OwIx16, z_OwIx17, z_OwIx18, z_OwIx19, z_OwIx20, z_OwIx21, z_OwIx22, z_OwIx23, z_OwIx24, z_OwIx25, z_OwCmp0, z_OwCmp1, z_OwCmp2, z_OwCmp3, z_OwCmp4, z_OwCmp5, z_OwCmp6, z_OwCmp7, z_OwCmp8, z_OwCmp9, z_OwCmp10, z_OwCmp11, z_OwCmp12, z_OwCmp13, z_OwCmp14, z_OwCmp15, z_OwCmp16, z_OwCmp17, z_OwCmp18, z_OwCmp19, z_OwCmp20, z_OwCmp21, z_OwCmp22, z_OwCmp23, z_OwCmp24, z_OwCmp25, z_CallL0, z_CallL1, z_CallL2, z_CallL3, z_CallL4, z_CallL5, z_CallL6, z_CallL7, z_CallL8, z_CallL9, z_CallL10, z_CallL11, z_CallL12, z_CallL13, z_CallL14, z_CallL15, z_CallL16, z_CallL17, z_CallL18, z_CallL19, z_CallL20, z_CallL21, z_CallL22, z_CallL23, z_CallL24, z_CallL25, x_l0, x_t0, x_l1, x_t1, x_l2, x_t2, x_l3, x_t3, x_l4, x_t4, x_l5, x_t5, x_l6, x_t6, x_l7, x_t7, x_l8, x_t8, x_l9, x_t9, x_l10, x_t10, x_l11, x_t11, x_l12, x_t12, x_l13, x_t13, x_l14, x_t14, x_l15, x_t15, t_int_none, t_int_bool, t_int_int, t_int_str, t_int_list, t_int_tuple, t_int_dict, t_bool_none, t_bool_bool, t_bool_int, t_bool_str, t_bool_list, t_bool_tuple, t_bool_dict, t_str_none, t_str_bool, t_str_int, t_str_str, t_str_list, t_str_tuple, t_str_dict, t_list_none, t_list_bool, t_list_int, t_list_str, t_list_list, t_list_tuple, t_list_dict, t_tuple_none, t_tuple_bool, t_tuple_int, t_tuple_str, t_tuple_list, t_tuple_tuple, t_tuple_dict, f_I, f_I0, f_IB, f_Isi, f_Isi2, f_Inti, f_Intb, f_LenL, f_LenT, f_LenS, f_AddI, f_AddL, f_AddT, f_AddS, f_MulI, f_MulL, f_SlL, f_SlT, f_ToLl, f_ToLt, f_ToTl, f_ToTt, f_Neg, f_Abs, f_Bits, f_IsN, f_NotN, f_IsB, f_Repr, f_Max2, f_Min2, f_Rev, q_int, q_bool, q_str, q_nil0, q_nil1, isNone, Ar.sl, Sl.noOw, List.map_cons, List.map_nil, List.cons_append, List.nil_append, List.append_nil, List.length_cons, List.length_nil, List.foldr_cons, List.foldr_nil, List.replicate, List.set_cons_zero, List.set_cons_succ, Nat.reduceAdd, Nat.reduceSub, decide_true, decide_false, decide_not, Bool.not_true, Bool.not_false, Bool.false_eq_true, Option.some.injEq, exists_eq_left', exists_eq_left, true_and, and_true, entry, z_POD, y_POD1, y_POD2, z_PDO, y_PDO1, y_PDO2, z_POO, y_POO1, y_POO2, z_Sl3, y_St1, y_St2, y_St3, y_St4, q_nilG, q_neI])
section
variable {P : Program} {w : World} {K : PySem.W.Frag} {mg : Str → Option Value} {base : Heap}
abbrev N_is_integer : List Str := ["value"]
abbrev ps_is_integer : List Str := ["value"]
theorem nd_is_integer : N_is_integer.Nodup := by decide +kernel
theorem sc_is_integer : FnScope N_is_integer ps_is_integer (defScope s_is_integer) := ⟨rfl, rfl, rfl, nd_is_integer, rfl, by decide +kernel, by decide +kernel⟩
theorem bi_is_integer (Z : Fax P w K mg base) : Binds K (fdOf K "is_integer") ps_is_integer [] := Z.d_is_integer.bindsN fun _ _ _ _ _ _ us hl => match us, hl with | [_], _ => rfl
theorem bn_is_integer (Z : Fax P w K mg base) : Bnd K (fdOf K "is_integer") ps_is_integer 1 [] (fun us _ => us) (fun vs _ => vs) (fun as _ => as) := bnd_all (bi_is_integer Z)
--MARK is_integer
abbrev w_is_integer (K : PySem.W.Frag) : WS := (wRet (wAndV (wIsi "int" (wN 0)) (wNotV (wIsi "bool" (wN 0)))))
def c_is_integer (K : PySem.W.Frag) : Ct := fun as n P _ => ∃ d, as = [.da d] ∧ P (.da (.bool (isI d))) n
theorem l_is_integer (K : PySem.W.Frag) : ∀ as n P X, c_is_integer K as n P X → as.length = ps_is_integer.length → w_is_integer K (outA P) X (entry N_is_integer as n) := by
  rintro as n P X ⟨d, rfl, h⟩ -
  simp only [wC, wN, w2, w1, fI, fI0, fIB, wSeq, wNext, wRet, wRetN, wDrop, wIf, wAsg, gN, gT, gMore, gNone, wB, wNot, wAnd, wOr, wAndV, wOrV, wNotV, wIfE, wChain, wNil, wCons, wTup, wLst, wCB, wD, xD, xN, xOp, rNil, rCons, wCall, wSeqI, wRng1, wFor, wSqLen, wSqIx, wSqSl, wNo, wPart, wGeIx, wGeSet', wSetX, wRetGe, wRetX, wPar, wErNN, wErIs, wErVal, wRaise, wRef, wYes, wIsi, fIsi, fIsi2, fInt, fLen, fSum, fAll, fMax, fMin, fIx, fAdd, fMul, fBits, fEq, fNe, fIsN, fIsB, fNotN, fRepr, En.set, En.wipe, Ar.sl, entry, outA, List.map_cons, List.map_nil, List.cons_append, List.nil_append, List.append_nil, List.length_cons, List.length_nil, List.replicate, List.getElem?_cons_zero, List.getElem?_cons_succ, List.set_cons_zero, List.set_cons_succ, Nat.reduceAdd, Nat.reduceSub]
  cases d <;> simp_all [isI]

theorem V_is_integer (Z : Fax P w K mg base) {cdv : Value} {A : Around} {out : List Env} {s : Shared} {H : Hp} {E : XK} (hcv : CodeOf K (He.ga K "is_integer") "is_integer" cdv) (hr : Room 0 (A.deeper (envOfC "is_integer" (defScope s_is_integer) s.heap.objs.size (He.ga K "is_integer") cdv))) (hg : (A.deeper (envOfC "is_integer" (defScope s_is_integer) s.heap.objs.size (He.ga K "is_integer") cdv)).guards = some []) :
    ∃ ts, VSs (gx K) (cxOf (L2.CX P w) P w K mg base N_is_integer "is_integer" (defScope s_is_integer) (He.ga K "is_integer") cdv A out s H E) E (defBody s_is_integer) ts (w_is_integer K) := by
  have tk : Takes (cxOf (L2.CX P w) P w K mg base N_is_integer "is_integer" (defScope s_is_integer) (He.ga K "is_integer") cdv A out s H E) (fun c d _ H => E c d H) := takes_of rfl rfl rfl rfl
  exact ⟨_,
  (vss_one (vs_ret (ve_and (ve_isi (ve_n 0) Z.n_isinstance Z.n_int) (ve_one (ve_not (ve_isi (ve_n 0) Z.n_isinstance Z.n_bool))))))⟩
theorem ok_is_integer (Z : Fax P w K mg base) : FnG P w K mg base 1 (He.ga K "is_integer") (fdOf K "is_integer") ps_is_integer (spV (gx K) (c_is_integer K) 1) :=
  fn_V Z.d_is_integer sc_is_integer (by decide) (by decide) (l_is_integer K) fun cdv A out s H E hcv hr hg => V_is_integer Z hcv hr hg
abbrev N_is_number : List Str := ["value"]
abbrev ps_is_number : List Str := ["value"]
theorem nd_is_number : N_is_number.Nodup := by decide +kernel
theorem sc_is_number : FnScope N_is_number ps_is_number (defScope s_is_number) := ⟨rfl, rfl, rfl, nd_is_number, rfl, by decide +kernel, by decide +kernel⟩
theorem bi_is_number (Z : Fax P w K mg base) : Binds K (fdOf K "is_number") ps_is_number [] := Z.d_is_number.bindsN fun _ _ _ _ _ _ us hl => match us, hl with | [_], _ => rfl
theorem bn_is_number (Z : Fax P w K mg base) : Bnd K (fdOf K "is_number") ps_is_number 1 [] (fun us _ => us) (fun vs _ => vs) (fun as _ => as) := bnd_all (bi_is_number Z)
--MARK is_number
abbrev w_is_number (K : PySem.W.Frag) : WS := (wRet (wAndV (wD (wCall (c_is_integer K) (fun as _ => as) (rCons (xD (wN 0)) rNil) rNil)) (wChain (fIB fun i j => decide (i ≤ j)) (fIB fun i j => decide (i ≤ j)) (wC (.int (-2147483648))) (wN 0) (wC (.int 2147483647)))))
def numB : PyData → Bool
  | .int i => decide (-2147483648 ≤ i) && decide (i ≤ 2147483647)
  | _ => false
def c_is_number (K : PySem.W.Frag) : Ct := fun as n P _ => ∃ d, as = [.da d] ∧ P (.da (.bool (numB d))) n
theorem l_is_number (K : PySem.W.Frag) : ∀ as n P X, c_is_number K as n P X → as.length = ps_is_number.length → w_is_number K (outA P) X (entry N_is_number as n) := by
  rintro as n P X ⟨d, rfl, h⟩ -
  walk_at "V"
  refine ⟨_, rfl, ?_⟩
  walk_at "V"
  refine kandV (fun q => ?_) (fun q => ?_)
  · cases d <;> first | (simp [isI] at q; done) | skip
    walk_at "V"
    refine kch3 (fun q1 => ?_) (fun q1 => ?_)
    · walk_at "V"
      simpa [numB, q1] using h
    · walk_at "V"
      simpa [numB, q1] using h
  · walk_at "V"
    have e : numB d = false := by cases d <;> simp_all [isI, numB]
    rw [e] at h
    exact h

theorem V_is_number (Z : Fax P w K mg base) {cdv : Value} {A : Around} {out : List Env} {s : Shared} {H : Hp} {E : XK} (hcv : CodeOf K (He.ga K "is_number") "is_number" cdv) (hr : Room 1 (A.deeper (envOfC "is_number" (defScope s_is_number) s.heap.objs.size (He.ga K "is_number") cdv))) (hg : (A.deeper (envOfC "is_number" (defScope s_is_number) s.heap.objs.size (He.ga K "is_number") cdv)).guards = some []) :
    ∃ ts, VSs (gx K) (cxOf (L2.CX P w) P w K mg base N_is_number "is_number" (defScope s_is_number) (He.ga K "is_number") cdv A out s H E) E (defBody s_is_number) ts (w_is_number K) := by
  obtain ⟨t_HIGHEST, h_HIGHEST⟩ := Z.c_HIGHEST
  obtain ⟨t_LOWEST, h_LOWEST⟩ := Z.c_LOWEST
  have tk : Takes (cxOf (L2.CX P w) P w K mg base N_is_number "is_number" (defScope s_is_number) (He.ga K "is_number") cdv A out s H E) (fun c d _ H => E c d H) := takes_of rfl rfl rfl rfl
  exact ⟨_,
  (vss_one (vs_ret (ve_and (VX.ve (vx_call (ok_is_integer Z) (bn_is_integer Z) Z.g_is_integer Z.d_is_integer.kp (hr.mono (by decide)) hg tk (vr_cons (VE.vx (ve_n 0)) vr_nil))) (ve_one (ve_ch cv_le cv_le (ve_gi h_LOWEST) (ve_n 0) (ve_gi h_HIGHEST))))))⟩
theorem ok_is_number (Z : Fax P w K mg base) : FnG P w K mg base 2 (He.ga K "is_number") (fdOf K "is_number") ps_is_number (spV (gx K) (c_is_number K) 1) :=
  fn_V Z.d_is_number sc_is_number (by decide) (by decide) (l_is_number K) fun cdv A out s H E hcv hr hg => V_is_number Z hcv hr hg
abbrev N_is_grid_place : List Str := ["value"]
abbrev ps_is_grid_place : List Str := ["value"]
theorem nd_is_grid_place : N_is_grid_place.Nodup := by decide +kernel
theorem sc_is_grid_place : FnScope N_is_grid_place ps_is_grid_place (defScope s_is_grid_place) := ⟨rfl, rfl, rfl, nd_is_grid_place, rfl, by decide +kernel, by decide +kernel⟩
theorem bi_is_grid_place (Z : Fax P w K mg base) : Binds K (fdOf K "is_grid_place") ps_is_grid_place [] := Z.d_is_grid_place.bindsN fun _ _ _ _ _ _ us hl => match us, hl with | [_], _ => rfl
theorem bn_is_grid_place (Z : Fax P w K mg base) : Bnd K (fdOf K "is_grid_place") ps_is_grid_place 1 [] (fun us _ => us) (fun vs _ => vs) (fun as _ => as) := bnd_all (bi_is_grid_place Z)
--MARK is_grid_place
abbrev w_is_grid_place (K : PySem.W.Frag) : WS := (wRet (wAndV (wIsi "tuple" (wN 0)) (wAndV (w2 fEq (wCB fLen (wCons (wN 0) wNil)) (wC (.int 2))) (wAndV (wD (wCall (c_is_integer K) (fun as _ => as) (rCons (xD (w2 fIx (wN 0) (wC (.int 0)))) rNil) rNil)) (wD (wCall (c_is_integer K) (fun as _ => as) (rCons (xD (w2 fIx (wN 0) (wC (.int 1)))) rNil) rNil))))))
def gpB : PyData → Bool
  | .tuple [.int _, .int _] => true
  | _ => false
def c_is_grid_place (K : PySem.W.Frag) : Ct := fun as n P _ => ∃ d, as = [.da d] ∧ P (.da (.bool (gpB d))) n
theorem gp_two (a b : PyData) : gpB (.tuple [a, b]) = (isI a && isI b) := by
  cases a <;> cases b <;> rfl
theorem l_is_grid_place (K : PySem.W.Frag) : ∀ as n P X, c_is_grid_place K as n P X → as.length = ps_is_grid_place.length → w_is_grid_place K (outA P) X (entry N_is_grid_place as n) := by
  rintro as n P X ⟨d, rfl, h⟩ -
  walk_at "V"
  refine kandV (fun q => ?_) (fun q => ?_)
  · cases d with
    | tuple ds =>
      walk_at "V"
      refine kandV (fun q1 => ?_) (fun q1 => ?_)
      · have q1 : ds.length = 2 := by have := of_decide_eq_true q1; omega
        match ds, q1 with
        | [a, b], _ =>
          rw [gp_two] at h
          walk_at "V"
          refine ⟨_, rfl, ?_⟩
          walk_at "V"
          refine kandV (fun q2 => ?_) (fun q2 => ?_)
          · walk_at "V"
            refine ⟨_, rfl, ?_⟩
            walk_at "V"
            simpa [q2] using h
          · walk_at "V"
            simpa [q2] using h
      · walk_at "V"
        have q1 : ¬ ds.length = 2 := by have := of_decide_eq_false q1; omega
        have e : gpB (.tuple ds) = false := by
          match ds, q1 with
          | [], _ => rfl
          | [a], _ => cases a <;> rfl
          | a :: b :: c :: r, _ => cases a <;> cases b <;> rfl
          | [a, b], q => exact absurd rfl q
        rw [e] at h
        exact h
    | _ => simp at q
  · walk_at "V"
    have e : gpB d = false := by cases d <;> first | rfl | (simp at q; done)
    rw [e] at h
    exact h

theorem V_is_grid_place (Z : Fax P w K mg base) {cdv : Value} {A : Around} {out : List Env} {s : Shared} {H : Hp} {E : XK} (hcv : CodeOf K (He.ga K "is_grid_place") "is_grid_place" cdv) (hr : Room 1 (A.deeper (envOfC "is_grid_place" (defScope s_is_grid_place) s.heap.objs.size (He.ga K "is_grid_place") cdv))) (hg : (A.deeper (envOfC "is_grid_place" (defScope s_is_grid_place) s.heap.objs.size (He.ga K "is_grid_place") cdv)).guards = some []) :
    ∃ ts, VSs (gx K) (cxOf (L2.CX P w) P w K mg base N_is_grid_place "is_grid_place" (defScope s_is_grid_place) (He.ga K "is_grid_place") cdv A out s H E) E (defBody s_is_grid_place) ts (w_is_grid_place K) := by
  have tk : Takes (cxOf (L2.CX P w) P w K mg base N_is_grid_place "is_grid_place" (defScope s_is_grid_place) (He.ga K "is_grid_place") cdv A out s H E) (fun c d _ H => E c d H) := takes_of rfl rfl rfl rfl
  exact ⟨_,
  (vss_one (vs_ret (ve_and (ve_isi (ve_n 0) Z.n_isinstance Z.n_tuple) (ve_and (ve_c (cv_eq hr.units) (ve_b cb_len rc_len Z.n_len (va_cons (ve_n 0) va_nil)) ve_int (by first | exact nomark _ | rfl | with_unfolding_all rfl)) (ve_and (VX.ve (vx_call (ok_is_integer Z) (bn_is_integer Z) Z.g_is_integer Z.d_is_integer.kp (hr.mono (by decide)) hg tk (vr_cons (VE.vx (ve_ix (ve_n 0) ve_int)) vr_nil))) (ve_one (VX.ve (vx_call (ok_is_integer Z) (bn_is_integer Z) Z.g_is_integer Z.d_is_integer.kp (hr.mono (by decide)) hg tk (vr_cons (VE.vx (ve_ix (ve_n 0) ve_int)) vr_nil)))))))))⟩
theorem ok_is_grid_place (Z : Fax P w K mg base) : FnG P w K mg base 2 (He.ga K "is_grid_place") (fdOf K "is_grid_place") ps_is_grid_place (spV (gx K) (c_is_grid_place K) 1) :=
  fn_V Z.d_is_grid_place sc_is_grid_place (by decide) (by decide) (l_is_grid_place K) fun cdv A out s H E hcv hr hg => V_is_grid_place Z hcv hr hg
abbrev N_is_path : List Str := ["value", "one"]
abbrev ps_is_path : List Str := ["value"]
theorem nd_is_path : N_is_path.Nodup := by decide +kernel
theorem sc_is_path : FnScope N_is_path ps_is_path (defScope s_is_path) := ⟨rfl, rfl, rfl, nd_is_path, rfl, by decide +kernel, by decide +kernel⟩
theorem bi_is_path (Z : Fax P w K mg base) : Binds K (fdOf K "is_path") ps_is_path [] := Z.d_is_path.bindsN fun _ _ _ _ _ _ us hl => match us, hl with | [_], _ => rfl
theorem bn_is_path (Z : Fax P w K mg base) : Bnd K (fdOf K "is_path") ps_is_path 1 [] (fun us _ => us) (fun vs _ => vs) (fun as _ => as) := bnd_all (bi_is_path Z)
--MARK is_path
abbrev w_is_path (K : PySem.W.Frag) : WS := (wSeq (wIf (wOr (wNot (wB (wIsi "list" (wN 0)))) (wB (w2 (fIB fun i j => decide (j < i)) (wCB fLen (wCons (wN 0) wNil)) (wC (.int 64))))) (wRet (wC (.bool false))) wNext)
  (wRet (w2 fEq (wLst (wLc [1] (wSeqI (wN 0)) (gN 1) (wNot (wB (wD (wCall (c_is_grid_place K) (fun as _ => as) (rCons (xD (wN 1)) rNil) rNil)))) (wN 1))) (wLst wNil))))
def paB : PyData → Bool
  | .list ds => decide (ds.length ≤ 64) && ds.all gpB
  | _ => false
def c_is_path (K : PySem.W.Frag) : Ct := fun as n P _ => ∃ d, as = [.da d] ∧ P (.da (.bool (paB d))) n
theorem l_is_path (K : PySem.W.Frag) : ∀ as n P X, c_is_path K as n P X → as.length = ps_is_path.length → w_is_path K (outA P) X (entry N_is_path as n) := by
  rintro as n P X ⟨d, rfl, h⟩ -
  walk_at "V"
  cases d with
  | list ds =>
    walk_at "V"
    refine kif (fun q => ?_) (fun q => ?_)
    · walk_at "V"
      have q : ¬ ds.length ≤ 64 := by have := of_decide_eq_true q; omega
      simpa [paB, q] using h
    · have q : ds.length ≤ 64 := by have := of_decide_eq_false q; omega
      walk_at "V"
      refine ⟨by omega, ?_⟩
      refine lcg_of (fun d => if gpB d then [] else [d]) (fun e => ∃ s, e = ⟨[.da (.list ds), s], n⟩) _ ?_ ?_ _ ⟨_, rfl⟩
      · rintro e ⟨s, rfl⟩
        walk_at "V"
        rw [flat_empty]
        simpa [paB, q] using h
      · rintro d acc e N hd ⟨s, rfl⟩ hN
        walk_at "V"
        refine ⟨_, rfl, ?_⟩
        walk_at "V"
        cases hg : gpB d
        · rw [hg] at hN
          simp only [Bool.false_eq_true, if_false] at hN
          walk_at "V"
          exact hN _ ⟨_, rfl⟩
        · rw [hg] at hN
          simp only [if_true, List.append_nil] at hN
          walk_at "V"
          exact hN _ ⟨_, rfl⟩
  | _ => walk_at "V"; exact h

theorem V_is_path (Z : Fax P w K mg base) {cdv : Value} {A : Around} {out : List Env} {s : Shared} {H : Hp} {E : XK} (hcv : CodeOf K (He.ga K "is_path") "is_path" cdv) (hr : Room 2 (A.deeper (envOfC "is_path" (defScope s_is_path) s.heap.objs.size (He.ga K "is_path") cdv))) (hg : (A.deeper (envOfC "is_path" (defScope s_is_path) s.heap.objs.size (He.ga K "is_path") cdv)).guards = some []) :
    ∃ ts, VSs (gx K) (cxOf (L2.CX P w) P w K mg base N_is_path "is_path" (defScope s_is_path) (He.ga K "is_path") cdv A out s H E) E (defBody s_is_path) ts (w_is_path K) := by
  obtain ⟨t_MOST_PLACES, h_MOST_PLACES⟩ := Z.c_MOST_PLACES
  have tk : Takes (cxOf (L2.CX P w) P w K mg base N_is_path "is_path" (defScope s_is_path) (He.ga K "is_path") cdv A out s H E) (fun c d _ H => E c d H) := takes_of rfl rfl rfl rfl
  exact ⟨_,
  (vss_cons
    (vs_if (VW.vt (vw_or (vt_not (vt_v (ve_isi (ve_n 0) Z.n_isinstance Z.n_list))) (vw_or1 (vt_c cv_gt (ve_b cb_len rc_len Z.n_len (va_cons (ve_n 0) va_nil)) (ve_gi h_MOST_PLACES) (by first | exact nomark _ | rfl | with_unfolding_all rfl))))) (vss_one (vs_ret ve_bl)) vss_nil)
  (vss_one (vs_ret (ve_c (cv_eq hr.units) (VF.ve (vf_lc [("one", 1)] nd_is_path (vi_seq (ve_n 0)) (fun _ _ _ _ _ => (vg_n 1 nd_is_path)) (fun _ _ _ _ _ => (vts_one (vt_not (vt_v (VX.ve (vx_call (ok_is_grid_place Z) (bn_is_grid_place Z) Z.g_is_grid_place Z.d_is_grid_place.kp (hr.mono (by decide)) hg LamX.takes0 (vr_cons (VE.vx (ve_n 1)) vr_nil))))))) (fun _ _ _ _ _ => (ve_n 1)) (gw_n (by decide)))) (ve_lst va_nil) (by first | exact nomark _ | rfl | with_unfolding_all rfl)))))⟩
theorem ok_is_path (Z : Fax P w K mg base) : FnG P w K mg base 3 (He.ga K "is_path") (fdOf K "is_path") ps_is_path (spV (gx K) (c_is_path K) 1) :=
  fn_V Z.d_is_path sc_is_path (by decide) (by decide) (l_is_path K) fun cdv A out s H E hcv hr hg => V_is_path Z hcv hr hg
abbrev N_edges_of : List Str := ["path", "at", "place"]
abbrev ps_edges_of : List Str := ["path"]
theorem nd_edges_of : N_edges_of.Nodup := by decide +kernel
theorem sc_edges_of : FnScope N_edges_of ps_edges_of (defScope s_edges_of) := ⟨rfl, rfl, rfl, nd_edges_of, rfl, by decide +kernel, by decide +kernel⟩
theorem bi_edges_of (Z : Fax P w K mg base) : Binds K (fdOf K "edges_of") ps_edges_of [] := Z.d_edges_of.bindsN fun _ _ _ _ _ _ us hl => match us, hl with | [_], _ => rfl
theorem bn_edges_of (Z : Fax P w K mg base) : Bnd K (fdOf K "edges_of") ps_edges_of 1 [] (fun us _ => us) (fun vs _ => vs) (fun as _ => as) := bnd_all (bi_edges_of Z)
--MARK edges_of
abbrev w_edges_of (K : PySem.W.Frag) : WS := (wRet (wLst (wLc [1, 2] (wEnum (wCons (wN 0) wNil)) (gT (gMore (gN 1) (gMore (gN 2) gNone))) wYes (wTup (wCons (wN 2) (wCons (w2 fIx (wN 0) (w2 (fI (fun _ j => 0 < j) fun i j => i % j) (w2 fAdd (wN 1) (wC (.int 1))) (wCB fLen (wCons (wN 0) wNil)))) wNil))))))
abbrev Pt := Int × Int
abbrev ptD (p : Pt) : PyData := .tuple [.int p.1, .int p.2]
abbrev pathD (ps : List Pt) : PyData := .list (ps.map ptD)
abbrev edD (e : Pt × Pt) : PyData := .tuple [ptD e.1, ptD e.2]
/-- the edges of a path, the last one back to its begin -/
def edgesL (ps : List Pt) : List (Pt × Pt) := (List.range ps.length).map fun i => (ps.getD i (0, 0), ps.getD ((i + 1) % ps.length) (0, 0))
def c_edges_of (K : PySem.W.Frag) : Ct := fun as n P _ => ∃ ps, as = [.da (pathD ps)] ∧ ps.length ≤ 1000 ∧ P (.da (.list ((edgesL ps).map edD))) n
theorem enum_map {f : PyData → PyData} : ∀ (ds : List PyData) (k : Nat), (enumD k ds).map f = (List.range ds.length).map fun i => f (.tuple [.int ((k + i : Nat) : Int), ds.getD i .none])
  | [], _ => rfl
  | d :: ds, k => by
    rw [enumD, List.map_cons, enum_map ds (k + 1), List.length_cons, List.range_succ_eq_map, List.map_cons, List.map_map]
    congr 1
    apply List.map_congr_left
    intro i _
    show f _ = f _
    rw [show k + 1 + i = k + (i + 1) by omega]
    rfl
theorem l_edges_of (K : PySem.W.Frag) : ∀ as n P X, c_edges_of K as n P X → as.length = ps_edges_of.length → w_edges_of K (outA P) X (entry N_edges_of as n) := by
  rintro as n P X ⟨ps, rfl, hl, h⟩ -
  walk_at "V"
  have hlen : (enumD 0 (ps.map ptD)).length = ps.length := by rw [enumD_len, List.length_map]
  refine ⟨by omega, ?_⟩
  refine lcm_of (fun d => match d with | .tuple [.int i, p] => .tuple [p, ptD (ps.getD ((i.toNat + 1) % ps.length) (0, 0))] | d => d) (fun e => ∃ s t, e = ⟨[.da (pathD ps), s, t], n⟩) _ ?_ ?_ _ ⟨_, _, rfl⟩
  · rintro e ⟨s, t, rfl⟩
    rw [enum_map, List.length_map]
    walk_at "V"
    have e : ((List.range ps.length).map fun i => (PyData.tuple [(ps.map ptD).getD i .none, ptD (ps.getD ((((0 + i : Nat) : Int).toNat + 1) % ps.length) (0, 0))])) = (edgesL ps).map edD := by
      unfold edgesL
      rw [List.map_map]
      apply List.map_congr_left
      intro i hi
      have hi := List.mem_range.mp hi
      simp [List.getD, hi]
    rw [← e] at h
    exact h
  · rintro d acc e N hd ⟨s, t, rfl⟩ hN
    obtain ⟨i, hi⟩ := List.getElem?_of_mem hd
    have hi' : i < ps.length := by rw [← hlen]; exact (List.getElem?_eq_some_iff.mp hi).1
    obtain ⟨x, hx, rfl⟩ := enumD_get hi
    walk_at "V"
    have hn : 0 < ps.length := by omega
    have hm : (((0 + i : Nat) : Int) + 1) % (ps.length : Int) = (((i + 1) % ps.length : Nat) : Int) := by
      rw [Nat.zero_add]; push_cast; rfl
    have hlt : (i + 1) % ps.length < ps.length := Nat.mod_lt _ hn
    have ha : atI (ps.map ptD) ((((0 + i : Nat) : Int) + 1) % ((ps.map ptD).length : Int)) = some (ptD (ps.getD ((i + 1) % ps.length) (0, 0))) := by
      rw [List.length_map, hm]
      apply atI_some (by omega)
      rw [Int.toNat_natCast, List.getElem?_map]
      simp [List.getD, hlt]
    rw [fIx_l ha]
    walk_at "V"
    refine ⟨by rw [List.length_map]; omega, ?_⟩
    simp only [Nat.zero_add, Int.toNat_natCast] at hN
    exact hN _ ⟨_, _, rfl⟩

theorem V_edges_of (Z : Fax P w K mg base) {cdv : Value} {A : Around} {out : List Env} {s : Shared} {H : Hp} {E : XK} (hcv : CodeOf K (He.ga K "edges_of") "edges_of" cdv) (hr : Room 0 (A.deeper (envOfC "edges_of" (defScope s_edges_of) s.heap.objs.size (He.ga K "edges_of") cdv))) (hg : (A.deeper (envOfC "edges_of" (defScope s_edges_of) s.heap.objs.size (He.ga K "edges_of") cdv)).guards = some []) :
    ∃ ts, VSs (gx K) (cxOf (L2.CX P w) P w K mg base N_edges_of "edges_of" (defScope s_edges_of) (He.ga K "edges_of") cdv A out s H E) E (defBody s_edges_of) ts (w_edges_of K) := by
  have tk : Takes (cxOf (L2.CX P w) P w K mg base N_edges_of "edges_of" (defScope s_edges_of) (He.ga K "edges_of") cdv A out s H E) (fun c d _ H => E c d H) := takes_of rfl rfl rfl rfl
  exact ⟨_,
  (vss_one (vs_ret (VF.ve (vf_lc [("at", 1), ("place", 2)] nd_edges_of (vi_enum (va_cons (ve_n 0) va_nil) Z.n_enumerate) (fun _ _ _ _ _ => (vgl_t (vgl_n 1 nd_edges_of (vgl_n 2 nd_edges_of vgl_nil)))) (fun _ _ _ _ _ => vts_nil) (fun _ _ _ _ _ => (ve_tup (va_cons (ve_n 2) (va_cons (ve_ix (ve_n 0) (ve_mod (ve_add (ve_n 1) ve_int) (ve_b cb_len rc_len Z.n_len (va_cons (ve_n 0) va_nil)))) va_nil)))) (gw_t (gw_cons (gw_n (by decide)) (gw_cons (gw_n (by decide)) gw_nil)))))))⟩
theorem ok_edges_of (Z : Fax P w K mg base) : FnG P w K mg base 1 (He.ga K "edges_of") (fdOf K "edges_of") ps_edges_of (spV (gx K) (c_edges_of K) 1) :=
  fn_V Z.d_edges_of sc_edges_of (by decide) (by decide) (l_edges_of K) fun cdv A out s H E hcv hr hg => V_edges_of Z hcv hr hg
abbrev N_beside : List Str := ["one", "other", "middle"]
abbrev ps_beside : List Str := ["one", "other", "middle"]
theorem nd_beside : N_beside.Nodup := by decide +kernel
theorem sc_beside : FnScope N_beside ps_beside (defScope s_beside) := ⟨rfl, rfl, rfl, nd_beside, rfl, by decide +kernel, by decide +kernel⟩
theorem bi_beside (Z : Fax P w K mg base) : Binds K (fdOf K "beside") ps_beside [] := Z.d_beside.bindsN fun _ _ _ _ _ _ us hl => match us, hl with | [_, _, _], _ => rfl
theorem bn_beside (Z : Fax P w K mg base) : Bnd K (fdOf K "beside") ps_beside 3 [] (fun us _ => us) (fun vs _ => vs) (fun as _ => as) := bnd_all (bi_beside Z)
--MARK beside
abbrev w_beside (K : PySem.W.Frag) : WS := (wRet (w2 (fI0 fun i j => i - j) (w2 fMul (w2 (fI0 fun i j => i - j) (w2 fIx (wN 1) (wC (.int 0))) (w2 fIx (wN 0) (wC (.int 0)))) (w2 (fI0 fun i j => i - j) (w2 fIx (wN 2) (wC (.int 1))) (w2 fIx (wN 0) (wC (.int 1))))) (w2 fMul (w2 (fI0 fun i j => i - j) (w2 fIx (wN 1) (wC (.int 1))) (w2 fIx (wN 0) (wC (.int 1)))) (w2 (fI0 fun i j => i - j) (w2 fIx (wN 2) (wC (.int 0))) (w2 fIx (wN 0) (wC (.int 0)))))))
def bes (a b m : Pt) : Int := (b.1 - a.1) * (m.2 - a.2) - (b.2 - a.2) * (m.1 - a.1)
def BtP (k : Nat) (p : Pt) : Prop := Bt k p.1 ∧ Bt k p.2
def c_beside (K : PySem.W.Frag) : Ct := fun as n P _ => ∃ a b m, as = [.da (ptD a), .da (ptD b), .da (ptD m)] ∧ BtP 200 a ∧ BtP 200 b ∧ BtP 200 m ∧ P (.da (.int (bes a b m))) n
theorem l_beside (K : PySem.W.Frag) : ∀ as n P X, c_beside K as n P X → as.length = ps_beside.length → w_beside K (outA P) X (entry N_beside as n) := by
  rintro as n P X ⟨a, b, m, rfl, ⟨a1, a2⟩, ⟨b1, b2⟩, ⟨m1, m2⟩, h⟩ -
  walk_at "V"
  exact ⟨(by apply Bt.cm'; (· (repeat' (first | assumption | apply Bt.mul | apply Bt.addA | apply Bt.subA | apply Bt.negA | exact Bt.c (by decide)))); (· (repeat' (first | assumption | apply Bt.mul | apply Bt.addA | apply Bt.subA | apply Bt.negA | exact Bt.c (by decide)))); (· decide)), (by apply Bt.cm'; (· (repeat' (first | assumption | apply Bt.mul | apply Bt.addA | apply Bt.subA | apply Bt.negA | exact Bt.c (by decide)))); (· (repeat' (first | assumption | apply Bt.mul | apply Bt.addA | apply Bt.subA | apply Bt.negA | exact Bt.c (by decide)))); (· decide)), h⟩

theorem V_beside (Z : Fax P w K mg base) {cdv : Value} {A : Around} {out : List Env} {s : Shared} {H : Hp} {E : XK} (hcv : CodeOf K (He.ga K "beside") "beside" cdv) (hr : Room 0 (A.deeper (envOfC "beside" (defScope s_beside) s.heap.objs.size (He.ga K "beside") cdv))) (hg : (A.deeper (envOfC "beside" (defScope s_beside) s.heap.objs.size (He.ga K "beside") cdv)).guards = some []) :
    ∃ ts, VSs (gx K) (cxOf (L2.CX P w) P w K mg base N_beside "beside" (defScope s_beside) (He.ga K "beside") cdv A out s H E) E (defBody s_beside) ts (w_beside K) := by
  have tk : Takes (cxOf (L2.CX P w) P w K mg base N_beside "beside" (defScope s_beside) (He.ga K "beside") cdv A out s H E) (fun c d _ H => E c d H) := takes_of rfl rfl rfl rfl
  exact ⟨_,
  (vss_one (vs_ret (ve_sub (ve_mul (ve_sub (ve_ix (ve_n 1) ve_int) (ve_ix (ve_n 0) ve_int)) (ve_sub (ve_ix (ve_n 2) ve_int) (ve_ix (ve_n 0) ve_int))) (ve_mul (ve_sub (ve_ix (ve_n 1) ve_int) (ve_ix (ve_n 0) ve_int)) (ve_sub (ve_ix (ve_n 2) ve_int) (ve_ix (ve_n 0) ve_int))))))⟩
theorem ok_beside (Z : Fax P w K mg base) : FnG P w K mg base 1 (He.ga K "beside") (fdOf K "beside") ps_beside (spV (gx K) (c_beside K) 3) :=
  fn_V Z.d_beside sc_beside (by decide) (by decide) (l_beside K) fun cdv A out s H E hcv hr hg => V_beside Z hcv hr hg
abbrev N_middle_of : List Str := ["x", "y"]
abbrev ps_middle_of : List Str := ["x", "y"]
theorem nd_middle_of : N_middle_of.Nodup := by decide +kernel
theorem sc_middle_of : FnScope N_middle_of ps_middle_of (defScope s_middle_of) := ⟨rfl, rfl, rfl, nd_middle_of, rfl, by decide +kernel, by decide +kernel⟩
theorem bi_middle_of (Z : Fax P w K mg base) : Binds K (fdOf K "middle_of") ps_middle_of [] := Z.d_middle_of.bindsN fun _ _ _ _ _ _ us hl => match us, hl with | [_, _], _ => rfl
theorem bn_middle_of (Z : Fax P w K mg base) : Bnd K (fdOf K "middle_of") ps_middle_of 2 [] (fun us _ => us) (fun vs _ => vs) (fun as _ => as) := bnd_all (bi_middle_of Z)
--MARK middle_of
abbrev w_middle_of (K : PySem.W.Frag) : WS := (wRet (wTup (wCons (w2 fAdd (w2 fMul (wC (.int 16)) (wN 0)) (wC (.int 8))) (wCons (w2 fAdd (w2 fMul (wC (.int 16)) (wN 1)) (wC (.int 8))) wNil))))
abbrev midP (x y : Int) : Pt := (16 * x + 8, 16 * y + 8)
def c_middle_of (K : PySem.W.Frag) : Ct := fun as n P _ => ∃ x y, as = [.da (.int x), .da (.int y)] ∧ Bt 100 x ∧ Bt 100 y ∧ P (.da (ptD (midP x y))) n
theorem l_middle_of (K : PySem.W.Frag) : ∀ as n P X, c_middle_of K as n P X → as.length = ps_middle_of.length → w_middle_of K (outA P) X (entry N_middle_of as n) := by
  rintro as n P X ⟨x, y, rfl, hx, hy, h⟩ -
  walk_at "V"
  exact ⟨(by apply Bt.cm'; (· (repeat' (first | assumption | apply Bt.mul | apply Bt.addA | apply Bt.subA | apply Bt.negA | exact Bt.c (by decide)))); (· (repeat' (first | assumption | apply Bt.mul | apply Bt.addA | apply Bt.subA | apply Bt.negA | exact Bt.c (by decide)))); (· decide)), (by apply Bt.cm'; (· (repeat' (first | assumption | apply Bt.mul | apply Bt.addA | apply Bt.subA | apply Bt.negA | exact Bt.c (by decide)))); (· (repeat' (first | assumption | apply Bt.mul | apply Bt.addA | apply Bt.subA | apply Bt.negA | exact Bt.c (by decide)))); (· decide)), h⟩

theorem V_middle_of (Z : Fax P w K mg base) {cdv : Value} {A : Around} {out : List Env} {s : Shared} {H : Hp} {E : XK} (hcv : CodeOf K (He.ga K "middle_of") "middle_of" cdv) (hr : Room 0 (A.deeper (envOfC "middle_of" (defScope s_middle_of) s.heap.objs.size (He.ga K "middle_of") cdv))) (hg : (A.deeper (envOfC "middle_of" (defScope s_middle_of) s.heap.objs.size (He.ga K "middle_of") cdv)).guards = some []) :
    ∃ ts, VSs (gx K) (cxOf (L2.CX P w) P w K mg base N_middle_of "middle_of" (defScope s_middle_of) (He.ga K "middle_of") cdv A out s H E) E (defBody s_middle_of) ts (w_middle_of K) := by
  obtain ⟨t_CELL, h_CELL⟩ := Z.c_CELL
  obtain ⟨t_HALF, h_HALF⟩ := Z.c_HALF
  have tk : Takes (cxOf (L2.CX P w) P w K mg base N_middle_of "middle_of" (defScope s_middle_of) (He.ga K "middle_of") cdv A out s H E) (fun c d _ H => E c d H) := takes_of rfl rfl rfl rfl
  exact ⟨_,
  (vss_one (vs_ret (ve_tup (va_cons (ve_add (ve_mul (ve_gi h_CELL) (ve_n 0)) (ve_gi h_HALF)) (va_cons (ve_add (ve_mul (ve_gi h_CELL) (ve_n 1)) (ve_gi h_HALF)) va_nil)))))⟩
theorem ok_middle_of (Z : Fax P w K mg base) : FnG P w K mg base 1 (He.ga K "middle_of") (fdOf K "middle_of") ps_middle_of (spV (gx K) (c_middle_of K) 2) :=
  fn_V Z.d_middle_of sc_middle_of (by decide) (by decide) (l_middle_of K) fun cdv A out s H E hcv hr hg => V_middle_of Z hcv hr hg
abbrev N_turns_round : List Str := ["path", "middle", "found", "one", "other"]
abbrev ps_turns_round : List Str := ["path", "middle"]
theorem nd_turns_round : N_turns_round.Nodup := by decide +kernel
theorem sc_turns_round : FnScope N_turns_round ps_turns_round (defScope s_turns_round) := ⟨rfl, rfl, rfl, nd_turns_round, rfl, by decide +kernel, by decide +kernel⟩
theorem bi_turns_round (Z : Fax P w K mg base) : Binds K (fdOf K "turns_round") ps_turns_round [] := Z.d_turns_round.bindsN fun _ _ _ _ _ _ us hl => match us, hl with | [_, _], _ => rfl
theorem bn_turns_round (Z : Fax P w K mg base) : Bnd K (fdOf K "turns_round") ps_turns_round 2 [] (fun us _ => us) (fun vs _ => vs) (fun as _ => as) := bnd_all (bi_turns_round Z)
def b1_turns_round (K : PySem.W.Frag) : WS := (wSeq (wIf (wAnd (wB (wChain (fIB fun i j => decide (i ≤ j)) (fIB fun i j => decide (i < j)) (w2 fIx (wN 3) (wC (.int 1))) (w2 fIx (wN 1) (wC (.int 1))) (w2 fIx (wN 4) (wC (.int 1))))) (wB (w2 (fIB fun i j => decide (j < i)) (wD (wCall (c_beside K) (fun as _ => as) (rCons (xD (wN 3)) (rCons (xD (wN 4)) (rCons (xD (wN 1)) rNil))) rNil)) (wC (.int 0))))) (wAug 2 (fI0 fun i j => i + j) (wC (.int 1))) wNext)
  (wIf (wAnd (wB (wChain (fIB fun i j => decide (i ≤ j)) (fIB fun i j => decide (i < j)) (w2 fIx (wN 4) (wC (.int 1))) (w2 fIx (wN 1) (wC (.int 1))) (w2 fIx (wN 3) (wC (.int 1))))) (wB (w2 (fIB fun i j => decide (i < j)) (wD (wCall (c_beside K) (fun as _ => as) (rCons (xD (wN 3)) (rCons (xD (wN 4)) (rCons (xD (wN 1)) rNil))) rNil)) (wC (.int 0))))) (wAug 2 (fI0 fun i j => i - j) (wC (.int 1))) wNext))
--MARK turns_round
abbrev w_turns_round (K : PySem.W.Frag) : WS := (wSeq (wAsg (wC (.int 0)) (gN 2))
  (wSeq (wFor (wSeqI (wD (wCall (c_edges_of K) (fun as _ => as) (rCons (xD (wN 0)) rNil) rNil))) (gT (gMore (gN 3) (gMore (gN 4) gNone))) (b1_turns_round K))
  (wRet (wN 2))))
/-- what an edge counts round m -/
def wnd (m a b : Pt) : Int := (if a.2 ≤ m.2 ∧ m.2 < b.2 ∧ 0 < bes a b m then 1 else 0) - (if b.2 ≤ m.2 ∧ m.2 < a.2 ∧ bes a b m < 0 then 1 else 0)
def sumE (g : Pt → Pt → Int) (es : List (Pt × Pt)) : Int := (es.map fun e => g e.1 e.2).sum
theorem sumE_cons (g : Pt → Pt → Int) (e : Pt × Pt) (es : List (Pt × Pt)) : sumE g (e :: es) = g e.1 e.2 + sumE g es := by simp [sumE]
def turnsL (m : Pt) (ps : List Pt) : Int := sumE (wnd m) (edgesL ps)
theorem edges_mem {ps : List Pt} {e : Pt × Pt} (h : e ∈ edgesL ps) : e.1 ∈ ps ∧ e.2 ∈ ps := by
  obtain ⟨i, hi, rfl⟩ := List.mem_map.mp h
  have hi := List.mem_range.mp hi
  have h2 : (i + 1) % ps.length < ps.length := Nat.mod_lt _ (by omega)
  constructor
  · simp [List.getD, hi]
  · simp [List.getD, h2]
theorem edges_len (ps : List Pt) : (edgesL ps).length = ps.length := by simp [edgesL]
def c_turns_round (K : PySem.W.Frag) : Ct := fun as n P _ => ∃ ps m, as = [.da (pathD ps), .da (ptD m)] ∧ ps.length ≤ 1000 ∧ (∀ p ∈ ps, BtP 200 p) ∧ BtP 200 m ∧ P (.da (.int (turnsL m ps))) n
theorem l_turns_round (K : PySem.W.Frag) : ∀ as n P X, c_turns_round K as n P X → as.length = ps_turns_round.length → w_turns_round K (outA P) X (entry N_turns_round as n) := by
  rintro as n P X ⟨ps, m, rfl, hl, hb, hm, h⟩ -
  walk_at "V"
  refine ⟨ps, rfl, hl, ?_⟩
  walk_at "V"
  refine lp_of (fun ds e => ∃ es acc s3 s4, ds = es.map edD ∧ e = ⟨[.da (pathD ps), .da (ptD m), .da (.int acc), s3, s4], n⟩ ∧ acc + sumE (wnd m) es = turnsL m ps ∧ ∀ e ∈ es, BtP 200 e.1 ∧ BtP 200 e.2) ?_ ?_ _ _ ⟨_, 0, _, _, rfl, rfl, Int.zero_add _, fun e he => ⟨hb _ (edges_mem he).1, hb _ (edges_mem he).2⟩⟩
  · rintro e ⟨es, acc, s3, s4, hes, rfl, hs, -⟩
    have hes : es = [] := by simpa using hes.symm
    subst hes
    walk_at "V"
    have : acc = turnsL m ps := by simpa [sumE] using hs
    rw [this]
    exact h
  · rintro d ds e N ⟨es, acc, s3, s4, hes, rfl, hs, hbe⟩ hN
    match es, hes, hs, hbe with
    | (a, b) :: es, hes, hs, hbe =>
      rw [List.map_cons] at hes
      obtain ⟨rfl, rfl⟩ := List.cons.inj hes
      obtain ⟨ha, hbb⟩ := hbe _ (List.mem_cons_self ..)
      rw [sumE_cons] at hs
      have fin : ∀ v s3 s4, v = acc + wnd m a b → N ⟨[.da (pathD ps), .da (ptD m), .da (.int v), s3, s4], n⟩ := fun v s3 s4 hv => hN _ ⟨es, v, s3, s4, rfl, rfl, by rw [hv]; simp only at hs; omega, fun e he => hbe e (List.mem_cons_of_mem _ he)⟩
      unfold b1_turns_round
      walk_at "V"
      have second : ∀ v, v = acc + (if a.2 ≤ m.2 ∧ m.2 < b.2 ∧ 0 < bes a b m then 1 else 0) → wIf (wAnd (wB (wChain (fIB fun i j => decide (i ≤ j)) (fIB fun i j => decide (i < j)) (w2 fIx (wN 4) (wC (.int 1))) (w2 fIx (wN 1) (wC (.int 1))) (w2 fIx (wN 3) (wC (.int 1))))) (wB (w2 (fIB fun i j => decide (i < j)) (wD (wCall (c_beside K) (fun as _ => as) (rCons (xD (wN 3)) (rCons (xD (wN 4)) (rCons (xD (wN 1)) rNil))) rNil)) (wC (.int 0))))) (wAug 2 (fI0 fun i j => i - j) (wC (.int 1))) wNext (kLpA (kSeqA (wRet (wN 2)) (outA P) X) N) X ⟨[.da (pathD ps), .da (ptD m), .da (.int v), .da (ptD a), .da (ptD b)], n⟩ := by
        intro v hv
        unfold wnd at fin
        walk_at "V"
        refine kch3 (fun q1 => ?_) (fun q1 => ?_)
        · have q1 := of_decide_eq_true q1
          walk_at "V"
          refine kand (fun q2 => ?_) (fun q2 => ?_)
          · have q2 := of_decide_eq_true q2
            walk_at "V"
            refine ⟨a, b, m, rfl, ha, hbb, hm, ?_⟩
            walk_at "V"
            refine kif (fun q3 => ?_) (fun q3 => ?_)
            · have q3 := of_decide_eq_true q3
              walk_at "V"
              refine fin _ _ _ ?_
              rw [hv, if_pos (show b.2 ≤ m.2 ∧ m.2 < a.2 ∧ bes a b m < 0 from ⟨q1, q2, q3⟩)]
              omega
            · have q3 := of_decide_eq_false q3
              walk_at "V"
              refine fin _ _ _ ?_
              rw [hv, if_neg (fun z : b.2 ≤ m.2 ∧ m.2 < a.2 ∧ bes a b m < 0 => q3 z.2.2)]
              omega
          · have q2 := of_decide_eq_false q2
            walk_at "V"
            refine fin _ _ _ ?_
            rw [hv, if_neg (fun z : b.2 ≤ m.2 ∧ m.2 < a.2 ∧ bes a b m < 0 => q2 z.2.1)]
            omega
        · have q1 := of_decide_eq_false q1
          walk_at "V"
          refine fin _ _ _ ?_
          rw [hv, if_neg (fun z : b.2 ≤ m.2 ∧ m.2 < a.2 ∧ bes a b m < 0 => q1 z.1)]
          omega
      refine kch3 (fun q1 => ?_) (fun q1 => ?_)
      · have q1 := of_decide_eq_true q1
        walk_at "V"
        refine kand (fun q2 => ?_) (fun q2 => ?_)
        · have q2 := of_decide_eq_true q2
          walk_at "V"
          refine ⟨a, b, m, rfl, ha, hbb, hm, ?_⟩
          walk_at "V"
          refine kif (fun q3 => ?_) (fun q3 => ?_)
          · have q3 := of_decide_eq_true q3
            simp only [z_Aug2, z_C, y_Aug, f_I0, y_Aug2, List.set_cons_succ, List.set_cons_zero, y_SAn]
            refine second _ ?_
            rw [if_pos (show a.2 ≤ m.2 ∧ m.2 < b.2 ∧ 0 < bes a b m from ⟨q1, q2, q3⟩)]
          · have q3 := of_decide_eq_false q3
            simp only [z_Next, y_SAn]
            refine second _ ?_
            rw [if_neg (fun z : a.2 ≤ m.2 ∧ m.2 < b.2 ∧ 0 < bes a b m => q3 z.2.2)]
            omega
        · have q2 := of_decide_eq_false q2
          simp only [y_Not, y_If0, y_And0, y_B, z_Next, y_SAn]
          refine second _ ?_
          rw [if_neg (fun z : a.2 ≤ m.2 ∧ m.2 < b.2 ∧ 0 < bes a b m => q2 z.2.1)]
          omega
      · have q1 := of_decide_eq_false q1
        simp only [y_Not, y_If0, y_And0, y_B, z_Next, y_SAn]
        refine second _ ?_
        rw [if_neg (fun z : a.2 ≤ m.2 ∧ m.2 < b.2 ∧ 0 < bes a b m => q1 z.1)]
        omega

theorem V_turns_round (Z : Fax P w K mg base) {cdv : Value} {A : Around} {out : List Env} {s : Shared} {H : Hp} {E : XK} (hcv : CodeOf K (He.ga K "turns_round") "turns_round" cdv) (hr : Room 1 (A.deeper (envOfC "turns_round" (defScope s_turns_round) s.heap.objs.size (He.ga K "turns_round") cdv))) (hg : (A.deeper (envOfC "turns_round" (defScope s_turns_round) s.heap.objs.size (He.ga K "turns_round") cdv)).guards = some []) :
    ∃ ts, VSs (gx K) (cxOf (L2.CX P w) P w K mg base N_turns_round "turns_round" (defScope s_turns_round) (He.ga K "turns_round") cdv A out s H E) E (defBody s_turns_round) ts (w_turns_round K) := by
  have tk : Takes (cxOf (L2.CX P w) P w K mg base N_turns_round "turns_round" (defScope s_turns_round) (He.ga K "turns_round") cdv A out s H E) (fun c d _ H => E c d H) := takes_of rfl rfl rfl rfl
  exact ⟨_,
  (vss_cons
    (vs_set 2 nd_turns_round ve_int)
  (vss_cons
    (vs_for (by exact passes_of rfl) (vi_seq (VX.ve (vx_call (ok_edges_of Z) (bn_edges_of Z) Z.g_edges_of Z.d_edges_of.kp (hr.mono (by decide)) hg tk (vr_cons (VE.vx (ve_n 0)) vr_nil)))) (vgl_t (vgl_n 3 nd_turns_round (vgl_n 4 nd_turns_round vgl_nil))) (vss_cons
    (vs_if (VW.vt (vw_and (vt_ch cv_le cv_lt (ve_ix (ve_n 3) ve_int) (ve_ix (ve_n 1) ve_int) (ve_ix (ve_n 4) ve_int)) (vw_and1 (vt_c cv_gt (VX.ve (vx_call (ok_beside Z) (bn_beside Z) Z.g_beside Z.d_beside.kp (hr.mono (by decide)) hg tk (vr_cons (VE.vx (ve_n 3)) (vr_cons (VE.vx (ve_n 4)) (vr_cons (VE.vx (ve_n 1)) vr_nil))))) ve_int (by first | exact nomark _ | rfl | with_unfolding_all rfl))))) (vss_one (vs_aug 2 iop_add ro_I0 nd_turns_round ve_int)) vss_nil)
  (vss_one (vs_if (VW.vt (vw_and (vt_ch cv_le cv_lt (ve_ix (ve_n 4) ve_int) (ve_ix (ve_n 1) ve_int) (ve_ix (ve_n 3) ve_int)) (vw_and1 (vt_c cv_lt (VX.ve (vx_call (ok_beside Z) (bn_beside Z) Z.g_beside Z.d_beside.kp (hr.mono (by decide)) hg tk (vr_cons (VE.vx (ve_n 3)) (vr_cons (VE.vx (ve_n 4)) (vr_cons (VE.vx (ve_n 1)) vr_nil))))) ve_int (by first | exact nomark _ | rfl | with_unfolding_all rfl))))) (vss_one (vs_aug 2 iop_sub ro_I0 nd_turns_round ve_int)) vss_nil))))
  (vss_one (vs_ret (ve_n 2)))))⟩
theorem ok_turns_round (Z : Fax P w K mg base) : FnG P w K mg base 2 (He.ga K "turns_round") (fdOf K "turns_round") ps_turns_round (spV (gx K) (c_turns_round K) 2) :=
  fn_V Z.d_turns_round sc_turns_round (by decide) (by decide) (l_turns_round K) fun cdv A out s H E hcv hr hg => V_turns_round Z hcv hr hg
abbrev N_check_cell : List Str := ["x", "y", "value"]
abbrev ps_check_cell : List Str := ["x", "y"]
theorem nd_check_cell : N_check_cell.Nodup := by decide +kernel
theorem sc_check_cell : FnScope N_check_cell ps_check_cell (defScope s_check_cell) := ⟨rfl, rfl, rfl, nd_check_cell, rfl, by decide +kernel, by decide +kernel⟩
theorem bi_check_cell (Z : Fax P w K mg base) : Binds K (fdOf K "check_cell") ps_check_cell [] := Z.d_check_cell.bindsN fun _ _ _ _ _ _ us hl => match us, hl with | [_, _], _ => rfl
theorem bn_check_cell (Z : Fax P w K mg base) : Bnd K (fdOf K "check_cell") ps_check_cell 2 [] (fun us _ => us) (fun vs _ => vs) (fun as _ => as) := bnd_all (bi_check_cell Z)
--MARK check_cell
abbrev w_check_cell (K : PySem.W.Frag) : WS := (wFor (wSeqI (wTup (wCons (wN 0) (wCons (wN 1) wNil)))) (gN 2) (wIf (wNot (wB (wD (wCall (c_is_number K) (fun as _ => as) (rCons (xD (wN 2)) rNil) rNil)))) (wRaise (He.ga K "InvalidNumber") (wN 2)) wNext))
def c_check_cell (K : PySem.W.Frag) : Ct := fun as n P X => ∃ d u, as = [.da d, .da u] ∧ ((numB d = false ∧ X (He.ga K "InvalidNumber") d n) ∨ (numB d = true ∧ numB u = false ∧ X (He.ga K "InvalidNumber") u n) ∨ (numB d = true ∧ numB u = true ∧ P (.da .none) n))
theorem l_check_cell (K : PySem.W.Frag) : ∀ as n P X, c_check_cell K as n P X → as.length = ps_check_cell.length → w_check_cell K (outA P) X (entry N_check_cell as n) := by
  rintro as n P X ⟨d, u, rfl, h⟩ -
  walk_at "V"
  simp only [loop]
  walk_at "V"
  refine ⟨_, rfl, ?_⟩
  walk_at "V"
  rcases h with ⟨h1, h⟩ | ⟨h1, h2, h⟩ | ⟨h1, h2, h⟩
  · rw [h1]; walk_at "V"; exact h
  · rw [h1]; walk_at "V"
    refine ⟨_, rfl, ?_⟩
    walk_at "V"
    rw [h2]; walk_at "V"; exact h
  · rw [h1]; walk_at "V"
    refine ⟨_, rfl, ?_⟩
    walk_at "V"
    rw [h2]; walk_at "V"; exact h

theorem V_check_cell (Z : Fax P w K mg base) {cdv : Value} {A : Around} {out : List Env} {s : Shared} {H : Hp} {E : XK} (hcv : CodeOf K (He.ga K "check_cell") "check_cell" cdv) (hr : Room 2 (A.deeper (envOfC "check_cell" (defScope s_check_cell) s.heap.objs.size (He.ga K "check_cell") cdv))) (hg : (A.deeper (envOfC "check_cell" (defScope s_check_cell) s.heap.objs.size (He.ga K "check_cell") cdv)).guards = some []) :
    ∃ ts, VSs (gx K) (cxOf (L2.CX P w) P w K mg base N_check_cell "check_cell" (defScope s_check_cell) (He.ga K "check_cell") cdv A out s H E) E (defBody s_check_cell) ts (w_check_cell K) := by
  have tk : Takes (cxOf (L2.CX P w) P w K mg base N_check_cell "check_cell" (defScope s_check_cell) (He.ga K "check_cell") cdv A out s H E) (fun c d _ H => E c d H) := takes_of rfl rfl rfl rfl
  exact ⟨_,
  (vss_one (vs_for (by exact passes_of rfl) (vi_seq (ve_tup (va_cons (ve_n 0) (va_cons (ve_n 1) va_nil)))) (vg_n 2 nd_check_cell) (vss_one (vs_if (vt_not (vt_v (VX.ve (vx_call (ok_is_number Z) (bn_is_number Z) Z.g_is_number Z.d_is_number.kp (hr.mono (by decide)) hg tk (vr_cons (VE.vx (ve_n 2)) vr_nil))))) (vss_one (vs_raise Z.e_InvalidNumber.1 tk hr (ve_n 2) Z.g_InvalidNumber)) vss_nil))))⟩
theorem ok_check_cell (Z : Fax P w K mg base) : FnG P w K mg base 3 (He.ga K "check_cell") (fdOf K "check_cell") ps_check_cell (spV (gx K) (c_check_cell K) 2) :=
  fn_V Z.d_check_cell sc_check_cell (by decide) (by decide) (l_check_cell K) fun cdv A out s H E hcv hr hg => V_check_cell Z hcv hr hg
abbrev N_check_path : List Str := ["path"]
abbrev ps_check_path : List Str := ["path"]
theorem nd_check_path : N_check_path.Nodup := by decide +kernel
theorem sc_check_path : FnScope N_check_path ps_check_path (defScope s_check_path) := ⟨rfl, rfl, rfl, nd_check_path, rfl, by decide +kernel, by decide +kernel⟩
theorem bi_check_path (Z : Fax P w K mg base) : Binds K (fdOf K "check_path") ps_check_path [] := Z.d_check_path.bindsN fun _ _ _ _ _ _ us hl => match us, hl with | [_], _ => rfl
theorem bn_check_path (Z : Fax P w K mg base) : Bnd K (fdOf K "check_path") ps_check_path 1 [] (fun us _ => us) (fun vs _ => vs) (fun as _ => as) := bnd_all (bi_check_path Z)
--MARK check_path
abbrev w_check_path (K : PySem.W.Frag) : WS := (wIf (wNot (wB (wD (wCall (c_is_path K) (fun as _ => as) (rCons (xD (wN 0)) rNil) rNil)))) (wRaise (He.ga K "InvalidRow") (wN 0)) wNext)
def c_check_path (K : PySem.W.Frag) : Ct := fun as n P X => ∃ d, as = [.da d] ∧ ((paB d = false ∧ X (He.ga K "InvalidRow") d n) ∨ (paB d = true ∧ P (.da .none) n))
theorem l_check_path (K : PySem.W.Frag) : ∀ as n P X, c_check_path K as n P X → as.length = ps_check_path.length → w_check_path K (outA P) X (entry N_check_path as n) := by
  rintro as n P X ⟨d, rfl, h⟩ -
  walk_at "V"
  refine ⟨_, rfl, ?_⟩
  walk_at "V"
  rcases h with ⟨h1, h⟩ | ⟨h1, h⟩
  · rw [h1]; walk_at "V"; exact h
  · rw [h1]; walk_at "V"; exact h

theorem V_check_path (Z : Fax P w K mg base) {cdv : Value} {A : Around} {out : List Env} {s : Shared} {H : Hp} {E : XK} (hcv : CodeOf K (He.ga K "check_path") "check_path" cdv) (hr : Room 3 (A.deeper (envOfC "check_path" (defScope s_check_path) s.heap.objs.size (He.ga K "check_path") cdv))) (hg : (A.deeper (envOfC "check_path" (defScope s_check_path) s.heap.objs.size (He.ga K "check_path") cdv)).guards = some []) :
    ∃ ts, VSs (gx K) (cxOf (L2.CX P w) P w K mg base N_check_path "check_path" (defScope s_check_path) (He.ga K "check_path") cdv A out s H E) E (defBody s_check_path) ts (w_check_path K) := by
  have tk : Takes (cxOf (L2.CX P w) P w K mg base N_check_path "check_path" (defScope s_check_path) (He.ga K "check_path") cdv A out s H E) (fun c d _ H => E c d H) := takes_of rfl rfl rfl rfl
  exact ⟨_,
  (vss_one (vs_if (vt_not (vt_v (VX.ve (vx_call (ok_is_path Z) (bn_is_path Z) Z.g_is_path Z.d_is_path.kp (hr.mono (by decide)) hg tk (vr_cons (VE.vx (ve_n 0)) vr_nil))))) (vss_one (vs_raise Z.e_InvalidRow.1 tk hr (ve_n 0) Z.g_InvalidRow)) vss_nil))⟩
theorem ok_check_path (Z : Fax P w K mg base) : FnG P w K mg base 4 (He.ga K "check_path") (fdOf K "check_path") ps_check_path (spV (gx K) (c_check_path K) 1) :=
  fn_V Z.d_check_path sc_check_path (by decide) (by decide) (l_check_path K) fun cdv A out s H E hcv hr hg => V_check_path Z hcv hr hg
abbrev N_turns : List Str := ["path", "x", "y"]
abbrev ps_turns : List Str := ["path", "x", "y"]
theorem nd_turns : N_turns.Nodup := by decide +kernel
theorem sc_turns : FnScope N_turns ps_turns (defScope s_turns) := ⟨rfl, rfl, rfl, nd_turns, rfl, by decide +kernel, by decide +kernel⟩
theorem bi_turns (Z : Fax P w K mg base) : Binds K (fdOf K "turns") ps_turns [] := Z.d_turns.bindsN fun _ _ _ _ _ _ us hl => match us, hl with | [_, _, _], _ => rfl
theorem bn_turns (Z : Fax P w K mg base) : Bnd K (fdOf K "turns") ps_turns 3 [] (fun us _ => us) (fun vs _ => vs) (fun as _ => as) := bnd_all (bi_turns Z)
def g_turns_y_x_path : List Value → List Value → List Value
  | [], [b0, b1, b2] => [b2, b1, b0]
  | _, _ => []
def gv_turns_y_x_path : List V → List V → List V
  | [], [b0, b1, b2] => [b2, b1, b0]
  | _, _ => []
def ga_turns_y_x_path : List Ar → List Ar → List Ar
  | [], [b0, b1, b2] => [b2, b1, b0]
  | _, _ => []
theorem bk_turns_y_x_path (Z : Fax P w K mg base) : Bnd K (fdOf K "turns") ps_turns 0 ["y", "x", "path"] g_turns_y_x_path gv_turns_y_x_path ga_turns_y_x_path :=
  bnd_kw Z.d_turns (fun _ _ _ _ _ _ us ws l1 l2 => by
      obtain rfl := len_nil l1
      obtain ⟨b0, ws0, rfl, l20⟩ := len_cons l2
      obtain ⟨b1, ws1, rfl, l21⟩ := len_cons l20
      obtain ⟨b2, ws2, rfl, l22⟩ := len_cons l21
      obtain rfl := len_nil l22
      rfl)
    (fun {vs us zs ws} l1 l2 h h' => by
      obtain rfl := len_nil l1
      obtain ⟨b0, zs0, rfl, l20⟩ := len_cons l2
      obtain ⟨b1, zs1, rfl, l21⟩ := len_cons l20
      obtain ⟨b2, zs2, rfl, l22⟩ := len_cons l21
      obtain rfl := len_nil l22
      cases h
      obtain _ | ⟨t0, h'⟩ := h'
      obtain _ | ⟨t1, h'⟩ := h'
      obtain _ | ⟨t2, h'⟩ := h'
      cases h'
      exact .cons t2 (.cons t1 (.cons t0 (.nil))))
    (fun {W S H vs zs as bs} l1 l2 h h' => by
      obtain rfl := len_nil l1
      obtain ⟨b0, zs0, rfl, l20⟩ := len_cons l2
      obtain ⟨b1, zs1, rfl, l21⟩ := len_cons l20
      obtain ⟨b2, zs2, rfl, l22⟩ := len_cons l21
      obtain rfl := len_nil l22
      cases h
      obtain _ | ⟨t0, h'⟩ := h'
      obtain _ | ⟨t1, h'⟩ := h'
      obtain _ | ⟨t2, h'⟩ := h'
      cases h'
      exact .cons t2 (.cons t1 (.cons t0 (.nil))))
    (fun vs zs l1 l2 => by
      obtain rfl := len_nil l1
      obtain ⟨b0, zs0, rfl, l20⟩ := len_cons l2
      obtain ⟨b1, zs1, rfl, l21⟩ := len_cons l20
      obtain ⟨b2, zs2, rfl, l22⟩ := len_cons l21
      obtain rfl := len_nil l22
      rfl)
--MARK turns
abbrev w_turns (K : PySem.W.Frag) : WS := (wSeq (wDrop (wD (wCall (c_check_path K) (fun as _ => as) (rCons (xD (wN 0)) rNil) rNil)))
  (wSeq (wDrop (wD (wCall (c_check_cell K) (fun as _ => as) (rCons (xD (wN 1)) (rCons (xD (wN 2)) rNil)) rNil)))
  (wRet (wD (wCall (c_turns_round K) (fun as _ => as) (rCons (xD (wN 0)) (rCons (xD (wD (wCall (c_middle_of K) (fun as _ => as) (rCons (xD (wN 1)) (rCons (xD (wN 2)) rNil)) rNil))) rNil)) rNil)))))
theorem pa_path {ps : List Pt} (h : ps.length ≤ 64) : paB (pathD ps) = true := by
  simp only [paB, List.length_map, Bool.and_eq_true, decide_eq_true_eq, List.all_map, List.all_eq_true]
  exact ⟨h, fun _ _ => rfl⟩
theorem num_ok {i : Int} (h1 : -2147483648 ≤ i) (h2 : i ≤ 2147483647) : numB (.int i) = true := by simp [numB, h1, h2]
def c_turns (K : PySem.W.Frag) : Ct := fun as n P X => (∃ d u v, as = [.da d, .da u, .da v] ∧ ((paB d = false ∧ X (He.ga K "InvalidRow") d n) ∨ (paB d = true ∧ numB u = false ∧ X (He.ga K "InvalidNumber") u n) ∨ (paB d = true ∧ numB u = true ∧ numB v = false ∧ X (He.ga K "InvalidNumber") v n))) ∨
  ∃ ps x y, as = [.da (pathD ps), .da (.int x), .da (.int y)] ∧ ps.length ≤ 64 ∧ (∀ p ∈ ps, BtP 200 p) ∧ (-2147483648 ≤ x ∧ x ≤ 2147483647) ∧ (-2147483648 ≤ y ∧ y ≤ 2147483647) ∧ P (.da (.int (turnsL (midP x y) ps))) n
theorem l_turns (K : PySem.W.Frag) : ∀ as n P X, c_turns K as n P X → as.length = ps_turns.length → w_turns K (outA P) X (entry N_turns as n) := by
  rintro as n P X (⟨d, u, v, rfl, h⟩ | ⟨ps, x, y, rfl, hl, hb, ⟨x1, x2⟩, ⟨y1, y2⟩, h⟩) -
  · walk_at "V"
    rcases h with ⟨h1, h⟩ | ⟨h1, h2, h⟩ | ⟨h1, h2, h3, h⟩
    · exact ⟨d, rfl, .inl ⟨h1, h⟩⟩
    · refine ⟨d, rfl, .inr ⟨h1, ?_⟩⟩
      walk_at "V"
      exact ⟨u, v, rfl, .inl ⟨h2, h⟩⟩
    · refine ⟨d, rfl, .inr ⟨h1, ?_⟩⟩
      walk_at "V"
      exact ⟨u, v, rfl, .inr (.inl ⟨h2, h3, h⟩)⟩
  · have bx : Bt 40 x := .of (by omega) (by omega)
    have by_ : Bt 40 y := .of (by omega) (by omega)
    walk_at "V"
    refine ⟨_, rfl, .inr ⟨pa_path hl, ?_⟩⟩
    walk_at "V"
    refine ⟨_, _, rfl, .inr (.inr ⟨num_ok x1 x2, num_ok y1 y2, ?_⟩)⟩
    walk_at "V"
    refine ⟨_, _, rfl, (by apply Bt.mono; (· (repeat' (first | assumption | apply Bt.mul | apply Bt.addA | apply Bt.subA | apply Bt.negA | exact Bt.c (by decide)))); (· decide)), (by apply Bt.mono; (· (repeat' (first | assumption | apply Bt.mul | apply Bt.addA | apply Bt.subA | apply Bt.negA | exact Bt.c (by decide)))); (· decide)), ?_⟩
    walk_at "V"
    refine ⟨ps, midP x y, rfl, by omega, hb, ⟨(by apply Bt.mono; (· (repeat' (first | assumption | apply Bt.mul | apply Bt.addA | apply Bt.subA | apply Bt.negA | exact Bt.c (by decide)))); (· decide)), (by apply Bt.mono; (· (repeat' (first | assumption | apply Bt.mul | apply Bt.addA | apply Bt.subA | apply Bt.negA | exact Bt.c (by decide)))); (· decide))⟩, ?_⟩
    walk_at "V"
    exact h

theorem V_turns (Z : Fax P w K mg base) {cdv : Value} {A : Around} {out : List Env} {s : Shared} {H : Hp} {E : XK} (hcv : CodeOf K (He.ga K "turns") "turns" cdv) (hr : Room 4 (A.deeper (envOfC "turns" (defScope s_turns) s.heap.objs.size (He.ga K "turns") cdv))) (hg : (A.deeper (envOfC "turns" (defScope s_turns) s.heap.objs.size (He.ga K "turns") cdv)).guards = some []) :
    ∃ ts, VSs (gx K) (cxOf (L2.CX P w) P w K mg base N_turns "turns" (defScope s_turns) (He.ga K "turns") cdv A out s H E) E (defBody s_turns) ts (w_turns K) := by
  have tk : Takes (cxOf (L2.CX P w) P w K mg base N_turns "turns" (defScope s_turns) (He.ga K "turns") cdv A out s H E) (fun c d _ H => E c d H) := takes_of rfl rfl rfl rfl
  exact ⟨_,
  (vss_cons
    (vs_expr (VX.ve (vx_call (ok_check_path Z) (bn_check_path Z) Z.g_check_path Z.d_check_path.kp (hr.mono (by decide)) hg tk (vr_cons (VE.vx (ve_n 0)) vr_nil))))
  (vss_cons
    (vs_expr (VX.ve (vx_call (ok_check_cell Z) (bn_check_cell Z) Z.g_check_cell Z.d_check_cell.kp (hr.mono (by decide)) hg tk (vr_cons (VE.vx (ve_n 1)) (vr_cons (VE.vx (ve_n 2)) vr_nil)))))
  (vss_one (vs_ret (VX.ve (vx_call (ok_turns_round Z) (bn_turns_round Z) Z.g_turns_round Z.d_turns_round.kp (hr.mono (by decide)) hg tk (vr_cons (VE.vx (ve_n 0)) (vr_cons (VE.vx (VX.ve (vx_call (ok_middle_of Z) (bn_middle_of Z) Z.g_middle_of Z.d_middle_of.kp (hr.mono (by decide)) hg tk (vr_cons (VE.vx (ve_n 1)) (vr_cons (VE.vx (ve_n 2)) vr_nil))))) vr_nil))))))))⟩
theorem ok_turns (Z : Fax P w K mg base) : FnG P w K mg base 5 (He.ga K "turns") (fdOf K "turns") ps_turns (spV (gx K) (c_turns K) 3) :=
  fn_V Z.d_turns sc_turns (by decide) (by decide) (l_turns K) fun cdv A out s H E hcv hr hg => V_turns Z hcv hr hg
abbrev N_area_of : List Str := ["path", "one", "other"]
abbrev ps_area_of : List Str := ["path"]
theorem nd_area_of : N_area_of.Nodup := by decide +kernel
theorem sc_area_of : FnScope N_area_of ps_area_of (defScope s_area_of) := ⟨rfl, rfl, rfl, nd_area_of, rfl, by decide +kernel, by decide +kernel⟩
theorem bi_area_of (Z : Fax P w K mg base) : Binds K (fdOf K "area_of") ps_area_of [] := Z.d_area_of.bindsN fun _ _ _ _ _ _ us hl => match us, hl with | [_], _ => rfl
theorem bn_area_of (Z : Fax P w K mg base) : Bnd K (fdOf K "area_of") ps_area_of 1 [] (fun us _ => us) (fun vs _ => vs) (fun as _ => as) := bnd_all (bi_area_of Z)
--MARK area_of
abbrev w_area_of (K : PySem.W.Frag) : WS := (wRet (wCB fSum (wCons (wLst (wLc [1, 2] (wSeqI (wD (wCall (c_edges_of K) (fun as _ => as) (rCons (xD (wN 0)) rNil) rNil))) (gT (gMore (gN 1) (gMore (gN 2) gNone))) wYes (w2 (fI0 fun i j => i - j) (w2 fMul (w2 fIx (wN 1) (wC (.int 0))) (w2 fIx (wN 2) (wC (.int 1)))) (w2 fMul (w2 fIx (wN 2) (wC (.int 0))) (w2 fIx (wN 1) (wC (.int 1))))))) wNil)))
def arE (a b : Pt) : Int := a.1 * b.2 - b.1 * a.2
def areaL (ps : List Pt) : Int := sumE arE (edgesL ps)
def c_area_of (K : PySem.W.Frag) : Ct := fun as n P _ => ∃ ps, as = [.da (pathD ps)] ∧ ps.length ≤ 1000 ∧ (∀ p ∈ ps, BtP 200 p) ∧ P (.da (.int (areaL ps))) n
theorem l_area_of (K : PySem.W.Frag) : ∀ as n P X, c_area_of K as n P X → as.length = ps_area_of.length → w_area_of K (outA P) X (entry N_area_of as n) := by
  rintro as n P X ⟨ps, rfl, hl, hb, h⟩ -
  walk_at "V"
  refine ⟨ps, rfl, hl, ?_⟩
  walk_at "V"
  refine ⟨by rw [List.length_map, edges_len]; omega, ?_⟩
  refine lcm_of (fun d => match d with | .tuple [.tuple [.int a, .int b], .tuple [.int c, .int e]] => .int (a * e - c * b) | d => d) (fun e => ∃ s t, e = ⟨[.da (pathD ps), s, t], n⟩) _ ?_ ?_ _ ⟨_, _, rfl⟩
  · rintro e ⟨s, t, rfl⟩
    rw [List.map_map]
    walk_at "V"
    have e : ∀ es : List (Pt × Pt), es.map ((fun d => match d with | .tuple [.tuple [.int a, .int b], .tuple [.int c, .int e]] => .int (a * e - c * b) | d => d) ∘ edD) = (es.map fun e => arE e.1 e.2).map PyData.int := fun es => by
      rw [List.map_map]; rfl
    rw [e]
    refine f_Sum ?_
    walk_at "V"
    exact h
  · rintro d acc e N hd ⟨s, t, rfl⟩ hN
    obtain ⟨⟨a, b⟩, he, rfl⟩ := List.mem_map.mp hd
    obtain ⟨a1, a2⟩ := hb _ (edges_mem he).1
    obtain ⟨b1, b2⟩ := hb _ (edges_mem he).2
    simp only at a1 a2 b1 b2
    walk_at "V"
    exact ⟨(by apply Bt.cm'; (· (repeat' (first | assumption | apply Bt.mul | apply Bt.addA | apply Bt.subA | apply Bt.negA | exact Bt.c (by decide)))); (· (repeat' (first | assumption | apply Bt.mul | apply Bt.addA | apply Bt.subA | apply Bt.negA | exact Bt.c (by decide)))); (· decide)), (by apply Bt.cm'; (· (repeat' (first | assumption | apply Bt.mul | apply Bt.addA | apply Bt.subA | apply Bt.negA | exact Bt.c (by decide)))); (· (repeat' (first | assumption | apply Bt.mul | apply Bt.addA | apply Bt.subA | apply Bt.negA | exact Bt.c (by decide)))); (· decide)), hN _ ⟨_, _, rfl⟩⟩

theorem V_area_of (Z : Fax P w K mg base) {cdv : Value} {A : Around} {out : List Env} {s : Shared} {H : Hp} {E : XK} (hcv : CodeOf K (He.ga K "area_of") "area_of" cdv) (hr : Room 1 (A.deeper (envOfC "area_of" (defScope s_area_of) s.heap.objs.size (He.ga K "area_of") cdv))) (hg : (A.deeper (envOfC "area_of" (defScope s_area_of) s.heap.objs.size (He.ga K "area_of") cdv)).guards = some []) :
    ∃ ts, VSs (gx K) (cxOf (L2.CX P w) P w K mg base N_area_of "area_of" (defScope s_area_of) (He.ga K "area_of") cdv A out s H E) E (defBody s_area_of) ts (w_area_of K) := by
  have tk : Takes (cxOf (L2.CX P w) P w K mg base N_area_of "area_of" (defScope s_area_of) (He.ga K "area_of") cdv A out s H E) (fun c d _ H => E c d H) := takes_of rfl rfl rfl rfl
  exact ⟨_,
  (vss_one (vs_ret (ve_b cb_sum rc_sum Z.n_sum (va_cons (VF.ve (vf_lc [("one", 1), ("other", 2)] nd_area_of (vi_seq (VX.ve (vx_call (ok_edges_of Z) (bn_edges_of Z) Z.g_edges_of Z.d_edges_of.kp (hr.mono (by decide)) hg tk (vr_cons (VE.vx (ve_n 0)) vr_nil)))) (fun _ _ _ _ _ => (vgl_t (vgl_n 1 nd_area_of (vgl_n 2 nd_area_of vgl_nil)))) (fun _ _ _ _ _ => vts_nil) (fun _ _ _ _ _ => (ve_sub (ve_mul (ve_ix (ve_n 1) ve_int) (ve_ix (ve_n 2) ve_int)) (ve_mul (ve_ix (ve_n 2) ve_int) (ve_ix (ve_n 1) ve_int)))) (gw_t (gw_cons (gw_n (by decide)) (gw_cons (gw_n (by decide)) gw_nil))))) va_nil))))⟩
theorem ok_area_of (Z : Fax P w K mg base) : FnG P w K mg base 2 (He.ga K "area_of") (fdOf K "area_of") ps_area_of (spV (gx K) (c_area_of K) 1) :=
  fn_V Z.d_area_of sc_area_of (by decide) (by decide) (l_area_of K) fun cdv A out s H E hcv hr hg => V_area_of Z hcv hr hg
abbrev N_area : List Str := ["path"]
abbrev ps_area : List Str := ["path"]
theorem nd_area : N_area.Nodup := by decide +kernel
theorem sc_area : FnScope N_area ps_area (defScope s_area) := ⟨rfl, rfl, rfl, nd_area, rfl, by decide +kernel, by decide +kernel⟩
theorem bi_area (Z : Fax P w K mg base) : Binds K (fdOf K "area") ps_area [] := Z.d_area.bindsN fun _ _ _ _ _ _ us hl => match us, hl with | [_], _ => rfl
theorem bn_area (Z : Fax P w K mg base) : Bnd K (fdOf K "area") ps_area 1 [] (fun us _ => us) (fun vs _ => vs) (fun as _ => as) := bnd_all (bi_area Z)
def g_area_path : List Value → List Value → List Value
  | [], [b0] => [b0]
  | _, _ => []
def gv_area_path : List V → List V → List V
  | [], [b0] => [b0]
  | _, _ => []
def ga_area_path : List Ar → List Ar → List Ar
  | [], [b0] => [b0]
  | _, _ => []
theorem bk_area_path (Z : Fax P w K mg base) : Bnd K (fdOf K "area") ps_area 0 ["path"] g_area_path gv_area_path ga_area_path :=
  bnd_kw Z.d_area (fun _ _ _ _ _ _ us ws l1 l2 => by
      obtain rfl := len_nil l1
      obtain ⟨b0, ws0, rfl, l20⟩ := len_cons l2
      obtain rfl := len_nil l20
      rfl)
    (fun {vs us zs ws} l1 l2 h h' => by
      obtain rfl := len_nil l1
      obtain ⟨b0, zs0, rfl, l20⟩ := len_cons l2
      obtain rfl := len_nil l20
      cases h
      obtain _ | ⟨t0, h'⟩ := h'
      cases h'
      exact .cons t0 (.nil))
    (fun {W S H vs zs as bs} l1 l2 h h' => by
      obtain rfl := len_nil l1
      obtain ⟨b0, zs0, rfl, l20⟩ := len_cons l2
      obtain rfl := len_nil l20
      cases h
      obtain _ | ⟨t0, h'⟩ := h'
      cases h'
      exact .cons t0 (.nil))
    (fun vs zs l1 l2 => by
      obtain rfl := len_nil l1
      obtain ⟨b0, zs0, rfl, l20⟩ := len_cons l2
      obtain rfl := len_nil l20
      rfl)
--MARK area
abbrev w_area (K : PySem.W.Frag) : WS := (wSeq (wDrop (wD (wCall (c_check_path K) (fun as _ => as) (rCons (xD (wN 0)) rNil) rNil)))
  (wRet (wD (wCall (c_area_of K) (fun as _ => as) (rCons (xD (wN 0)) rNil) rNil))))
def c_area (K : PySem.W.Frag) : Ct := fun as n P X => (∃ d, as = [.da d] ∧ paB d = false ∧ X (He.ga K "InvalidRow") d n) ∨
  ∃ ps, as = [.da (pathD ps)] ∧ ps.length ≤ 64 ∧ (∀ p ∈ ps, BtP 200 p) ∧ P (.da (.int (areaL ps))) n
theorem l_area (K : PySem.W.Frag) : ∀ as n P X, c_area K as n P X → as.length = ps_area.length → w_area K (outA P) X (entry N_area as n) := by
  rintro as n P X (⟨d, rfl, h1, h⟩ | ⟨ps, rfl, hl, hb, h⟩) -
  · walk_at "V"
    exact ⟨d, rfl, .inl ⟨h1, h⟩⟩
  · walk_at "V"
    refine ⟨_, rfl, .inr ⟨pa_path hl, ?_⟩⟩
    walk_at "V"
    refine ⟨ps, rfl, by omega, hb, ?_⟩
    walk_at "V"
    exact h

theorem V_area (Z : Fax P w K mg base) {cdv : Value} {A : Around} {out : List Env} {s : Shared} {H : Hp} {E : XK} (hcv : CodeOf K (He.ga K "area") "area" cdv) (hr : Room 4 (A.deeper (envOfC "area" (defScope s_area) s.heap.objs.size (He.ga K "area") cdv))) (hg : (A.deeper (envOfC "area" (defScope s_area) s.heap.objs.size (He.ga K "area") cdv)).guards = some []) :
    ∃ ts, VSs (gx K) (cxOf (L2.CX P w) P w K mg base N_area "area" (defScope s_area) (He.ga K "area") cdv A out s H E) E (defBody s_area) ts (w_area K) := by
  have tk : Takes (cxOf (L2.CX P w) P w K mg base N_area "area" (defScope s_area) (He.ga K "area") cdv A out s H E) (fun c d _ H => E c d H) := takes_of rfl rfl rfl rfl
  exact ⟨_,
  (vss_cons
    (vs_expr (VX.ve (vx_call (ok_check_path Z) (bn_check_path Z) Z.g_check_path Z.d_check_path.kp (hr.mono (by decide)) hg tk (vr_cons (VE.vx (ve_n 0)) vr_nil))))
  (vss_one (vs_ret (VX.ve (vx_call (ok_area_of Z) (bn_area_of Z) Z.g_area_of Z.d_area_of.kp (hr.mono (by decide)) hg tk (vr_cons (VE.vx (ve_n 0)) vr_nil))))))⟩
theorem ok_area (Z : Fax P w K mg base) : FnG P w K mg base 5 (He.ga K "area") (fdOf K "area") ps_area (spV (gx K) (c_area K) 1) :=
  fn_V Z.d_area sc_area (by decide) (by decide) (l_area K) fun cdv A out s H E hcv hr hg => V_area Z hcv hr hg
abbrev N__law_cell : List Str := ["script", "index"]
abbrev ps__law_cell : List Str := ["script", "index"]
theorem nd__law_cell : N__law_cell.Nodup := by decide +kernel
theorem sc__law_cell : FnScope N__law_cell ps__law_cell (defScope s__law_cell) := ⟨rfl, rfl, rfl, nd__law_cell, rfl, by decide +kernel, by decide +kernel⟩
theorem bi__law_cell (Z : Fax P w K mg base) : Binds K (fdOf K "_law_cell") ps__law_cell [] := Z.d__law_cell.bindsN fun _ _ _ _ _ _ us hl => match us, hl with | [_, _], _ => rfl
theorem bn__law_cell (Z : Fax P w K mg base) : Bnd K (fdOf K "_law_cell") ps__law_cell 2 [] (fun us _ => us) (fun vs _ => vs) (fun as _ => as) := bnd_all (bi__law_cell Z)
--MARK _law_cell
abbrev w__law_cell (K : PySem.W.Frag) : WS := (wSeq (wIf (wB (w2 (fIB fun i j => decide (i < j)) (wN 1) (wSqLen 0))) (wRet (wSqIx 0 (wN 1))) wNext)
  (wRet (w2 (fI (fun _ j => 0 < j) fun i j => i % j) (wCB fSum (wCons (wSqSl 0 wNo (wPart (wC (.int 1)))) wNil)) (wC (.int 1000003)))))
def c__law_cell (K : PySem.W.Frag) : Ct := fun as n P _ => ∃ ns i, as = [.sq ns, .da (.int i)] ∧ 0 ≤ i ∧ ∀ v : Int, P (.da (.int v)) n
theorem l__law_cell (K : PySem.W.Frag) : ∀ as n P X, c__law_cell K as n P X → as.length = ps__law_cell.length → w__law_cell K (outA P) X (entry N__law_cell as n) := by
  rintro as n P X ⟨ns, i, rfl, h0, h⟩ -
  simp only [wC, wN, w2, w1, fI, fI0, fIB, wSeq, wNext, wRet, wRetN, wDrop, wIf, wAsg, gN, gT, gMore, gNone, wB, wNot, wAnd, wOr, wAndV, wOrV, wNotV, wIfE, wChain, wNil, wCons, wTup, wLst, wCB, wD, xD, xN, xOp, rNil, rCons, wCall, wSeqI, wRng1, wFor, wSqLen, wSqIx, wSqSl, wNo, wPart, wGeIx, wGeSet', wSetX, wRetGe, wRetX, wPar, wErNN, wErIs, wErVal, wRaise, wRef, wYes, wIsi, fIsi, fIsi2, fInt, fLen, fSum, fAll, fMax, fMin, fIx, fAdd, fMul, fBits, fEq, fNe, fIsN, fIsB, fNotN, fRepr, En.set, En.wipe, Ar.sl, entry, outA, List.map_cons, List.map_nil, List.cons_append, List.nil_append, List.append_nil, List.length_cons, List.length_nil, List.replicate, List.getElem?_cons_zero, List.getElem?_cons_succ, List.set_cons_zero, List.set_cons_succ, Nat.reduceAdd, Nat.reduceSub]
  refine ⟨fun hb => ?_, fun _ => ⟨cutA ns none (some 1), rfl, by decide, h _⟩⟩
  obtain ⟨z, _, hz⟩ := atI_lt h0 (of_decide_eq_true hb)
  exact ⟨z, hz, h _⟩

theorem V__law_cell (Z : Fax P w K mg base) {cdv : Value} {A : Around} {out : List Env} {s : Shared} {H : Hp} {E : XK} (hcv : CodeOf K (He.ga K "_law_cell") "_law_cell" cdv) (hr : Room 0 (A.deeper (envOfC "_law_cell" (defScope s__law_cell) s.heap.objs.size (He.ga K "_law_cell") cdv))) (hg : (A.deeper (envOfC "_law_cell" (defScope s__law_cell) s.heap.objs.size (He.ga K "_law_cell") cdv)).guards = some []) :
    ∃ ts, VSs (gx K) (cxOf (L2.CX P w) P w K mg base N__law_cell "_law_cell" (defScope s__law_cell) (He.ga K "_law_cell") cdv A out s H E) E (defBody s__law_cell) ts (w__law_cell K) := by
  have tk : Takes (cxOf (L2.CX P w) P w K mg base N__law_cell "_law_cell" (defScope s__law_cell) (He.ga K "_law_cell") cdv A out s H E) (fun c d _ H => E c d H) := takes_of rfl rfl rfl rfl
  exact ⟨_,
  (vss_cons
    (vs_if (vt_c cv_lt (ve_n 1) (ve_sqLen 0 Z.n_len) (by first | exact nomark _ | rfl | with_unfolding_all rfl)) (vss_one (vs_ret (ve_sqIx 0 (ve_n 1)))) vss_nil)
  (vss_one (vs_ret (ve_mod (ve_b cb_sum rc_sum Z.n_sum (va_cons (ve_sqSl 0 vo_none (vo_some ve_int)) va_nil)) ve_int))))⟩
theorem ok__law_cell (Z : Fax P w K mg base) : FnG P w K mg base 1 (He.ga K "_law_cell") (fdOf K "_law_cell") ps__law_cell (spV (gx K) (c__law_cell K) 2) :=
  fn_V Z.d__law_cell sc__law_cell (by decide) (by decide) (l__law_cell K) fun cdv A out s H E hcv hr hg => V__law_cell Z hcv hr hg
abbrev N__law_hash : List Str := ["seed", "index", "mixed"]
abbrev ps__law_hash : List Str := ["seed", "index"]
theorem nd__law_hash : N__law_hash.Nodup := by decide +kernel
theorem sc__law_hash : FnScope N__law_hash ps__law_hash (defScope s__law_hash) := ⟨rfl, rfl, rfl, nd__law_hash, rfl, by decide +kernel, by decide +kernel⟩
theorem bi__law_hash (Z : Fax P w K mg base) : Binds K (fdOf K "_law_hash") ps__law_hash [] := Z.d__law_hash.bindsN fun _ _ _ _ _ _ us hl => match us, hl with | [_, _], _ => rfl
theorem bn__law_hash (Z : Fax P w K mg base) : Bnd K (fdOf K "_law_hash") ps__law_hash 2 [] (fun us _ => us) (fun vs _ => vs) (fun as _ => as) := bnd_all (bi__law_hash Z)
--MARK _law_hash
abbrev w__law_hash (K : PySem.W.Frag) : WS := (wSeq (wAsg (w2 (fI (fun _ j => 0 < j) fun i j => i % j) (wCB fInt (wCons (w2 fAdd (w2 fAdd (w2 fAdd (w2 fMul (wN 0) (wC (.int 1103515245))) (w2 fMul (w2 fMul (wC (.int 27183)) (wN 1)) (wN 1))) (w2 fMul (wC (.int 7919)) (wN 1))) (wC (.int 101))) wNil)) (wC (.int 2147483629))) (gN 2))
  (wSeq (wAsg (w2 (fI (fun _ j => 0 < j) fun i j => i % j) (wCB fInt (wCons (w2 fAdd (w2 fAdd (w2 fMul (wN 2) (wN 2)) (w2 fMul (wC (.int 48271)) (wN 1))) (wC (.int 31))) wNil)) (wC (.int 2147483587))) (gN 2))
  (wRet (w2 (fI (fun _ j => 0 < j) fun i j => i % j) (wCB fInt (wCons (w2 fMul (wN 2) (wC (.int 69621))) wNil)) (wC (.int 2147483647))))))
def c__law_hash (K : PySem.W.Frag) : Ct := fun as n P _ => ∃ a b : Int, as = [.da (.int a), .da (.int b)] ∧ (0 ≤ a ∧ a < 2147483647) ∧ (0 ≤ b ∧ b ≤ 2 ^ 60) ∧ ∀ v : Int, 0 ≤ v → v < 2147483647 → P (.da (.int v)) n
theorem l__law_hash (K : PySem.W.Frag) : ∀ as n P X, c__law_hash K as n P X → as.length = ps__law_hash.length → w__law_hash K (outA P) X (entry N__law_hash as n) := by
  rintro as n P X ⟨a, b, rfl, ha, hb, h⟩ -
  simp only [wC, wN, w2, w1, fI, fI0, fIB, wSeq, wNext, wRet, wRetN, wDrop, wIf, wAsg, gN, gT, gMore, gNone, wB, wNot, wAnd, wOr, wAndV, wOrV, wNotV, wIfE, wChain, wNil, wCons, wTup, wLst, wCB, wD, xD, xN, xOp, rNil, rCons, wCall, wSeqI, wRng1, wFor, wSqLen, wSqIx, wSqSl, wNo, wPart, wGeIx, wGeSet', wSetX, wRetGe, wRetX, wPar, wErNN, wErIs, wErVal, wRaise, wRef, wYes, wIsi, fIsi, fIsi2, fInt, fLen, fSum, fAll, fMax, fMin, fIx, fAdd, fMul, fBits, fEq, fNe, fIsN, fIsB, fNotN, fRepr, En.set, En.wipe, Ar.sl, entry, outA, List.map_cons, List.map_nil, List.cons_append, List.nil_append, List.append_nil, List.length_cons, List.length_nil, List.replicate, List.getElem?_cons_zero, List.getElem?_cons_succ, List.set_cons_zero, List.set_cons_succ, Nat.reduceAdd, Nat.reduceSub]
  have ba : Bt 31 a := .of (by omega) (by omega)
  have bb : Bt 61 b := .of (by omega) (by omega)
  have lt (x : Int) (h1 : -(2 ^ 31) < x) (h2 : x < 2 ^ 31) : Bt 31 x := .of h1 h2
  generalize hm : (a * 1103515245 + 27183 * b * b + 7919 * b + 101) % 2147483629 = m
  have bm : Bt 31 m := .of (by omega) (by omega)
  generalize hk : (m * m + 48271 * b + 31) % 2147483587 = k
  have bk : Bt 31 k := .of (by omega) (by omega)
  exact ⟨ba.cm (lt _ (by decide) (by decide)), (lt _ (by decide) (by decide)).cm bb, ((lt _ (by decide) (by decide)).mul bb).cm bb, (lt _ (by decide) (by decide)).cm bb, by decide, bm.cm bm, (lt _ (by decide) (by decide)).cm bb, by decide, bk.cm (lt _ (by decide) (by decide)), by decide, h _ (by omega) (by omega)⟩

theorem V__law_hash (Z : Fax P w K mg base) {cdv : Value} {A : Around} {out : List Env} {s : Shared} {H : Hp} {E : XK} (hcv : CodeOf K (He.ga K "_law_hash") "_law_hash" cdv) (hr : Room 0 (A.deeper (envOfC "_law_hash" (defScope s__law_hash) s.heap.objs.size (He.ga K "_law_hash") cdv))) (hg : (A.deeper (envOfC "_law_hash" (defScope s__law_hash) s.heap.objs.size (He.ga K "_law_hash") cdv)).guards = some []) :
    ∃ ts, VSs (gx K) (cxOf (L2.CX P w) P w K mg base N__law_hash "_law_hash" (defScope s__law_hash) (He.ga K "_law_hash") cdv A out s H E) E (defBody s__law_hash) ts (w__law_hash K) := by
  have tk : Takes (cxOf (L2.CX P w) P w K mg base N__law_hash "_law_hash" (defScope s__law_hash) (He.ga K "_law_hash") cdv A out s H E) (fun c d _ H => E c d H) := takes_of rfl rfl rfl rfl
  exact ⟨_,
  (vss_cons
    (vs_set 2 nd__law_hash (ve_mod (ve_t cb_int rc_int Z.n_int (va_cons (ve_add (ve_add (ve_add (ve_mul (ve_n 0) ve_int) (ve_mul (ve_mul ve_int (ve_n 1)) (ve_n 1))) (ve_mul ve_int (ve_n 1))) ve_int) va_nil)) ve_int))
  (vss_cons
    (vs_set 2 nd__law_hash (ve_mod (ve_t cb_int rc_int Z.n_int (va_cons (ve_add (ve_add (ve_mul (ve_n 2) (ve_n 2)) (ve_mul ve_int (ve_n 1))) ve_int) va_nil)) ve_int))
  (vss_one (vs_ret (ve_mod (ve_t cb_int rc_int Z.n_int (va_cons (ve_mul (ve_n 2) ve_int) va_nil)) ve_int)))))⟩
theorem ok__law_hash (Z : Fax P w K mg base) : FnG P w K mg base 1 (He.ga K "_law_hash") (fdOf K "_law_hash") ps__law_hash (spV (gx K) (c__law_hash K) 2) :=
  fn_V Z.d__law_hash sc__law_hash (by decide) (by decide) (l__law_hash K) fun cdv A out s H E hcv hr hg => V__law_hash Z hcv hr hg
abbrev N__law_generator : List Str := ["script", "index", "seed"]
abbrev ps__law_generator : List Str := ["script", "index"]
theorem nd__law_generator : N__law_generator.Nodup := by decide +kernel
theorem sc__law_generator : FnScope N__law_generator ps__law_generator (defScope s__law_generator) := ⟨rfl, rfl, rfl, nd__law_generator, rfl, by decide +kernel, by decide +kernel⟩
theorem bi__law_generator (Z : Fax P w K mg base) : Binds K (fdOf K "_law_generator") ps__law_generator [] := Z.d__law_generator.bindsN fun _ _ _ _ _ _ us hl => match us, hl with | [_, _], _ => rfl
theorem bn__law_generator (Z : Fax P w K mg base) : Bnd K (fdOf K "_law_generator") ps__law_generator 2 [] (fun us _ => us) (fun vs _ => vs) (fun as _ => as) := bnd_all (bi__law_generator Z)
--MARK _law_generator
abbrev w__law_generator (K : PySem.W.Frag) : WS := (wSeq (wAsg (wD (wCall (c__law_cell K) (fun as _ => as) (rCons (xN 0) (rCons (xD (wN 1)) rNil)) rNil)) (gN 2))
  (wRetGe (wCons (w2 (fI (fun _ j => 0 < j) fun i j => i % j) (wCB fInt (wCons (wCB fMax (wCons (w2 (fI0 fun i j => i - j) (wN 2) (w2 (fI CPow' fun i j => i ^ j.toNat) (wC (.int 10)) (wC (.int 18)))) (wCons (wC (.int 0)) wNil))) wNil)) (w2 (fI CPow' fun i j => i ^ j.toNat) (w2 (fI CPow' fun i j => i ^ j.toNat) (wC (.int 10)) (wC (.int 60))) (wC (.int 10)))) (wCons (w2 (fI (fun _ j => 0 < j) fun i j => i % j) (wCB fInt (wCons (wN 2) wNil)) (wC (.int 2147483647))) (wCons (w2 fMul (wC (.int 1000)) (wN 1)) wNil)))))
def c__law_generator (K : PySem.W.Frag) : Ct := fun as n P _ => ∃ ns i, as = [.sq ns, .da (.int i)] ∧ 0 ≤ i ∧ i ≤ 1000000 ∧ n ≤ 2 ^ 59 ∧ P .ge n
theorem l__law_generator (K : PySem.W.Frag) : ∀ as n P X, c__law_generator K as n P X → as.length = ps__law_generator.length → w__law_generator K (outA P) X (entry N__law_generator as n) := by
  rintro as n P X ⟨ns, i, rfl, h0, h1, hn, h⟩ -
  simp only [wC, wN, w2, w1, fI, fI0, fIB, wSeq, wNext, wRet, wRetN, wDrop, wIf, wAsg, gN, gT, gMore, gNone, wB, wNot, wAnd, wOr, wAndV, wOrV, wNotV, wIfE, wChain, wNil, wCons, wTup, wLst, wCB, wD, xD, xN, xOp, rNil, rCons, wCall, wSeqI, wRng1, wFor, wSqLen, wSqIx, wSqSl, wNo, wPart, wGeIx, wGeSet', wSetX, wRetGe, wRetX, wPar, wErNN, wErIs, wErVal, wRaise, wRef, wYes, wIsi, fIsi, fIsi2, fInt, fLen, fSum, fAll, fMax, fMin, fIx, fAdd, fMul, fBits, fEq, fNe, fIsN, fIsB, fNotN, fRepr, En.set, En.wipe, Ar.sl, entry, outA, List.map_cons, List.map_nil, List.cons_append, List.nil_append, List.append_nil, List.length_cons, List.length_nil, List.replicate, List.getElem?_cons_zero, List.getElem?_cons_succ, List.set_cons_zero, List.set_cons_succ, Nat.reduceAdd, Nat.reduceSub]
  refine ⟨ns, i, rfl, h0, fun v => ?_⟩
  simp only [wC, wN, w2, w1, fI, fI0, fIB, wSeq, wNext, wRet, wRetN, wDrop, wIf, wAsg, gN, gT, gMore, gNone, wB, wNot, wAnd, wOr, wAndV, wOrV, wNotV, wIfE, wChain, wNil, wCons, wTup, wLst, wCB, wD, xD, xN, xOp, rNil, rCons, wCall, wSeqI, wRng1, wFor, wSqLen, wSqIx, wSqSl, wNo, wPart, wGeIx, wGeSet', wSetX, wRetGe, wRetX, wPar, wErNN, wErIs, wErVal, wRaise, wRef, wYes, wIsi, fIsi, fIsi2, fInt, fLen, fSum, fAll, fMax, fMin, fIx, fAdd, fMul, fBits, fEq, fNe, fIsN, fIsB, fNotN, fRepr, En.set, En.wipe, Ar.sl, entry, outA, List.map_cons, List.map_nil, List.cons_append, List.nil_append, List.append_nil, List.length_cons, List.length_nil, List.replicate, List.getElem?_cons_zero, List.getElem?_cons_succ, List.set_cons_zero, List.set_cons_succ, Nat.reduceAdd, Nat.reduceSub]
  have hp : (0 : Int) < (10 ^ Int.toNat 60) ^ Int.toNat 10 := by decide +kernel
  have he : ((10 : Int) ^ Int.toNat 60) ^ Int.toNat 10 = 10 ^ 600 := by decide +kernel
  refine ⟨⟨by decide, by decide +kernel⟩, ⟨by decide, by decide +kernel⟩, ⟨by decide, by decide +kernel⟩, hp, by decide, (Bt.of (k := 10) (by decide) (by decide)).cm (Bt.of (k := 21) (by omega) (by omega)), ⟨Int.emod_nonneg _ (by rw [he]; decide +kernel), ?_, by omega, by omega, by omega, ?_⟩, h⟩
  · rw [← he]; exact Int.emod_lt_of_pos _ hp
  · omega

theorem V__law_generator (Z : Fax P w K mg base) {cdv : Value} {A : Around} {out : List Env} {s : Shared} {H : Hp} {E : XK} (hcv : CodeOf K (He.ga K "_law_generator") "_law_generator" cdv) (hr : Room 1 (A.deeper (envOfC "_law_generator" (defScope s__law_generator) s.heap.objs.size (He.ga K "_law_generator") cdv))) (hg : (A.deeper (envOfC "_law_generator" (defScope s__law_generator) s.heap.objs.size (He.ga K "_law_generator") cdv)).guards = some []) :
    ∃ ts, VSs (gx K) (cxOf (L2.CX P w) P w K mg base N__law_generator "_law_generator" (defScope s__law_generator) (He.ga K "_law_generator") cdv A out s H E) E (defBody s__law_generator) ts (w__law_generator K) := by
  have tk : Takes (cxOf (L2.CX P w) P w K mg base N__law_generator "_law_generator" (defScope s__law_generator) (He.ga K "_law_generator") cdv A out s H E) (fun c d _ H => E c d H) := takes_of rfl rfl rfl rfl
  exact ⟨_,
  (vss_cons
    (vs_set 2 nd__law_generator (VX.ve (vx_call (ok__law_cell Z) (bn__law_cell Z) Z.g__law_cell Z.d__law_cell.kp (hr.mono (by decide)) hg tk (vr_cons (vx_n 0) (vr_cons (VE.vx (ve_n 1)) vr_nil)))))
  (vss_one (vs_retGe (vf_lst (va_cons (ve_mod (ve_t cb_int rc_int Z.n_int (va_cons (ve_b cb_max rc_max Z.n_max (va_cons (ve_sub (ve_n 2) (ve_pow ve_int ve_int)) (va_cons ve_int va_nil))) va_nil)) (ve_pow (ve_pow ve_int ve_int) ve_int)) (va_cons (ve_mod (ve_t cb_int rc_int Z.n_int (va_cons (ve_n 2) va_nil)) ve_int) (va_cons (ve_mul ve_int (ve_n 1)) va_nil)))))))⟩
theorem ok__law_generator (Z : Fax P w K mg base) : FnG P w K mg base 2 (He.ga K "_law_generator") (fdOf K "_law_generator") ps__law_generator (spV (gx K) (c__law_generator K) 2) :=
  fn_V Z.d__law_generator sc__law_generator (by decide) (by decide) (l__law_generator K) fun cdv A out s H E hcv hr hg => V__law_generator Z hcv hr hg
abbrev N__law_random : List Str := ["generator", "limit", "drawn", "turn"]
abbrev ps__law_random : List Str := ["generator", "limit"]
theorem nd__law_random : N__law_random.Nodup := by decide +kernel
theorem sc__law_random : FnScope N__law_random ps__law_random (defScope s__law_random) := ⟨rfl, rfl, rfl, nd__law_random, rfl, by decide +kernel, by decide +kernel⟩
theorem bi__law_random (Z : Fax P w K mg base) : Binds K (fdOf K "_law_random") ps__law_random [] := Z.d__law_random.bindsN fun _ _ _ _ _ _ us hl => match us, hl with | [_, _], _ => rfl
theorem bn__law_random (Z : Fax P w K mg base) : Bnd K (fdOf K "_law_random") ps__law_random 2 [] (fun us _ => us) (fun vs _ => vs) (fun as _ => as) := bnd_all (bi__law_random Z)
def b1__law_random (K : PySem.W.Frag) : WS := (wSeq (wGeSet' 0 (w2 fAdd (wGeIx 0 (wC (.int 2))) (wC (.int 1))) (wC (.int 2)))
  (wAsg (w2 fAdd (w2 fMul (wN 2) (wC (.int 2147483587))) (wD (wCall (c__law_hash K) (fun as _ => as) (rCons (xD (wGeIx 0 (wC (.int 1)))) (rCons (xD (wGeIx 0 (wC (.int 2)))) rNil)) rNil))) (gN 2)))
--MARK _law_random
abbrev w__law_random (K : PySem.W.Frag) : WS := (wSeq (wIf (wB (w2 (fIB fun i j => decide (j < i)) (wGeIx 0 (wC (.int 0))) (wC (.int 0)))) (wSeq (wAsg (w2 (fI (fun _ j => 0 < j) fun i j => i % j) (wCB fInt (wCons (wGeIx 0 (wC (.int 0))) wNil)) (wN 1)) (gN 2))
  (wSeq (wGeSet' 0 (w2 (fI CDiv' fun i j => i / j) (wGeIx 0 (wC (.int 0))) (wN 1)) (wC (.int 0)))
  (wRet (wN 2)))) wNext)
  (wSeq (wAsg (wC (.int 0)) (gN 2))
  (wSeq (wFor (wRng1 (wCons (w2 fAdd (wC (.int 1)) (w2 (fI CDiv' fun i j => i / j) (w1 fBits (wN 1)) (wC (.int 30)))) wNil)) (gN 3) (b1__law_random K))
  (wRet (w2 (fI (fun _ j => 0 < j) fun i j => i % j) (wCB fInt (wCons (wN 2) wNil)) (wN 1))))))
def c__law_random (K : PySem.W.Frag) : Ct := fun as n P _ => ∃ k : Int, as = [.ge, .da (.int k)] ∧ 0 < k ∧ Bt 1800 k ∧ 64 ≤ n ∧ ∀ (x : Int) m, 0 ≤ x → x < k → (m ≤ n ∧ n ≤ m + 64) → P (.da (.int x)) m
theorem lp__law_random (K : PySem.W.Frag) {k : Int} {n : Nat} (hn : 64 ≤ n) (A : EV) (X : XP) (hA : ∀ (dr : Int) s m, (m ≤ n ∧ n ≤ m + 61) → A.nx ⟨[.ge, .da (.int k), .da (.int dr), s], m⟩) : ∀ (ds : List PyData) (dr : Int) (s : Sl) (m : Nat), Bt (32 * (62 - ds.length)) dr → ds.length ≤ 61 → (m ≤ n ∧ n ≤ m + (61 - ds.length)) →
    loop (gN 3) (wSeq (wGeSet' 0 (w2 fAdd (wGeIx 0 (wC (.int 2))) (wC (.int 1))) (wC (.int 2)))
      (wAsg (w2 fAdd (w2 fMul (wN 2) (wC (.int 2147483587))) (wD (wCall (c__law_hash K) (fun as _ => as) (rCons (xD (wGeIx 0 (wC (.int 1)))) (rCons (xD (wGeIx 0 (wC (.int 2)))) rNil)) rNil))) (gN 2))) A X ds ⟨[.ge, .da (.int k), .da (.int dr), s], m⟩ := by
  intro ds
  induction ds with
  | nil => intro dr s m _ _ h; exact hA dr s m h
  | cons d ds ih =>
    intro dr s m hb hl hm
    simp only [loop]
    rw [List.length_cons] at hb hl hm
    simp only [wC, wN, w2, w1, fI, fI0, fIB, wSeq, wNext, wRet, wRetN, wDrop, wIf, wAsg, gN, gT, gMore, gNone, wB, wNot, wAnd, wOr, wAndV, wOrV, wNotV, wIfE, wChain, wNil, wCons, wTup, wLst, wCB, wD, xD, xN, xOp, rNil, rCons, wCall, wSeqI, wRng1, wFor, wSqLen, wSqIx, wSqSl, wNo, wPart, wGeIx, wGeSet', wSetX, wRetGe, wRetX, wPar, wErNN, wErIs, wErVal, wRaise, wRef, wYes, wIsi, fIsi, fIsi2, fInt, fLen, fSum, fAll, fMax, fMin, fIx, fAdd, fMul, fBits, fEq, fNe, fIsN, fIsB, fNotN, fRepr, En.set, En.wipe, Ar.sl, entry, outA, List.map_cons, List.map_nil, List.cons_append, List.nil_append, List.append_nil, List.length_cons, List.length_nil, List.replicate, List.getElem?_cons_zero, List.getElem?_cons_succ, List.set_cons_zero, List.set_cons_succ, Nat.reduceAdd, Nat.reduceSub]
    refine ⟨trivial, fun a b c g => ⟨by have := g.2.2.2.2.1; omega, m - 1, by omega, by have := g.2.2.2.2.2; omega, ?_⟩⟩
    refine ⟨hb.cm (Bt.of (k := 31) (by decide) (by decide)) (by omega), trivial, fun a b c g => ⟨trivial, fun a' b' c' g' => ?_⟩⟩
    refine ⟨b, c', rfl, ⟨g.2.2.1, g.2.2.2.1⟩, ⟨g'.2.2.2.2.1, by have := g'.2.2.2.2.2; omega⟩, fun v h1 h2 => ?_⟩
    simp only [wC, wN, w2, w1, fI, fI0, fIB, wSeq, wNext, wRet, wRetN, wDrop, wIf, wAsg, gN, gT, gMore, gNone, wB, wNot, wAnd, wOr, wAndV, wOrV, wNotV, wIfE, wChain, wNil, wCons, wTup, wLst, wCB, wD, xD, xN, xOp, rNil, rCons, wCall, wSeqI, wRng1, wFor, wSqLen, wSqIx, wSqSl, wNo, wPart, wGeIx, wGeSet', wSetX, wRetGe, wRetX, wPar, wErNN, wErIs, wErVal, wRaise, wRef, wYes, wIsi, fIsi, fIsi2, fInt, fLen, fSum, fAll, fMax, fMin, fIx, fAdd, fMul, fBits, fEq, fNe, fIsN, fIsB, fNotN, fRepr, En.set, En.wipe, Ar.sl, entry, outA, List.map_cons, List.map_nil, List.cons_append, List.nil_append, List.append_nil, List.length_cons, List.length_nil, List.replicate, List.getElem?_cons_zero, List.getElem?_cons_succ, List.set_cons_zero, List.set_cons_succ, Nat.reduceAdd, Nat.reduceSub]
    refine ih _ _ _ ?_ (by omega) (by omega)
    have b1 := hb.mul (Bt.of (x := 2147483587) (k := 31) (by decide) (by decide))
    exact (b1.add ((Bt.of (x := v) (k := 31) (by omega) (by omega)).mono (by omega))).mono (by omega)
theorem l__law_random (K : PySem.W.Frag) : ∀ as n P X, c__law_random K as n P X → as.length = ps__law_random.length → w__law_random K (outA P) X (entry N__law_random as n) := by
  rintro as n P X ⟨k, rfl, h0, hk, hn, h⟩ -
  have hd : ∀ a : Int, CDiv' a k := fun a => ⟨h0, by have := (Nat.log2_lt (by omega : k.natAbs ≠ 0)).mpr hk.un; omega⟩
  have hbits := hk.bits
  simp only [wC, wN, w2, w1, fI, fI0, fIB, wSeq, wNext, wRet, wRetN, wDrop, wIf, wAsg, gN, gT, gMore, gNone, wB, wNot, wAnd, wOr, wAndV, wOrV, wNotV, wIfE, wChain, wNil, wCons, wTup, wLst, wCB, wD, xD, xN, xOp, rNil, rCons, wCall, wSeqI, wRng1, wFor, wSqLen, wSqIx, wSqSl, wNo, wPart, wGeIx, wGeSet', wSetX, wRetGe, wRetX, wPar, wErNN, wErIs, wErVal, wRaise, wRef, wYes, wIsi, fIsi, fIsi2, fInt, fLen, fSum, fAll, fMax, fMin, fIx, fAdd, fMul, fBits, fEq, fNe, fIsN, fIsB, fNotN, fRepr, En.set, En.wipe, Ar.sl, entry, outA, List.map_cons, List.map_nil, List.cons_append, List.nil_append, List.append_nil, List.length_cons, List.length_nil, List.replicate, List.getElem?_cons_zero, List.getElem?_cons_succ, List.set_cons_zero, List.set_cons_succ, Nat.reduceAdd, Nat.reduceSub]
  refine ⟨trivial, fun a b c g => ⟨fun ha => ⟨trivial, fun a b c g => ⟨h0, trivial, fun a' b' c' g' => ⟨hd _, Int.ediv_nonneg g'.1 (by omega), ?_, h _ _ (Int.emod_nonneg _ (by omega)) (Int.emod_lt_of_pos _ h0) (by omega)⟩⟩⟩, fun _ => ⟨⟨by decide, by decide +kernel⟩, ⟨by omega, by omega⟩, ?_⟩⟩⟩
  · have := Int.ediv_le_self k g'.1
    exact Int.lt_of_le_of_lt this g'.2.1
  · refine lp__law_random K hn _ _ (fun dr s m hm => ?_) _ _ _ _ .zero ?_ ?_
    · simp only [wC, wN, w2, w1, fI, fI0, fIB, wSeq, wNext, wRet, wRetN, wDrop, wIf, wAsg, gN, gT, gMore, gNone, wB, wNot, wAnd, wOr, wAndV, wOrV, wNotV, wIfE, wChain, wNil, wCons, wTup, wLst, wCB, wD, xD, xN, xOp, rNil, rCons, wCall, wSeqI, wRng1, wFor, wSqLen, wSqIx, wSqSl, wNo, wPart, wGeIx, wGeSet', wSetX, wRetGe, wRetX, wPar, wErNN, wErIs, wErVal, wRaise, wRef, wYes, wIsi, fIsi, fIsi2, fInt, fLen, fSum, fAll, fMax, fMin, fIx, fAdd, fMul, fBits, fEq, fNe, fIsN, fIsB, fNotN, fRepr, En.set, En.wipe, Ar.sl, entry, outA, List.map_cons, List.map_nil, List.cons_append, List.nil_append, List.append_nil, List.length_cons, List.length_nil, List.replicate, List.getElem?_cons_zero, List.getElem?_cons_succ, List.set_cons_zero, List.set_cons_succ, Nat.reduceAdd, Nat.reduceSub]
      exact ⟨h0, h _ _ (Int.emod_nonneg _ (by omega)) (Int.emod_lt_of_pos _ h0) (by omega)⟩
    · rw [rng, List.length_map, List.length_range]; omega
    · omega

theorem V__law_random (Z : Fax P w K mg base) {cdv : Value} {A : Around} {out : List Env} {s : Shared} {H : Hp} {E : XK} (hcv : CodeOf K (He.ga K "_law_random") "_law_random" cdv) (hr : Room 1 (A.deeper (envOfC "_law_random" (defScope s__law_random) s.heap.objs.size (He.ga K "_law_random") cdv))) (hg : (A.deeper (envOfC "_law_random" (defScope s__law_random) s.heap.objs.size (He.ga K "_law_random") cdv)).guards = some []) :
    ∃ ts, VSs (gx K) (cxOf (L2.CX P w) P w K mg base N__law_random "_law_random" (defScope s__law_random) (He.ga K "_law_random") cdv A out s H E) E (defBody s__law_random) ts (w__law_random K) := by
  have tk : Takes (cxOf (L2.CX P w) P w K mg base N__law_random "_law_random" (defScope s__law_random) (He.ga K "_law_random") cdv A out s H E) (fun c d _ H => E c d H) := takes_of rfl rfl rfl rfl
  exact ⟨_,
  (vss_cons
    (vs_if (vt_c cv_gt (ve_geIx 0 ve_int) ve_int (by first | exact nomark _ | rfl | with_unfolding_all rfl)) (vss_cons
    (vs_set 2 nd__law_random (ve_mod (ve_t cb_int rc_int Z.n_int (va_cons (ve_geIx 0 ve_int) va_nil)) (ve_n 1)))
  (vss_cons
    (vs_geSet 0 (ve_fdiv (ve_geIx 0 ve_int) (ve_n 1)) ve_int)
  (vss_one (vs_ret (ve_n 2))))) vss_nil)
  (vss_cons
    (vs_set 2 nd__law_random ve_int)
  (vss_cons
    (vs_for (by exact passes_of rfl) (vi_rng1 (va_cons (ve_add ve_int (ve_fdiv (ve_bits (ve_n 1)) ve_int)) va_nil) Z.n_range) (vg_n 3 nd__law_random) (vss_cons
    (vs_geSet 0 (ve_add (ve_geIx 0 ve_int) ve_int) ve_int)
  (vss_one (vs_set 2 nd__law_random (ve_add (ve_mul (ve_n 2) ve_int) (VX.ve (vx_call (ok__law_hash Z) (bn__law_hash Z) Z.g__law_hash Z.d__law_hash.kp (hr.mono (by decide)) hg tk (vr_cons (VE.vx (ve_geIx 0 ve_int)) (vr_cons (VE.vx (ve_geIx 0 ve_int)) vr_nil)))))))))
  (vss_one (vs_ret (ve_mod (ve_t cb_int rc_int Z.n_int (va_cons (ve_n 2) va_nil)) (ve_n 1)))))))⟩
theorem ok__law_random (Z : Fax P w K mg base) : FnG P w K mg base 2 (He.ga K "_law_random") (fdOf K "_law_random") ps__law_random (spV (gx K) (c__law_random K) 2) :=
  fn_V Z.d__law_random sc__law_random (by decide) (by decide) (l__law_random K) fun cdv A out s H E hcv hr hg => V__law_random Z hcv hr hg
abbrev N__law_between : List Str := ["generator", "low", "high"]
abbrev ps__law_between : List Str := ["generator", "low", "high"]
theorem nd__law_between : N__law_between.Nodup := by decide +kernel
theorem sc__law_between : FnScope N__law_between ps__law_between (defScope s__law_between) := ⟨rfl, rfl, rfl, nd__law_between, rfl, by decide +kernel, by decide +kernel⟩
theorem bi__law_between (Z : Fax P w K mg base) : Binds K (fdOf K "_law_between") ps__law_between [] := Z.d__law_between.bindsN fun _ _ _ _ _ _ us hl => match us, hl with | [_, _, _], _ => rfl
theorem bn__law_between (Z : Fax P w K mg base) : Bnd K (fdOf K "_law_between") ps__law_between 3 [] (fun us _ => us) (fun vs _ => vs) (fun as _ => as) := bnd_all (bi__law_between Z)
--MARK _law_between
abbrev w__law_between (K : PySem.W.Frag) : WS := (wRet (w2 fAdd (wN 1) (wD (wCall (c__law_random K) (fun as _ => as) (rCons (xN 0) (rCons (xD (w2 fAdd (w2 (fI0 fun i j => i - j) (wN 2) (wN 1)) (wC (.int 1)))) rNil)) rNil))))
def c__law_between (K : PySem.W.Frag) : Ct := fun as n P _ => ∃ a b : Int, as = [.ge, .da (.int a), .da (.int b)] ∧ a ≤ b ∧ Bt 1800 (b - a + 1) ∧ 64 ≤ n ∧ ∀ (x : Int) m, a ≤ x → x ≤ b → (m ≤ n ∧ n ≤ m + 64) → P (.da (.int x)) m
theorem l__law_between (K : PySem.W.Frag) : ∀ as n P X, c__law_between K as n P X → as.length = ps__law_between.length → w__law_between K (outA P) X (entry N__law_between as n) := by
  rintro as n P X ⟨a, b, rfl, hab, hk, hn, h⟩ -
  simp only [wC, wN, w2, w1, fI, fI0, fIB, wSeq, wNext, wRet, wRetN, wDrop, wIf, wAsg, gN, gT, gMore, gNone, wB, wNot, wAnd, wOr, wAndV, wOrV, wNotV, wIfE, wChain, wNil, wCons, wTup, wLst, wCB, wD, xD, xN, xOp, rNil, rCons, wCall, wSeqI, wRng1, wFor, wSqLen, wSqIx, wSqSl, wNo, wPart, wGeIx, wGeSet', wSetX, wRetGe, wRetX, wPar, wErNN, wErIs, wErVal, wRaise, wRef, wYes, wIsi, fIsi, fIsi2, fInt, fLen, fSum, fAll, fMax, fMin, fIx, fAdd, fMul, fBits, fEq, fNe, fIsN, fIsB, fNotN, fRepr, En.set, En.wipe, Ar.sl, entry, outA, List.map_cons, List.map_nil, List.cons_append, List.nil_append, List.append_nil, List.length_cons, List.length_nil, List.replicate, List.getElem?_cons_zero, List.getElem?_cons_succ, List.set_cons_zero, List.set_cons_succ, Nat.reduceAdd, Nat.reduceSub]
  refine ⟨_, rfl, by omega, hk, hn, fun x m h1 h2 h3 => ?_⟩
  simp only [wC, wN, w2, w1, fI, fI0, fIB, wSeq, wNext, wRet, wRetN, wDrop, wIf, wAsg, gN, gT, gMore, gNone, wB, wNot, wAnd, wOr, wAndV, wOrV, wNotV, wIfE, wChain, wNil, wCons, wTup, wLst, wCB, wD, xD, xN, xOp, rNil, rCons, wCall, wSeqI, wRng1, wFor, wSqLen, wSqIx, wSqSl, wNo, wPart, wGeIx, wGeSet', wSetX, wRetGe, wRetX, wPar, wErNN, wErIs, wErVal, wRaise, wRef, wYes, wIsi, fIsi, fIsi2, fInt, fLen, fSum, fAll, fMax, fMin, fIx, fAdd, fMul, fBits, fEq, fNe, fIsN, fIsB, fNotN, fRepr, En.set, En.wipe, Ar.sl, entry, outA, List.map_cons, List.map_nil, List.cons_append, List.nil_append, List.append_nil, List.length_cons, List.length_nil, List.replicate, List.getElem?_cons_zero, List.getElem?_cons_succ, List.set_cons_zero, List.set_cons_succ, Nat.reduceAdd, Nat.reduceSub]
  exact h _ _ (by omega) (by omega) h3

theorem V__law_between (Z : Fax P w K mg base) {cdv : Value} {A : Around} {out : List Env} {s : Shared} {H : Hp} {E : XK} (hcv : CodeOf K (He.ga K "_law_between") "_law_between" cdv) (hr : Room 2 (A.deeper (envOfC "_law_between" (defScope s__law_between) s.heap.objs.size (He.ga K "_law_between") cdv))) (hg : (A.deeper (envOfC "_law_between" (defScope s__law_between) s.heap.objs.size (He.ga K "_law_between") cdv)).guards = some []) :
    ∃ ts, VSs (gx K) (cxOf (L2.CX P w) P w K mg base N__law_between "_law_between" (defScope s__law_between) (He.ga K "_law_between") cdv A out s H E) E (defBody s__law_between) ts (w__law_between K) := by
  have tk : Takes (cxOf (L2.CX P w) P w K mg base N__law_between "_law_between" (defScope s__law_between) (He.ga K "_law_between") cdv A out s H E) (fun c d _ H => E c d H) := takes_of rfl rfl rfl rfl
  exact ⟨_,
  (vss_one (vs_ret (ve_add (ve_n 1) (VX.ve (vx_call (ok__law_random Z) (bn__law_random Z) Z.g__law_random Z.d__law_random.kp (hr.mono (by decide)) hg tk (vr_cons (vx_n 0) (vr_cons (VE.vx (ve_add (ve_sub (ve_n 2) (ve_n 1)) ve_int)) vr_nil)))))))⟩
theorem ok__law_between (Z : Fax P w K mg base) : FnG P w K mg base 3 (He.ga K "_law_between") (fdOf K "_law_between") ps__law_between (spV (gx K) (c__law_between K) 3) :=
  fn_V Z.d__law_between sc__law_between (by decide) (by decide) (l__law_between K) fun cdv A out s H E hcv hr hg => V__law_between Z hcv hr hg
abbrev N__law_pick : List Str := ["generator", "items"]
abbrev ps__law_pick : List Str := ["generator", "items"]
theorem nd__law_pick : N__law_pick.Nodup := by decide +kernel
theorem sc__law_pick : FnScope N__law_pick ps__law_pick (defScope s__law_pick) := ⟨rfl, rfl, rfl, nd__law_pick, rfl, by decide +kernel, by decide +kernel⟩
theorem bi__law_pick (Z : Fax P w K mg base) : Binds K (fdOf K "_law_pick") ps__law_pick [] := Z.d__law_pick.bindsN fun _ _ _ _ _ _ us hl => match us, hl with | [_, _], _ => rfl
theorem bn__law_pick (Z : Fax P w K mg base) : Bnd K (fdOf K "_law_pick") ps__law_pick 2 [] (fun us _ => us) (fun vs _ => vs) (fun as _ => as) := bnd_all (bi__law_pick Z)
--MARK _law_pick
abbrev w__law_pick (K : PySem.W.Frag) : WS := (wRet (w2 fIx (wN 1) (wD (wCall (c__law_random K) (fun as _ => as) (rCons (xN 0) (rCons (xD (wCB fLen (wCons (wN 1) wNil))) rNil)) rNil))))
def c__law_pick (K : PySem.W.Frag) : Ct := fun as n P _ => ∃ ds, (as = [.ge, .da (.list ds)] ∨ as = [.ge, .da (.tuple ds)]) ∧ 0 < ds.length ∧ ds.length < 2 ^ 60 ∧ 64 ≤ n ∧ ∀ d m, d ∈ ds → (m ≤ n ∧ n ≤ m + 64) → P (.da d) m
theorem l__law_pick (K : PySem.W.Frag) : ∀ as n P X, c__law_pick K as n P X → as.length = ps__law_pick.length → w__law_pick K (outA P) X (entry N__law_pick as n) := by
  rintro as n P X ⟨ds, rfl | rfl, h0, hl, hn, h⟩ -
  all_goals
    simp only [wC, wN, w2, w1, fI, fI0, fIB, wSeq, wNext, wRet, wRetN, wDrop, wIf, wAsg, gN, gT, gMore, gNone, wB, wNot, wAnd, wOr, wAndV, wOrV, wNotV, wIfE, wChain, wNil, wCons, wTup, wLst, wCB, wD, xD, xN, xOp, rNil, rCons, wCall, wSeqI, wRng1, wFor, wSqLen, wSqIx, wSqSl, wNo, wPart, wGeIx, wGeSet', wSetX, wRetGe, wRetX, wPar, wErNN, wErIs, wErVal, wRaise, wRef, wYes, wIsi, fIsi, fIsi2, fInt, fLen, fSum, fAll, fMax, fMin, fIx, fAdd, fMul, fBits, fEq, fNe, fIsN, fIsB, fNotN, fRepr, En.set, En.wipe, Ar.sl, entry, outA, List.map_cons, List.map_nil, List.cons_append, List.nil_append, List.append_nil, List.length_cons, List.length_nil, List.replicate, List.getElem?_cons_zero, List.getElem?_cons_succ, List.set_cons_zero, List.set_cons_succ, Nat.reduceAdd, Nat.reduceSub]
    refine ⟨_, rfl, by omega, (Bt.nn (k := 60) (by omega) (by exact_mod_cast hl)).mono (by decide), hn, fun x m h1 h2 h3 => ?_⟩
    simp only [wC, wN, w2, w1, fI, fI0, fIB, wSeq, wNext, wRet, wRetN, wDrop, wIf, wAsg, gN, gT, gMore, gNone, wB, wNot, wAnd, wOr, wAndV, wOrV, wNotV, wIfE, wChain, wNil, wCons, wTup, wLst, wCB, wD, xD, xN, xOp, rNil, rCons, wCall, wSeqI, wRng1, wFor, wSqLen, wSqIx, wSqSl, wNo, wPart, wGeIx, wGeSet', wSetX, wRetGe, wRetX, wPar, wErNN, wErIs, wErVal, wRaise, wRef, wYes, wIsi, fIsi, fIsi2, fInt, fLen, fSum, fAll, fMax, fMin, fIx, fAdd, fMul, fBits, fEq, fNe, fIsN, fIsB, fNotN, fRepr, En.set, En.wipe, Ar.sl, entry, outA, List.map_cons, List.map_nil, List.cons_append, List.nil_append, List.append_nil, List.length_cons, List.length_nil, List.replicate, List.getElem?_cons_zero, List.getElem?_cons_succ, List.set_cons_zero, List.set_cons_succ, Nat.reduceAdd, Nat.reduceSub]
    obtain ⟨z, hz, e⟩ := atI_lt h1 h2
    exact ⟨z, e, h _ _ hz h3⟩

theorem V__law_pick (Z : Fax P w K mg base) {cdv : Value} {A : Around} {out : List Env} {s : Shared} {H : Hp} {E : XK} (hcv : CodeOf K (He.ga K "_law_pick") "_law_pick" cdv) (hr : Room 2 (A.deeper (envOfC "_law_pick" (defScope s__law_pick) s.heap.objs.size (He.ga K "_law_pick") cdv))) (hg : (A.deeper (envOfC "_law_pick" (defScope s__law_pick) s.heap.objs.size (He.ga K "_law_pick") cdv)).guards = some []) :
    ∃ ts, VSs (gx K) (cxOf (L2.CX P w) P w K mg base N__law_pick "_law_pick" (defScope s__law_pick) (He.ga K "_law_pick") cdv A out s H E) E (defBody s__law_pick) ts (w__law_pick K) := by
  have tk : Takes (cxOf (L2.CX P w) P w K mg base N__law_pick "_law_pick" (defScope s__law_pick) (He.ga K "_law_pick") cdv A out s H E) (fun c d _ H => E c d H) := takes_of rfl rfl rfl rfl
  exact ⟨_,
  (vss_one (vs_ret (ve_ix (ve_n 1) (VX.ve (vx_call (ok__law_random Z) (bn__law_random Z) Z.g__law_random Z.d__law_random.kp (hr.mono (by decide)) hg tk (vr_cons (vx_n 0) (vr_cons (VE.vx (ve_b cb_len rc_len Z.n_len (va_cons (ve_n 1) va_nil))) vr_nil)))))))⟩
theorem ok__law_pick (Z : Fax P w K mg base) : FnG P w K mg base 3 (He.ga K "_law_pick") (fdOf K "_law_pick") ps__law_pick (spV (gx K) (c__law_pick K) 2) :=
  fn_V Z.d__law_pick sc__law_pick (by decide) (by decide) (l__law_pick K) fun cdv A out s H E hcv hr hg => V__law_pick Z hcv hr hg
abbrev N__law_exact : List Str := ["due", "told", "at"]
abbrev ps__law_exact : List Str := ["due", "told"]
theorem nd__law_exact : N__law_exact.Nodup := by decide +kernel
theorem sc__law_exact : FnScope N__law_exact ps__law_exact (defScope s__law_exact) := ⟨rfl, rfl, rfl, nd__law_exact, rfl, by decide +kernel, by decide +kernel⟩
theorem bi__law_exact (Z : Fax P w K mg base) : Binds K (fdOf K "_law_exact") ps__law_exact [] := Z.d__law_exact.bindsN fun _ _ _ _ _ _ us hl => match us, hl with | [_, _], _ => rfl
theorem bn__law_exact (Z : Fax P w K mg base) : Bnd K (fdOf K "_law_exact") ps__law_exact 2 [] (fun us _ => us) (fun vs _ => vs) (fun as _ => as) := bnd_all (bi__law_exact Z)
--MARK _law_exact
abbrev w__law_exact (K : PySem.W.Frag) (c : Ct) : WS := (wSeq (wIf (wB (w1 (fIsi2 "list" "tuple") (wN 0))) (wSeq (wIf (wOr (wB (w2 fNe (wIsi "list" (wN 0)) (wIsi "list" (wN 1)))) (wB (w2 fNe (wIsi "tuple" (wN 0)) (wIsi "tuple" (wN 1))))) (wRet (wC (.bool false))) wNext)
  (wRet (wAndV (w2 fEq (wCB fLen (wCons (wN 1) wNil)) (wCB fLen (wCons (wN 0) wNil))) (wCB fAll (wCons (wLst (wLc [2] (wRng1 (wCons (wCB fLen (wCons (wN 0) wNil)) wNil)) (gN 2) wYes (wD (wCall c (fun as _ => as) (rCons (xD (w2 fIx (wN 0) (wN 2))) (rCons (xD (w2 fIx (wN 1) (wN 2))) rNil)) rNil)))) wNil))))) wNext)
  (wSeq (wIf (wB (w2 fIsN (wN 0) (wC .none))) (wRet (w2 fIsN (wN 1) (wC .none))) wNext)
  (wSeq (wIf (wB (wIsi "bool" (wN 0))) (wRet (wIfE (wB (wN 0)) (w2 fIsB (wN 1) (wC (.bool true))) (w2 fIsB (wN 1) (wC (.bool false))))) wNext)
  (wSeq (wIf (wB (wIsi "str" (wN 0))) (wRet (wAndV (wIsi "str" (wN 1)) (w2 fEq (wN 1) (wN 0)))) wNext)
  (wRet (wAndV (wIsi "int" (wN 1)) (wAndV (wNotV (wIsi "bool" (wN 1))) (w2 fEq (wN 1) (wN 0)))))))))
def cr__law_exact (K : PySem.W.Frag) (k : Nat) : Ct := fun as n P _ => ∃ d, as = [.da d, .da d] ∧ exOk k d = true ∧ P (.da (.bool true)) n
def c__law_exact (K : PySem.W.Frag) : Ct := cr__law_exact K 40
theorem cr0__law_exact (K : PySem.W.Frag) : ∀ as n P X, cr__law_exact K 0 as n P X → False := by
  rintro as n P X ⟨d, _, h, _⟩
  cases h
theorem ci__law_exact (K : PySem.W.Frag) : ∀ as n P X, c__law_exact K as n P X → cr__law_exact K 40 as n P X := fun _ _ _ _ h => h
theorem lp__law_exact (K : PySem.W.Frag) {k : Nat} {D : PyData} {n : Nat} {ds : List PyData} (hD : D = .list ds ∨ D = .tuple ds) (h : ds.all (exOk k) = true) (X : XP) (P : List PyData → En → Prop) (hP : ∀ s, P (List.replicate ds.length (.bool true)) ⟨[.da D, .da D, s], n⟩) :
    ∀ (js : List PyData) (j : Nat) s, (∀ d ∈ js, ∃ i : Nat, d = .int i ∧ i < ds.length) → j + js.length = ds.length →
      lcLoop [2] (gN 2) wYes (wD (wCall (cr__law_exact K k) (fun as _ => as) (rCons (xD (w2 fIx (wN 0) (wN 2))) (rCons (xD (w2 fIx (wN 1) (wN 2))) rNil)) rNil)) P X js (List.replicate j (.bool true)) ⟨[.da D, .da D, s], n⟩ := by
  intro js
  induction js with
  | nil =>
    intro j s _ hj
    simp only [List.length_nil, Nat.add_zero] at hj
    subst hj
    exact hP s
  | cons d js ih =>
    intro j s hd hj
    obtain ⟨i, rfl, hi⟩ := hd d (List.mem_cons_self ..)
    obtain ⟨z, hz, e⟩ := atI_lt (xs := ds) (i := (i : Int)) (by omega) (by exact_mod_cast hi)
    simp only [lcLoop]
    rcases hD with rfl | rfl
    all_goals
      simp only [wC, wN, w2, w1, fI, fI0, fIB, wSeq, wNext, wRet, wRetN, wDrop, wIf, wAsg, gN, gT, gMore, gNone, wB, wNot, wAnd, wOr, wAndV, wOrV, wNotV, wIfE, wChain, wNil, wCons, wTup, wLst, wCB, wD, xD, xN, xOp, rNil, rCons, wCall, wSeqI, wRng1, wFor, wSqLen, wSqIx, wSqSl, wNo, wPart, wGeIx, wGeSet', wSetX, wRetGe, wRetX, wPar, wErNN, wErIs, wErVal, wRaise, wRef, wYes, wIsi, fIsi, fIsi2, fInt, fLen, fSum, fAll, fMax, fMin, fIx, fAdd, fMul, fBits, fEq, fNe, fIsN, fIsB, fNotN, fRepr, En.set, En.wipe, Ar.sl, entry, outA, List.map_cons, List.map_nil, List.cons_append, List.nil_append, List.append_nil, List.length_cons, List.length_nil, List.replicate, List.getElem?_cons_zero, List.getElem?_cons_succ, List.set_cons_zero, List.set_cons_succ, Nat.reduceAdd, Nat.reduceSub]
      refine ⟨fun _ => ⟨z, e, z, e, z, rfl, List.all_eq_true.mp h z hz, ?_⟩, fun q => nomatch q⟩
      simp only [En.wipe, List.foldr_cons, List.foldr_nil, List.set_cons_zero, List.set_cons_succ]
      have e2 : List.replicate j (PyData.bool true) ++ [PyData.bool true] = List.replicate (j + 1) (.bool true) := List.replicate_succ'.symm
      rw [e2]
      exact ih (j + 1) _ (fun d hd' => hd d (List.mem_cons_of_mem _ hd')) (by rw [List.length_cons] at hj; omega)
theorem rng_ix {m : Nat} : ∀ d ∈ rng 0 m, ∃ i : Nat, d = .int i ∧ i < m := by
  intro d hd
  obtain ⟨i, hi, rfl⟩ := List.mem_map.mp hd
  exact ⟨i, by rw [Int.zero_add], List.mem_range.mp hi⟩
theorem l__law_exact (K : PySem.W.Frag) (k : Nat) : ∀ as n P X, cr__law_exact K (k + 1) as n P X → as.length = ps__law_exact.length → w__law_exact K (cr__law_exact K k) (outA P) X (entry N__law_exact as n) := by
  rintro as n P X ⟨d, rfl, hd, h⟩ -
  cases d with
  | list ds =>
    obtain ⟨h1, h2⟩ := Bool.and_eq_true_iff.mp hd
    have h2' := of_decide_eq_true h2
    simp only [wC, wN, w2, w1, fI, fI0, fIB, wSeq, wNext, wRet, wRetN, wDrop, wIf, wAsg, gN, gT, gMore, gNone, wB, wNot, wAnd, wOr, wAndV, wOrV, wNotV, wIfE, wChain, wNil, wCons, wTup, wLst, wCB, wD, xD, xN, xOp, rNil, rCons, wCall, wSeqI, wRng1, wFor, wSqLen, wSqIx, wSqSl, wNo, wPart, wGeIx, wGeSet', wSetX, wRetGe, wRetX, wPar, wErNN, wErIs, wErVal, wRaise, wRef, wYes, wIsi, fIsi, fIsi2, fInt, fLen, fSum, fAll, fMax, fMin, fIx, fAdd, fMul, fBits, fEq, fNe, fIsN, fIsB, fNotN, fRepr, En.set, En.wipe, Ar.sl, entry, outA, List.map_cons, List.map_nil, List.cons_append, List.nil_append, List.append_nil, List.length_cons, List.length_nil, List.replicate, List.getElem?_cons_zero, List.getElem?_cons_succ, List.set_cons_zero, List.set_cons_succ, Nat.reduceAdd, Nat.reduceSub]
    simp [eqOk_int, eqOkL_int, eqv_int, eqOk_bool, eqOkL_bool, eqv_bool]
    unfold wLc
    simp only [wC, wN, w2, w1, fI, fI0, fIB, wSeq, wNext, wRet, wRetN, wDrop, wIf, wAsg, gN, gT, gMore, gNone, wB, wNot, wAnd, wOr, wAndV, wOrV, wNotV, wIfE, wChain, wNil, wCons, wTup, wLst, wCB, wD, xD, xN, xOp, rNil, rCons, wCall, wSeqI, wRng1, wFor, wSqLen, wSqIx, wSqSl, wNo, wPart, wGeIx, wGeSet', wSetX, wRetGe, wRetX, wPar, wErNN, wErIs, wErVal, wRaise, wRef, wYes, wIsi, fIsi, fIsi2, fInt, fLen, fSum, fAll, fMax, fMin, fIx, fAdd, fMul, fBits, fEq, fNe, fIsN, fIsB, fNotN, fRepr, En.set, En.wipe, Ar.sl, entry, outA, List.map_cons, List.map_nil, List.cons_append, List.nil_append, List.append_nil, List.length_cons, List.length_nil, List.replicate, List.getElem?_cons_zero, List.getElem?_cons_succ, List.set_cons_zero, List.set_cons_succ, Nat.reduceAdd, Nat.reduceSub]
    refine ⟨⟨by omega, by omega⟩, by rw [rng, List.length_map, List.length_range]; omega, ?_⟩
    refine lp__law_exact K (Or.inl rfl) h1 X00 _ (fun s => ⟨List.replicate ds.length true, (List.map_replicate ..).symm, by rw [all_rep]; exact h⟩) _ 0 _ rng_ix (by rw [rng, List.length_map, List.length_range]; omega)
  | tuple ds =>
    obtain ⟨h1, h2⟩ := Bool.and_eq_true_iff.mp hd
    have h2' := of_decide_eq_true h2
    simp only [wC, wN, w2, w1, fI, fI0, fIB, wSeq, wNext, wRet, wRetN, wDrop, wIf, wAsg, gN, gT, gMore, gNone, wB, wNot, wAnd, wOr, wAndV, wOrV, wNotV, wIfE, wChain, wNil, wCons, wTup, wLst, wCB, wD, xD, xN, xOp, rNil, rCons, wCall, wSeqI, wRng1, wFor, wSqLen, wSqIx, wSqSl, wNo, wPart, wGeIx, wGeSet', wSetX, wRetGe, wRetX, wPar, wErNN, wErIs, wErVal, wRaise, wRef, wYes, wIsi, fIsi, fIsi2, fInt, fLen, fSum, fAll, fMax, fMin, fIx, fAdd, fMul, fBits, fEq, fNe, fIsN, fIsB, fNotN, fRepr, En.set, En.wipe, Ar.sl, entry, outA, List.map_cons, List.map_nil, List.cons_append, List.nil_append, List.append_nil, List.length_cons, List.length_nil, List.replicate, List.getElem?_cons_zero, List.getElem?_cons_succ, List.set_cons_zero, List.set_cons_succ, Nat.reduceAdd, Nat.reduceSub]
    simp [eqOk_int, eqOkL_int, eqv_int, eqOk_bool, eqOkL_bool, eqv_bool]
    unfold wLc
    simp only [wC, wN, w2, w1, fI, fI0, fIB, wSeq, wNext, wRet, wRetN, wDrop, wIf, wAsg, gN, gT, gMore, gNone, wB, wNot, wAnd, wOr, wAndV, wOrV, wNotV, wIfE, wChain, wNil, wCons, wTup, wLst, wCB, wD, xD, xN, xOp, rNil, rCons, wCall, wSeqI, wRng1, wFor, wSqLen, wSqIx, wSqSl, wNo, wPart, wGeIx, wGeSet', wSetX, wRetGe, wRetX, wPar, wErNN, wErIs, wErVal, wRaise, wRef, wYes, wIsi, fIsi, fIsi2, fInt, fLen, fSum, fAll, fMax, fMin, fIx, fAdd, fMul, fBits, fEq, fNe, fIsN, fIsB, fNotN, fRepr, En.set, En.wipe, Ar.sl, entry, outA, List.map_cons, List.map_nil, List.cons_append, List.nil_append, List.append_nil, List.length_cons, List.length_nil, List.replicate, List.getElem?_cons_zero, List.getElem?_cons_succ, List.set_cons_zero, List.set_cons_succ, Nat.reduceAdd, Nat.reduceSub]
    refine ⟨⟨by omega, by omega⟩, by rw [rng, List.length_map, List.length_range]; omega, ?_⟩
    refine lp__law_exact K (Or.inr rfl) h1 X00 _ (fun s => ⟨List.replicate ds.length true, (List.map_replicate ..).symm, by rw [all_rep]; exact h⟩) _ 0 _ rng_ix (by rw [rng, List.length_map, List.length_range]; omega)
  | none => simp only [wC, wN, w2, w1, fI, fI0, fIB, wSeq, wNext, wRet, wRetN, wDrop, wIf, wAsg, gN, gT, gMore, gNone, wB, wNot, wAnd, wOr, wAndV, wOrV, wNotV, wIfE, wChain, wNil, wCons, wTup, wLst, wCB, wD, xD, xN, xOp, rNil, rCons, wCall, wSeqI, wRng1, wFor, wSqLen, wSqIx, wSqSl, wNo, wPart, wGeIx, wGeSet', wSetX, wRetGe, wRetX, wPar, wErNN, wErIs, wErVal, wRaise, wRef, wYes, wIsi, fIsi, fIsi2, fInt, fLen, fSum, fAll, fMax, fMin, fIx, fAdd, fMul, fBits, fEq, fNe, fIsN, fIsB, fNotN, fRepr, En.set, En.wipe, Ar.sl, entry, outA, List.map_cons, List.map_nil, List.cons_append, List.nil_append, List.append_nil, List.length_cons, List.length_nil, List.replicate, List.getElem?_cons_zero, List.getElem?_cons_succ, List.set_cons_zero, List.set_cons_succ, Nat.reduceAdd, Nat.reduceSub]; simp [eqOk_int, eqOkL_int, eqv_int, eqOk_bool, eqOkL_bool, eqv_bool, eqOk_none, eqOkL_none, eqv_str, isNone]; exact h
  | bool b => simp only [wC, wN, w2, w1, fI, fI0, fIB, wSeq, wNext, wRet, wRetN, wDrop, wIf, wAsg, gN, gT, gMore, gNone, wB, wNot, wAnd, wOr, wAndV, wOrV, wNotV, wIfE, wChain, wNil, wCons, wTup, wLst, wCB, wD, xD, xN, xOp, rNil, rCons, wCall, wSeqI, wRng1, wFor, wSqLen, wSqIx, wSqSl, wNo, wPart, wGeIx, wGeSet', wSetX, wRetGe, wRetX, wPar, wErNN, wErIs, wErVal, wRaise, wRef, wYes, wIsi, fIsi, fIsi2, fInt, fLen, fSum, fAll, fMax, fMin, fIx, fAdd, fMul, fBits, fEq, fNe, fIsN, fIsB, fNotN, fRepr, En.set, En.wipe, Ar.sl, entry, outA, List.map_cons, List.map_nil, List.cons_append, List.nil_append, List.append_nil, List.length_cons, List.length_nil, List.replicate, List.getElem?_cons_zero, List.getElem?_cons_succ, List.set_cons_zero, List.set_cons_succ, Nat.reduceAdd, Nat.reduceSub]; simp [eqOk_int, eqOkL_int, eqv_int, eqOk_bool, eqOkL_bool, eqv_bool, eqOk_none, eqOkL_none, eqv_str, isNone]; cases b <;> simp [fIsB, h]
  | int i => simp only [wC, wN, w2, w1, fI, fI0, fIB, wSeq, wNext, wRet, wRetN, wDrop, wIf, wAsg, gN, gT, gMore, gNone, wB, wNot, wAnd, wOr, wAndV, wOrV, wNotV, wIfE, wChain, wNil, wCons, wTup, wLst, wCB, wD, xD, xN, xOp, rNil, rCons, wCall, wSeqI, wRng1, wFor, wSqLen, wSqIx, wSqSl, wNo, wPart, wGeIx, wGeSet', wSetX, wRetGe, wRetX, wPar, wErNN, wErIs, wErVal, wRaise, wRef, wYes, wIsi, fIsi, fIsi2, fInt, fLen, fSum, fAll, fMax, fMin, fIx, fAdd, fMul, fBits, fEq, fNe, fIsN, fIsB, fNotN, fRepr, En.set, En.wipe, Ar.sl, entry, outA, List.map_cons, List.map_nil, List.cons_append, List.nil_append, List.append_nil, List.length_cons, List.length_nil, List.replicate, List.getElem?_cons_zero, List.getElem?_cons_succ, List.set_cons_zero, List.set_cons_succ, Nat.reduceAdd, Nat.reduceSub]; simp [eqOk_int, eqOkL_int, eqv_int, eqOk_bool, eqOkL_bool, eqv_bool, eqOk_none, eqOkL_none, eqv_str, isNone]; exact h
  | str s => simp only [wC, wN, w2, w1, fI, fI0, fIB, wSeq, wNext, wRet, wRetN, wDrop, wIf, wAsg, gN, gT, gMore, gNone, wB, wNot, wAnd, wOr, wAndV, wOrV, wNotV, wIfE, wChain, wNil, wCons, wTup, wLst, wCB, wD, xD, xN, xOp, rNil, rCons, wCall, wSeqI, wRng1, wFor, wSqLen, wSqIx, wSqSl, wNo, wPart, wGeIx, wGeSet', wSetX, wRetGe, wRetX, wPar, wErNN, wErIs, wErVal, wRaise, wRef, wYes, wIsi, fIsi, fIsi2, fInt, fLen, fSum, fAll, fMax, fMin, fIx, fAdd, fMul, fBits, fEq, fNe, fIsN, fIsB, fNotN, fRepr, En.set, En.wipe, Ar.sl, entry, outA, List.map_cons, List.map_nil, List.cons_append, List.nil_append, List.append_nil, List.length_cons, List.length_nil, List.replicate, List.getElem?_cons_zero, List.getElem?_cons_succ, List.set_cons_zero, List.set_cons_succ, Nat.reduceAdd, Nat.reduceSub]; simp [eqOk_int, eqOkL_int, eqv_int, eqOk_bool, eqOkL_bool, eqv_bool, eqOk_none, eqOkL_none, eqv_str, isNone]; exact ⟨rfl, h⟩
  | _ => cases hd

theorem V__law_exact (Z : Fax P w K mg base) {k : Nat} {c : Ct} (ih : FnG P w K mg base k (He.ga K "_law_exact") (fdOf K "_law_exact") ps__law_exact (spV (gx K) c 2)) {cdv : Value} {A : Around} {out : List Env} {s : Shared} {H : Hp} {E : XK} (hr : Room k (A.deeper (envOfC "_law_exact" (defScope s__law_exact) s.heap.objs.size (He.ga K "_law_exact") cdv))) (hg : (A.deeper (envOfC "_law_exact" (defScope s__law_exact) s.heap.objs.size (He.ga K "_law_exact") cdv)).guards = some []) :
    ∃ ts, VSs (gx K) (cxOf (L2.CX P w) P w K mg base N__law_exact "_law_exact" (defScope s__law_exact) (He.ga K "_law_exact") cdv A out s H E) E (defBody s__law_exact) ts (w__law_exact K c) := by
  have tk : Takes (cxOf (L2.CX P w) P w K mg base N__law_exact "_law_exact" (defScope s__law_exact) (He.ga K "_law_exact") cdv A out s H E) (fun c d _ H => E c d H) := takes_of rfl rfl rfl rfl
  exact ⟨_,
  (vss_cons
    (vs_if (vt_v (ve_isi2 (ve_n 0) Z.n_isinstance Z.n_list Z.n_tuple)) (vss_cons
    (vs_if (VW.vt (vw_or (vt_c (cv_ne hr.units) (ve_isi (ve_n 0) Z.n_isinstance Z.n_list) (ve_isi (ve_n 1) Z.n_isinstance Z.n_list) (by first | exact nomark _ | rfl | with_unfolding_all rfl)) (vw_or1 (vt_c (cv_ne hr.units) (ve_isi (ve_n 0) Z.n_isinstance Z.n_tuple) (ve_isi (ve_n 1) Z.n_isinstance Z.n_tuple) (by first | exact nomark _ | rfl | with_unfolding_all rfl))))) (vss_one (vs_ret ve_bl)) vss_nil)
  (vss_one (vs_ret (ve_and (ve_c (cv_eq hr.units) (ve_b cb_len rc_len Z.n_len (va_cons (ve_n 1) va_nil)) (ve_b cb_len rc_len Z.n_len (va_cons (ve_n 0) va_nil)) (by first | exact nomark _ | rfl | with_unfolding_all rfl)) (ve_one (ve_b cb_all rc_all Z.n_all (va_cons (VF.ve (vf_lc [("at", 2)] nd__law_exact (vi_rng1 (va_cons (ve_b cb_len rc_len Z.n_len (va_cons (ve_n 0) va_nil)) va_nil) Z.n_range) (fun _ _ _ _ _ => (vg_n 2 nd__law_exact)) (fun _ _ _ _ _ => vts_nil) (fun _ _ _ _ _ => (VX.ve (vx_call ih (bn__law_exact Z) Z.g__law_exact Z.d__law_exact.kp hr hg LamX.takes0 (vr_cons (VE.vx (ve_ix (ve_n 0) (ve_n 2))) (vr_cons (VE.vx (ve_ix (ve_n 1) (ve_n 2))) vr_nil))))) (gw_n (by decide)))) va_nil))))))) vss_nil)
  (vss_cons
    (vs_if (vt_c cv_isN (ve_n 0) ve_non (by first | exact nomark _ | rfl | with_unfolding_all rfl)) (vss_one (vs_ret (ve_c cv_isN (ve_n 1) ve_non (by first | exact nomark _ | rfl | with_unfolding_all rfl)))) vss_nil)
  (vss_cons
    (vs_if (vt_v (ve_isi (ve_n 0) Z.n_isinstance Z.n_bool)) (vss_one (vs_ret (ve_if (vt_v (ve_n 0)) (ve_c cv_isB (ve_n 1) ve_bl (by first | exact nomark _ | rfl | with_unfolding_all rfl)) (ve_c cv_isB (ve_n 1) ve_bl (by first | exact nomark _ | rfl | with_unfolding_all rfl))))) vss_nil)
  (vss_cons
    (vs_if (vt_v (ve_isi (ve_n 0) Z.n_isinstance Z.n_str)) (vss_one (vs_ret (ve_and (ve_isi (ve_n 1) Z.n_isinstance Z.n_str) (ve_one (ve_c (cv_eq hr.units) (ve_n 1) (ve_n 0) (by first | exact nomark _ | rfl | with_unfolding_all rfl)))))) vss_nil)
  (vss_one (vs_ret (ve_and (ve_isi (ve_n 1) Z.n_isinstance Z.n_int) (ve_and (ve_not (ve_isi (ve_n 1) Z.n_isinstance Z.n_bool)) (ve_one (ve_c (cv_eq hr.units) (ve_n 1) (ve_n 0) (by first | exact nomark _ | rfl | with_unfolding_all rfl)))))))))))⟩
theorem okr__law_exact (Z : Fax P w K mg base) : ∀ k, FnG P w K mg base k (He.ga K "_law_exact") (fdOf K "_law_exact") ps__law_exact (spV (gx K) (cr__law_exact K k) 2)
  | 0 => FnG.no.imp (cr0__law_exact K)
  | k + 1 => fn_V Z.d__law_exact sc__law_exact (by decide) (by decide) (l__law_exact K k) fun cdv A out s H E hcv hr hg => V__law_exact Z (okr__law_exact Z k) hr hg
theorem ok__law_exact (Z : Fax P w K mg base) : FnG P w K mg base 40 (He.ga K "_law_exact") (fdOf K "_law_exact") ps__law_exact (spV (gx K) (c__law_exact K) 2) := (okr__law_exact Z 40).imp (ci__law_exact K)
abbrev N__law_kind : List Str := ["caught"]
abbrev ps__law_kind : List Str := ["caught"]
theorem nd__law_kind : N__law_kind.Nodup := by decide +kernel
theorem sc__law_kind : FnScope N__law_kind ps__law_kind (defScope s__law_kind) := ⟨rfl, rfl, rfl, nd__law_kind, rfl, by decide +kernel, by decide +kernel⟩
theorem bi__law_kind (Z : Fax P w K mg base) : Binds K (fdOf K "_law_kind") ps__law_kind [] := Z.d__law_kind.bindsN fun _ _ _ _ _ _ us hl => match us, hl with | [_], _ => rfl
theorem bn__law_kind (Z : Fax P w K mg base) : Bnd K (fdOf K "_law_kind") ps__law_kind 1 [] (fun us _ => us) (fun vs _ => vs) (fun as _ => as) := bnd_all (bi__law_kind Z)
--MARK _law_kind
abbrev w__law_kind (K : PySem.W.Frag) : WS := (wRet (wIfE (wB (wErIs 0 (kit_InvalidRow K))) (wC (.str "row")) (wIfE (wB (wErIs 0 (kit_InvalidNumber K))) (wC (.str "number")) (wC (.str "")))))
def kindOk (K : PySem.W.Frag) (C : Addr) (s : Str) : Prop := (C = He.ga K "InvalidRow" ∧ s = "row") ∨ (C = He.ga K "InvalidNumber" ∧ s = "number")
def c__law_kind (K : PySem.W.Frag) : Ct := fun as n P _ => nes K ∧ ∃ C d, ∃ s : Str, as = [.er C d] ∧ kindOk K C s ∧ P (.da (.str s)) n
theorem l__law_kind (K : PySem.W.Frag) : ∀ as n P X, c__law_kind K as n P X → as.length = ps__law_kind.length → w__law_kind K (outA P) X (entry N__law_kind as n) := by
  rintro as n P X ⟨hne, C, d, s, rfl, ⟨rfl, rfl⟩ | ⟨rfl, rfl⟩, h⟩ -
  · walk_at "V"
    rw [show kit_InvalidRow K (He.ga K "InvalidRow") = some true by simp [kit_InvalidRow, hne.1, Ne.symm hne.1]]
    walk_at "V"
    exact h
  · walk_at "V"
    rw [show kit_InvalidRow K (He.ga K "InvalidNumber") = some false by simp [kit_InvalidRow, hne.1, Ne.symm hne.1]]
    walk_at "V"
    rw [show kit_InvalidNumber K (He.ga K "InvalidNumber") = some true by simp [kit_InvalidNumber, hne.1, Ne.symm hne.1]]
    walk_at "V"
    exact h

theorem V__law_kind (Z : Fax P w K mg base) {cdv : Value} {A : Around} {out : List Env} {s : Shared} {H : Hp} {E : XK} (hcv : CodeOf K (He.ga K "_law_kind") "_law_kind" cdv) (hr : Room 0 (A.deeper (envOfC "_law_kind" (defScope s__law_kind) s.heap.objs.size (He.ga K "_law_kind") cdv))) (hg : (A.deeper (envOfC "_law_kind" (defScope s__law_kind) s.heap.objs.size (He.ga K "_law_kind") cdv)).guards = some []) :
    ∃ ts, VSs (gx K) (cxOf (L2.CX P w) P w K mg base N__law_kind "_law_kind" (defScope s__law_kind) (He.ga K "_law_kind") cdv A out s H E) E (defBody s__law_kind) ts (w__law_kind K) := by
  have tk : Takes (cxOf (L2.CX P w) P w K mg base N__law_kind "_law_kind" (defScope s__law_kind) (He.ga K "_law_kind") cdv A out s H E) (fun c d _ H => E c d H) := takes_of rfl rfl rfl rfl
  exact ⟨_,
  (vss_one (vs_ret (ve_if (vt_v (ve_erIs (kit := kit_InvalidRow K) 0 (by exact kitE_InvalidRow Z) Z.n_isinstance Z.g_InvalidRow)) ve_str (ve_if (vt_v (ve_erIs (kit := kit_InvalidNumber K) 0 (by exact kitE_InvalidNumber Z) Z.n_isinstance Z.g_InvalidNumber)) ve_str ve_str))))⟩
theorem ok__law_kind (Z : Fax P w K mg base) : FnG P w K mg base 1 (He.ga K "_law_kind") (fdOf K "_law_kind") ps__law_kind (spV (gx K) (c__law_kind K) 1) :=
  fn_V Z.d__law_kind sc__law_kind (by decide) (by decide) (l__law_kind K) fun cdv A out s H E hcv hr hg => V__law_kind Z hcv hr hg
abbrev N__law_refused : List Str := ["call", "kind", "value", "caught", "error"]
abbrev ps__law_refused : List Str := ["call", "kind", "value"]
theorem nd__law_refused : N__law_refused.Nodup := by decide +kernel
theorem sc__law_refused : FnScope N__law_refused ps__law_refused (defScope s__law_refused) := ⟨rfl, rfl, rfl, nd__law_refused, rfl, by decide +kernel, by decide +kernel⟩
theorem bi__law_refused (Z : Fax P w K mg base) : Binds K (fdOf K "_law_refused") ps__law_refused [] := Z.d__law_refused.bindsN fun _ _ _ _ _ _ us hl => match us, hl with | [_, _, _], _ => rfl
theorem bn__law_refused (Z : Fax P w K mg base) : Bnd K (fdOf K "_law_refused") ps__law_refused 3 [] (fun us _ => us) (fun vs _ => vs) (fun as _ => as) := bnd_all (bi__law_refused Z)
--MARK _law_refused
abbrev w_ref3 (K : PySem.W.Frag) : WS := (wRet (wAndV (wErNN 3) (wAndV (w2 fEq (wD (wCall (c__law_kind K) (fun as _ => as) (rCons (xN 3) rNil) rNil)) (wN 1)) (w2 fEq (wCB fRepr (wCons (wErVal 3 (okC K)) wNil)) (wCB fRepr (wCons (wN 2) wNil))))))
theorem nd_ref : refN.Nodup := by decide +kernel
theorem Vr3 (Z : Fax P w K mg base) : ∃ t3, ∀ (cdv : Value) (A : Around) (out : List Env) (s : Shared) (H : Hp), Room 1 (A.deeper (envOfC "_law_refused" (defScope s__law_refused) s.heap.objs.size (He.ga K "_law_refused") cdv)) → (A.deeper (envOfC "_law_refused" (defScope s__law_refused) s.heap.objs.size (He.ga K "_law_refused") cdv)).guards = some [] →
    VS (gx K) (cxOf (L2.CX P w) P w K mg base refN "_law_refused" (defScope s__law_refused) (He.ga K "_law_refused") cdv A out s H (fun _ _ _ => False)) (fun _ _ _ => False) ((defBody s__law_refused).getD 2 (.Pass ⟨0, 0, 0, 0⟩)) t3 (w_ref3 K) := ⟨_, fun cdv A out s H hr hg =>
  (vs_ret (ve_and (ve_erNN 3) (ve_and (ve_c (cv_eq hr.units) (VX.ve (vx_call (ok__law_kind Z) (bn__law_kind Z) Z.g__law_kind Z.d__law_kind.kp (hr.mono (by decide)) hg (by exact takes_of rfl rfl rfl rfl) (vr_cons (vx_n 3) vr_nil))) (ve_n 1) (by first | exact nomark _ | rfl | with_unfolding_all rfl)) (ve_one (ve_c (cv_eq hr.units) (ve_b (cb_repr hg hr.units Z.sm) rc_repr Z.n_repr (va_cons (ve_erVal (ok := okC K) 3 (by exact okE Z)) va_nil)) (ve_b (cb_repr hg hr.units Z.sm) rc_repr Z.n_repr (va_cons (ve_n 2) va_nil)) (by first | exact nomark _ | rfl | with_unfolding_all rfl))))))⟩
abbrev N__law_side_at : List Str := ["generator"]
abbrev ps__law_side_at : List Str := ["generator"]
theorem nd__law_side_at : N__law_side_at.Nodup := by decide +kernel
theorem sc__law_side_at : FnScope N__law_side_at ps__law_side_at (defScope s__law_side_at) := ⟨rfl, rfl, rfl, nd__law_side_at, rfl, by decide +kernel, by decide +kernel⟩
theorem bi__law_side_at (Z : Fax P w K mg base) : Binds K (fdOf K "_law_side_at") ps__law_side_at [] := Z.d__law_side_at.bindsN fun _ _ _ _ _ _ us hl => match us, hl with | [_], _ => rfl
theorem bn__law_side_at (Z : Fax P w K mg base) : Bnd K (fdOf K "_law_side_at") ps__law_side_at 1 [] (fun us _ => us) (fun vs _ => vs) (fun as _ => as) := bnd_all (bi__law_side_at Z)
--MARK _law_side_at
abbrev w__law_side_at (K : PySem.W.Frag) : WS := (wRet (wD (wCall (c__law_pick K) (fun as _ => as) (rCons (xN 0) (rCons (xD (wLst (wCons (w2 fAdd (w2 fMul (wC (.int 16)) (wD (wCall (c__law_between K) (fun as _ => as) (rCons (xN 0) (rCons (xD (w2 (fI0 fun i j => i - j) (wC (.int 0)) (wC (.int 2)))) (rCons (xD (wC (.int 9))) rNil))) rNil))) (wC (.int 8))) (wCons (wD (wCall (c__law_between K) (fun as _ => as) (rCons (xN 0) (rCons (xD (w2 (fI0 fun i j => i - j) (wC (.int 0)) (wC (.int 20)))) (rCons (xD (wC (.int 150))) rNil))) rNil)) (wCons (wD (wCall (c__law_between K) (fun as _ => as) (rCons (xN 0) (rCons (xD (w2 (fI0 fun i j => i - j) (wC (.int 0)) (wC (.int 20)))) (rCons (xD (wC (.int 150))) rNil))) rNil)) (wCons (wD (wCall (c__law_between K) (fun as _ => as) (rCons (xN 0) (rCons (xD (w2 (fI0 fun i j => i - j) (wC (.int 0)) (w2 (fI CPow' fun i j => i ^ j.toNat) (wC (.int 2)) (wC (.int 45))))) (rCons (xD (w2 (fI CPow' fun i j => i ^ j.toNat) (wC (.int 2)) (wC (.int 59)))) rNil))) rNil)) wNil)))))) rNil)) rNil)))
def c__law_side_at (K : PySem.W.Frag) : Ct := fun as n P _ => as = [.ge] ∧ 400 ≤ n ∧ ∀ (x : Int) m, Bt 61 x → (m ≤ n ∧ n ≤ m + 400) → P (.da (.int x)) m
theorem l__law_side_at (K : PySem.W.Frag) : ∀ as n P X, c__law_side_at K as n P X → as.length = ps__law_side_at.length → w__law_side_at K (outA P) X (entry N__law_side_at as n) := by
  rintro as n P X ⟨rfl, hn, h⟩ -
  walk_at "V"
  refine ⟨_, _, rfl, by decide, (by apply Bt.mono; (· (repeat' (first | assumption | apply Bt.mul | apply Bt.addA | apply Bt.subA | apply Bt.negA | exact Bt.c (by decide)))); (· decide)), by omega, fun x1 m1 a1 b1 c1 => ?_⟩
  have t1 : Bt 10 x1 := .of (by omega) (by omega)
  walk_at "V"
  refine ⟨(by apply Bt.cm'; (· (repeat' (first | assumption | apply Bt.mul | apply Bt.addA | apply Bt.subA | apply Bt.negA | exact Bt.c (by decide)))); (· (repeat' (first | assumption | apply Bt.mul | apply Bt.addA | apply Bt.subA | apply Bt.negA | exact Bt.c (by decide)))); (· decide)), _, _, rfl, by decide, (by apply Bt.mono; (· (repeat' (first | assumption | apply Bt.mul | apply Bt.addA | apply Bt.subA | apply Bt.negA | exact Bt.c (by decide)))); (· decide)), by omega, fun x2 m2 a2 b2 c2 => ?_⟩
  walk_at "V"
  refine ⟨_, _, rfl, by decide, (by apply Bt.mono; (· (repeat' (first | assumption | apply Bt.mul | apply Bt.addA | apply Bt.subA | apply Bt.negA | exact Bt.c (by decide)))); (· decide)), by omega, fun x3 m3 a3 b3 c3 => ?_⟩
  walk_at "V"
  have e1 : (2 : Int) ^ Int.toNat 45 = 35184372088832 := by decide
  have e2 : (2 : Int) ^ Int.toNat 59 = 576460752303423488 := by decide
  rw [e1, e2]
  refine ⟨⟨by decide, by decide +kernel⟩, ⟨by decide, by decide +kernel⟩, _, _, rfl, by decide, (by apply Bt.mono; (· (repeat' (first | assumption | apply Bt.mul | apply Bt.addA | apply Bt.subA | apply Bt.negA | exact Bt.c (by decide)))); (· decide)), by omega, fun x4 m4 a4 b4 c4 => ?_⟩
  walk_at "V"
  refine ⟨_, .inl rfl, by simp, by simp, by omega, fun d m' hd h4 => ?_⟩
  simp only [List.mem_cons, List.not_mem_nil, or_false] at hd
  rcases hd with rfl | rfl | rfl | rfl
  · walk_at "V"; exact h _ _ (.of (by omega) (by omega)) (by omega)
  · walk_at "V"; exact h _ _ (.of (by omega) (by omega)) (by omega)
  · walk_at "V"; exact h _ _ (.of (by omega) (by omega)) (by omega)
  · walk_at "V"; exact h _ _ (.of (by omega) (by omega)) (by omega)

theorem V__law_side_at (Z : Fax P w K mg base) {cdv : Value} {A : Around} {out : List Env} {s : Shared} {H : Hp} {E : XK} (hcv : CodeOf K (He.ga K "_law_side_at") "_law_side_at" cdv) (hr : Room 3 (A.deeper (envOfC "_law_side_at" (defScope s__law_side_at) s.heap.objs.size (He.ga K "_law_side_at") cdv))) (hg : (A.deeper (envOfC "_law_side_at" (defScope s__law_side_at) s.heap.objs.size (He.ga K "_law_side_at") cdv)).guards = some []) :
    ∃ ts, VSs (gx K) (cxOf (L2.CX P w) P w K mg base N__law_side_at "_law_side_at" (defScope s__law_side_at) (He.ga K "_law_side_at") cdv A out s H E) E (defBody s__law_side_at) ts (w__law_side_at K) := by
  have tk : Takes (cxOf (L2.CX P w) P w K mg base N__law_side_at "_law_side_at" (defScope s__law_side_at) (He.ga K "_law_side_at") cdv A out s H E) (fun c d _ H => E c d H) := takes_of rfl rfl rfl rfl
  exact ⟨_,
  (vss_one (vs_ret (VX.ve (vx_call (ok__law_pick Z) (bn__law_pick Z) Z.g__law_pick Z.d__law_pick.kp (hr.mono (by decide)) hg tk (vr_cons (vx_n 0) (vr_cons (VE.vx (ve_lst (va_cons (ve_add (ve_mul ve_int (VX.ve (vx_call (ok__law_between Z) (bn__law_between Z) Z.g__law_between Z.d__law_between.kp (hr.mono (by decide)) hg tk (vr_cons (vx_n 0) (vr_cons (VE.vx (ve_sub ve_int ve_int)) (vr_cons (VE.vx ve_int) vr_nil)))))) ve_int) (va_cons (VX.ve (vx_call (ok__law_between Z) (bn__law_between Z) Z.g__law_between Z.d__law_between.kp (hr.mono (by decide)) hg tk (vr_cons (vx_n 0) (vr_cons (VE.vx (ve_sub ve_int ve_int)) (vr_cons (VE.vx ve_int) vr_nil))))) (va_cons (VX.ve (vx_call (ok__law_between Z) (bn__law_between Z) Z.g__law_between Z.d__law_between.kp (hr.mono (by decide)) hg tk (vr_cons (vx_n 0) (vr_cons (VE.vx (ve_sub ve_int ve_int)) (vr_cons (VE.vx ve_int) vr_nil))))) (va_cons (VX.ve (vx_call (ok__law_between Z) (bn__law_between Z) Z.g__law_between Z.d__law_between.kp (hr.mono (by decide)) hg tk (vr_cons (vx_n 0) (vr_cons (VE.vx (ve_sub ve_int (ve_pow ve_int ve_int))) (vr_cons (VE.vx (ve_pow ve_int ve_int)) vr_nil))))) va_nil)))))) vr_nil))))))⟩
theorem ok__law_side_at (Z : Fax P w K mg base) : FnG P w K mg base 4 (He.ga K "_law_side_at") (fdOf K "_law_side_at") ps__law_side_at (spV (gx K) (c__law_side_at K) 1) :=
  fn_V Z.d__law_side_at sc__law_side_at (by decide) (by decide) (l__law_side_at K) fun cdv A out s H E hcv hr hg => V__law_side_at Z hcv hr hg
abbrev N__law_rectangles : List Str := ["generator", "found", "left", "turn", "many", "across", "down"]
abbrev ps__law_rectangles : List Str := ["generator"]
theorem nd__law_rectangles : N__law_rectangles.Nodup := by decide +kernel
theorem sc__law_rectangles : FnScope N__law_rectangles ps__law_rectangles (defScope s__law_rectangles) := ⟨rfl, rfl, rfl, nd__law_rectangles, rfl, by decide +kernel, by decide +kernel⟩
theorem bi__law_rectangles (Z : Fax P w K mg base) : Binds K (fdOf K "_law_rectangles") ps__law_rectangles [] := Z.d__law_rectangles.bindsN fun _ _ _ _ _ _ us hl => match us, hl with | [_], _ => rfl
theorem bn__law_rectangles (Z : Fax P w K mg base) : Bnd K (fdOf K "_law_rectangles") ps__law_rectangles 1 [] (fun us _ => us) (fun vs _ => vs) (fun as _ => as) := bnd_all (bi__law_rectangles Z)
def b1__law_rectangles (K : PySem.W.Frag) : WS := (wSeq (wAsg (wD (wCall (c__law_pick K) (fun as _ => as) (rCons (xN 0) (rCons (xD (wLst (wCons (wC (.int 1)) (wCons (wC (.int 1)) (wCons (w2 (fI0 fun i j => i - j) (wC (.int 0)) (wC (.int 1))) (wCons (wC (.int 2)) (wCons (w2 (fI0 fun i j => i - j) (wC (.int 0)) (wC (.int 2))) (wCons (wC (.int 3)) wNil)))))))) rNil)) rNil)) (gN 4))
  (wSeq (wPar 5 6 (wCons (wCB fSorted (wCons (wLst (wCons (wD (wCall (c__law_side_at K) (fun as _ => as) (rCons (xN 0) rNil) rNil)) (wCons (wD (wCall (c__law_side_at K) (fun as _ => as) (rCons (xN 0) rNil) rNil)) wNil))) wNil)) (wCons (wCB fSorted (wCons (wLst (wCons (wD (wCall (c__law_side_at K) (fun as _ => as) (rCons (xN 0) rNil) rNil)) (wCons (wD (wCall (c__law_side_at K) (fun as _ => as) (rCons (xN 0) rNil) rNil)) wNil))) wNil)) wNil)))
  (wIf (wAnd (wB (w2 (fIB fun i j => decide (i ≤ j)) (w2 fAdd (w2 fMul (wC (.int 4)) (wCB fAbs (wCons (wN 4) wNil))) (wC (.int 2))) (wN 2))) (wAnd (wB (w2 (fIB fun i j => decide (i < j)) (w2 fIx (wN 5) (wC (.int 0))) (w2 fIx (wN 5) (wC (.int 1))))) (wB (w2 (fIB fun i j => decide (i < j)) (w2 fIx (wN 6) (wC (.int 0))) (w2 fIx (wN 6) (wC (.int 1))))))) (wSeq (wAppPre 1 (wTup (wCons (w2 fIx (wN 5) (wC (.int 0))) (wCons (w2 fIx (wN 6) (wC (.int 0))) (wCons (w2 fIx (wN 5) (wC (.int 1))) (wCons (w2 fIx (wN 6) (wC (.int 1))) (wCons (wN 4) wNil)))))))
  (wAsg (w2 (fI0 fun i j => i - j) (w2 (fI0 fun i j => i - j) (wN 2) (w2 fMul (wC (.int 4)) (wCB fAbs (wCons (wN 4) wNil)))) (wC (.int 2))) (gN 2))) wNext)))
--MARK _law_rectangles
abbrev w__law_rectangles (K : PySem.W.Frag) : WS := (wSeq (wParOD 1 2 wNil (wC (.int 62)))
  (wSeq (wFor (wRng1 (wCons (w2 fAdd (wC (.int 1)) (wD (wCall (c__law_random K) (fun as _ => as) (rCons (xN 0) (rCons (xD (wC (.int 7))) rNil)) rNil))) wNil)) (gN 3) (b1__law_rectangles K))
  (wRet (wN 1))))
structure Box where
  l : Int
  lo : Int
  r : Int
  h : Int
  m : Int
abbrev boxD (b : Box) : PyData := .tuple [.int b.l, .int b.lo, .int b.r, .int b.h, .int b.m]
def BoxOk (b : Box) : Prop := Bt 61 b.l ∧ Bt 61 b.lo ∧ Bt 61 b.r ∧ Bt 61 b.h ∧ b.l < b.r ∧ b.lo < b.h ∧ (-3 ≤ b.m ∧ b.m ≤ 3) ∧ b.m ≠ 0
/-- how many places the boxes take -/
def placesN (bs : List Box) : Nat := (bs.map fun b => 4 * b.m.natAbs + 2).sum
def c__law_rectangles (K : PySem.W.Frag) : Ct := fun as n P _ => as = [.ge] ∧ 20000 ≤ n ∧ ∀ (bs : List Box) m, (∀ b ∈ bs, BoxOk b) → bs.length ≤ 7 → placesN bs ≤ 62 → (m ≤ n ∧ n ≤ m + 20000) → P (.da (.list (bs.map boxD))) m
theorem sort2 {a b : Int} {ns : List Int} (hp : ns.Perm [a, b]) (hs : ns.Pairwise (· ≤ ·)) : ∃ x y, ns = [x, y] ∧ x ≤ y ∧ ((x = a ∧ y = b) ∨ (x = b ∧ y = a)) := by
  have hl := hp.length_eq
  match ns, hl with
  | [x, y], _ =>
    have h1 : x ≤ y := by simpa using hs
    have hx : x ∈ [a, b] := hp.mem_iff.mp (by simp)
    have hy : y ∈ [a, b] := hp.mem_iff.mp (by simp)
    have ha : a ∈ [x, y] := hp.mem_iff.mpr (by simp)
    have hb : b ∈ [x, y] := hp.mem_iff.mpr (by simp)
    simp only [List.mem_cons, List.not_mem_nil, or_false] at hx hy ha hb
    refine ⟨x, y, rfl, h1, ?_⟩
    rcases hx with rfl | rfl
    · rcases hy with rfl | rfl
      · exact .inl ⟨rfl, by rcases hb with h | h <;> exact h.symm⟩
      · exact .inl ⟨rfl, rfl⟩
    · rcases hy with rfl | rfl
      · exact .inr ⟨rfl, rfl⟩
      · exact .inr ⟨rfl, by rcases ha with h | h <;> exact h.symm⟩
theorem l__law_rectangles (K : PySem.W.Frag) : ∀ as n P X, c__law_rectangles K as n P X → as.length = ps__law_rectangles.length → w__law_rectangles K (outA P) X (entry N__law_rectangles as n) := by
  rintro as n P X ⟨rfl, hn, h⟩ -
  walk_at "V"
  refine ⟨_, rfl, by decide, (by apply Bt.mono; (· (repeat' (first | assumption | apply Bt.mul | apply Bt.addA | apply Bt.subA | apply Bt.negA | exact Bt.c (by decide)))); (· decide)), by omega, fun x1 m1 a1 b1 c1 => ?_⟩
  walk_at "V"
  refine ⟨⟨by omega, by omega⟩, ?_⟩
  refine lp_of (fun ds e => ∃ bs s3 s4 s5 s6 m, e = ⟨[.ge, .ow (bs.map boxD), .da (.int (62 - (placesN bs : Int))), s3, s4, s5, s6], m⟩ ∧ (∀ b ∈ bs, BoxOk b) ∧ bs.length + ds.length ≤ 7 ∧ placesN bs ≤ 62 ∧ (m ≤ m1 ∧ m1 + 2000 * ds.length ≤ m + 14000)) ?_ ?_ _ _ ⟨[], _, _, _, _, _, rfl, by simp, by simp [rng]; omega, by simp [placesN], by simp [rng]; omega⟩
  · rintro e ⟨bs, s3, s4, s5, s6, m, rfl, hb, hl, hp, hm⟩
    walk_at "V"
    exact h bs m hb (by simpa using hl) hp (by simp at hm; omega)
  · rintro d ds e N ⟨bs, s3, s4, s5, s6, m, rfl, hb, hl, hp, hm⟩ hN
    rw [List.length_cons] at hl hm
    unfold b1__law_rectangles
    walk_at "V"
    refine ⟨_, .inl rfl, by simp, by simp, by omega, fun d1 m2 hd1 h2 => ?_⟩
    obtain ⟨k, rfl, hk1, hk2⟩ : ∃ k : Int, d1 = .int k ∧ (-3 ≤ k ∧ k ≤ 3) ∧ k ≠ 0 := by
      simp only [List.mem_cons, List.not_mem_nil, or_false] at hd1
      rcases hd1 with rfl | rfl | rfl | rfl | rfl | rfl <;> exact ⟨_, rfl, by omega, by omega⟩
    clear hd1
    walk_at "V"
    refine ⟨rfl, by omega, fun p1 m3 tp1 h3 => ?_⟩
    walk_at "V"
    refine ⟨rfl, by omega, fun p2 m4 tp2 h4 => ?_⟩
    walk_at "V"
    refine ⟨[p1, p2], rfl, fun ns hns1 hns2 => ?_⟩
    obtain ⟨u1, u2, rfl, hu, hu'⟩ := sort2 hns1 hns2
    have tu1 : Bt 61 u1 := by rcases hu' with ⟨rfl, rfl⟩ | ⟨rfl, rfl⟩ <;> assumption
    have tu2 : Bt 61 u2 := by rcases hu' with ⟨rfl, rfl⟩ | ⟨rfl, rfl⟩ <;> assumption
    walk_at "V"
    refine ⟨rfl, by omega, fun p3 m5 tp3 h5 => ?_⟩
    walk_at "V"
    refine ⟨rfl, by omega, fun p4 m6 tp4 h6 => ?_⟩
    walk_at "V"
    refine ⟨[p3, p4], rfl, fun ns hns1 hns2 => ?_⟩
    obtain ⟨v1, v2, rfl, hv, hv'⟩ := sort2 hns1 hns2
    have tv1 : Bt 61 v1 := by rcases hv' with ⟨rfl, rfl⟩ | ⟨rfl, rfl⟩ <;> assumption
    have tv2 : Bt 61 v2 := by rcases hv' with ⟨rfl, rfl⟩ | ⟨rfl, rfl⟩ <;> assumption
    walk_at "V"
    have hab : (if k < 0 then -k else k) = (k.natAbs : Int) := by split <;> omega
    rw [hab]
    have tk : Bt 4 (k.natAbs : Int) := .of (by omega) (by omega)
    have fin : ∀ s3 s4 s5 s6, N ⟨[.ge, .ow (bs.map boxD), .da (.int (62 - (placesN bs : Int))), s3, s4, s5, s6], m6⟩ := fun s3 s4 s5 s6 => hN _ ⟨bs, _, _, _, _, _, rfl, hb, by omega, hp, by omega⟩
    refine ⟨(by apply Bt.cm'; (· (repeat' (first | assumption | apply Bt.mul | apply Bt.addA | apply Bt.subA | apply Bt.negA | exact Bt.c (by decide)))); (· (repeat' (first | assumption | apply Bt.mul | apply Bt.addA | apply Bt.subA | apply Bt.negA | exact Bt.c (by decide)))); (· decide)), kand (fun q1 => ?_) (fun q1 => ?_)⟩
    · have q1 := of_decide_eq_true q1
      walk_at "V"
      refine kand (fun q2 => ?_) (fun q2 => ?_)
      · have q2 := of_decide_eq_true q2
        walk_at "V"
        refine kif (fun q3 => ?_) (fun q3 => ?_)
        · have q3 := of_decide_eq_true q3
          walk_at "V"
          refine ⟨by rw [List.length_map]; omega, ?_⟩
          rw [hab]
          refine ⟨(by apply Bt.cm'; (· (repeat' (first | assumption | apply Bt.mul | apply Bt.addA | apply Bt.subA | apply Bt.negA | exact Bt.c (by decide)))); (· (repeat' (first | assumption | apply Bt.mul | apply Bt.addA | apply Bt.subA | apply Bt.negA | exact Bt.c (by decide)))); (· decide)), ?_⟩
          have hp' : placesN (bs ++ [Box.mk u1 v1 u2 v2 k]) = placesN bs + (4 * k.natAbs + 2) := by simp [placesN]
          have := hN ⟨[.ge, .ow ((bs ++ [Box.mk u1 v1 u2 v2 k]).map boxD), .da (.int (62 - (placesN (bs ++ [Box.mk u1 v1 u2 v2 k]) : Int))), .da d, .da (.int k), .da (.list [.int u1, .int u2]), .da (.list [.int v1, .int v2])], m6⟩ ⟨_, _, _, _, _, _, rfl, fun b hb' => by
            rcases List.mem_append.mp hb' with z | z
            · exact hb b z
            · simp only [List.mem_singleton] at z
              subst z
              exact ⟨tu1, tv1, tu2, tv2, q2, q3, hk1, hk2⟩, by rw [List.length_append, List.length_singleton]; omega, by rw [hp']; omega, by omega⟩
          rw [hp', List.map_append, List.map_cons, List.map_nil] at this
          have e : (62 : Int) - (placesN bs + (4 * k.natAbs + 2) : Nat) = 62 - (placesN bs : Int) - 4 * (k.natAbs : Int) - 2 := by push_cast; omega
          rw [e] at this
          exact this
        · walk_at "V"
          exact fin _ _ _ _
      · walk_at "V"
        exact fin _ _ _ _
    · walk_at "V"
      exact fin _ _ _ _

theorem V__law_rectangles (Z : Fax P w K mg base) {cdv : Value} {A : Around} {out : List Env} {s : Shared} {H : Hp} {E : XK} (hcv : CodeOf K (He.ga K "_law_rectangles") "_law_rectangles" cdv) (hr : Room 4 (A.deeper (envOfC "_law_rectangles" (defScope s__law_rectangles) s.heap.objs.size (He.ga K "_law_rectangles") cdv))) (hg : (A.deeper (envOfC "_law_rectangles" (defScope s__law_rectangles) s.heap.objs.size (He.ga K "_law_rectangles") cdv)).guards = some []) :
    ∃ ts, VSs (gx K) (cxOf (L2.CX P w) P w K mg base N__law_rectangles "_law_rectangles" (defScope s__law_rectangles) (He.ga K "_law_rectangles") cdv A out s H E) E (defBody s__law_rectangles) ts (w__law_rectangles K) := by
  have tk : Takes (cxOf (L2.CX P w) P w K mg base N__law_rectangles "_law_rectangles" (defScope s__law_rectangles) (He.ga K "_law_rectangles") cdv A out s H E) (fun c d _ H => E c d H) := takes_of rfl rfl rfl rfl
  exact ⟨_,
  (vss_cons
    (vs_parOD 1 2 nd__law_rectangles (vf_lst va_nil) ve_int)
  (vss_cons
    (vs_for (by exact passes_of rfl) (vi_rng1 (va_cons (ve_add ve_int (VX.ve (vx_call (ok__law_random Z) (bn__law_random Z) Z.g__law_random Z.d__law_random.kp (hr.mono (by decide)) hg tk (vr_cons (vx_n 0) (vr_cons (VE.vx ve_int) vr_nil))))) va_nil) Z.n_range) (vg_n 3 nd__law_rectangles) (vss_cons
    (vs_set 4 nd__law_rectangles (VX.ve (vx_call (ok__law_pick Z) (bn__law_pick Z) Z.g__law_pick Z.d__law_pick.kp (hr.mono (by decide)) hg tk (vr_cons (vx_n 0) (vr_cons (VE.vx (ve_lst (va_cons ve_int (va_cons ve_int (va_cons (ve_sub ve_int ve_int) (va_cons ve_int (va_cons (ve_sub ve_int ve_int) (va_cons ve_int va_nil)))))))) vr_nil)))))
  (vss_cons
    (vs_par 5 6 nd__law_rectangles (va_cons (ve_b cb_sorted rc_sorted Z.n_sorted (va_cons (ve_lst (va_cons (VX.ve (vx_call (ok__law_side_at Z) (bn__law_side_at Z) Z.g__law_side_at Z.d__law_side_at.kp (hr.mono (by decide)) hg tk (vr_cons (vx_n 0) vr_nil))) (va_cons (VX.ve (vx_call (ok__law_side_at Z) (bn__law_side_at Z) Z.g__law_side_at Z.d__law_side_at.kp (hr.mono (by decide)) hg tk (vr_cons (vx_n 0) vr_nil))) va_nil))) va_nil)) (va_cons (ve_b cb_sorted rc_sorted Z.n_sorted (va_cons (ve_lst (va_cons (VX.ve (vx_call (ok__law_side_at Z) (bn__law_side_at Z) Z.g__law_side_at Z.d__law_side_at.kp (hr.mono (by decide)) hg tk (vr_cons (vx_n 0) vr_nil))) (va_cons (VX.ve (vx_call (ok__law_side_at Z) (bn__law_side_at Z) Z.g__law_side_at Z.d__law_side_at.kp (hr.mono (by decide)) hg tk (vr_cons (vx_n 0) vr_nil))) va_nil))) va_nil)) va_nil)))
  (vss_one (vs_if (VW.vt (vw_and (vt_c cv_le (ve_add (ve_mul ve_int (ve_b cb_abs rc_abs Z.n_abs (va_cons (ve_n 4) va_nil))) ve_int) (ve_n 2) (by first | exact nomark _ | rfl | with_unfolding_all rfl)) (vw_and (vt_c cv_lt (ve_ix (ve_n 5) ve_int) (ve_ix (ve_n 5) ve_int) (by first | exact nomark _ | rfl | with_unfolding_all rfl)) (vw_and1 (vt_c cv_lt (ve_ix (ve_n 6) ve_int) (ve_ix (ve_n 6) ve_int) (by first | exact nomark _ | rfl | with_unfolding_all rfl)))))) (vss_cons
    (vs_app 1 (ve_tup (va_cons (ve_ix (ve_n 5) ve_int) (va_cons (ve_ix (ve_n 6) ve_int) (va_cons (ve_ix (ve_n 5) ve_int) (va_cons (ve_ix (ve_n 6) ve_int) (va_cons (ve_n 4) va_nil)))))))
  (vss_one (vs_set 2 nd__law_rectangles (ve_sub (ve_sub (ve_n 2) (ve_mul ve_int (ve_b cb_abs rc_abs Z.n_abs (va_cons (ve_n 4) va_nil)))) ve_int)))) vss_nil)))))
  (vss_one (vs_ret (ve_n 1)))))⟩
theorem ok__law_rectangles (Z : Fax P w K mg base) : FnG P w K mg base 5 (He.ga K "_law_rectangles") (fdOf K "_law_rectangles") ps__law_rectangles (spV (gx K) (c__law_rectangles K) 1) :=
  fn_V Z.d__law_rectangles sc__law_rectangles (by decide) (by decide) (l__law_rectangles K) fun cdv A out s H E hcv hr hg => V__law_rectangles Z hcv hr hg
abbrev N__law_round : List Str := ["generator", "box", "left", "low", "right", "high", "many", "spots", "at"]
abbrev ps__law_round : List Str := ["generator", "box"]
theorem nd__law_round : N__law_round.Nodup := by decide +kernel
theorem sc__law_round : FnScope N__law_round ps__law_round (defScope s__law_round) := ⟨rfl, rfl, rfl, nd__law_round, rfl, by decide +kernel, by decide +kernel⟩
theorem bi__law_round (Z : Fax P w K mg base) : Binds K (fdOf K "_law_round") ps__law_round [] := Z.d__law_round.bindsN fun _ _ _ _ _ _ us hl => match us, hl with | [_, _], _ => rfl
theorem bn__law_round (Z : Fax P w K mg base) : Bnd K (fdOf K "_law_round") ps__law_round 2 [] (fun us _ => us) (fun vs _ => vs) (fun as _ => as) := bnd_all (bi__law_round Z)
--MARK _law_round
abbrev w__law_round (K : PySem.W.Frag) : WS := (wSeq (wAsg (wN 1) (gT (gMore (gN 2) (gMore (gN 3) (gMore (gN 4) (gMore (gN 5) (gMore (gN 6) gNone)))))))
  (wSeq (wAsg (wLst (wCons (wTup (wCons (wN 2) (wCons (wN 3) wNil))) (wCons (wTup (wCons (wN 4) (wCons (wN 3) wNil))) (wCons (wTup (wCons (wN 4) (wCons (wN 5) wNil))) (wCons (wTup (wCons (wN 2) (wCons (wN 5) wNil))) wNil))))) (gN 7))
  (wSeq (wAsg (wD (wCall (c__law_random K) (fun as _ => as) (rCons (xN 0) (rCons (xD (wC (.int 4))) rNil)) rNil)) (gN 8))
  (wSeq (wAsg (w2 fAdd (wSl (wN 7) (wPart (wN 8)) wNo) (wSl (wN 7) wNo (wPart (wN 8)))) (gN 7))
  (wSeq (wAsg (wIfE (wB (w2 (fIB fun i j => decide (j < i)) (wN 6) (wC (.int 0)))) (wN 7) (w2 fAdd (wSl (wN 7) wNo (wPart (wC (.int 1)))) (wSl3 (wN 7) wNo (wPart (wC (.int 0))) (wPart (w2 (fI0 fun i j => i - j) (wC (.int 0)) (wC (.int 1))))))) (gN 7))
  (wRet (w2 fAdd (w2 fMul (wN 7) (wCB fAbs (wCons (wN 6) wNil))) (wSl (wN 7) wNo (wPart (wC (.int 1)))))))))))
/-! the plain law: sums over the edges of a path -/
def openE (xs : List Pt) : List (Pt × Pt) := xs.zip xs.tail
def S (g : Pt → Pt → Int) (xs : List Pt) : Int := sumE g (openE xs)
def C (g : Pt → Pt → Int) (ps : List Pt) : Int := sumE g (edgesL ps)
def Anti (g : Pt → Pt → Int) : Prop := ∀ a b, g a b = - g b a
theorem S_nil (g : Pt → Pt → Int) : S g [] = 0 := rfl
theorem S_one (g : Pt → Pt → Int) (a : Pt) : S g [a] = 0 := rfl
theorem S_cons (g : Pt → Pt → Int) (a b : Pt) (r : List Pt) : S g (a :: b :: r) = g a b + S g (b :: r) := by
  unfold S openE
  rw [List.tail_cons, List.zip_cons_cons, sumE_cons]; rfl
theorem S_app (g : Pt → Pt → Int) (a : Pt) (ys : List Pt) : ∀ xs, S g (xs ++ a :: ys) = S g (xs ++ [a]) + S g (a :: ys)
  | [] => by rw [List.nil_append, List.nil_append, S_one]; omega
  | [x] => by
    show S g (x :: a :: ys) = S g (x :: [a]) + _
    rw [S_cons, S_cons, S_one]; omega
  | x :: y :: r => by
    have ih := S_app g a ys (y :: r)
    simp only [List.cons_append] at ih ⊢
    rw [S_cons, S_cons, ih]; omega
theorem S_rev {g : Pt → Pt → Int} (h : Anti g) : ∀ xs, S g xs.reverse = - S g xs
  | [] => rfl
  | [x] => rfl
  | x :: y :: r => by
    have ih := S_rev h (y :: r)
    rw [List.reverse_cons, List.reverse_cons, List.append_assoc, List.singleton_append, S_app, ← List.reverse_cons, ih, S_cons, S_one, S_cons, h y x]
    omega
theorem edges_open (a : Pt) (r : List Pt) : edgesL (a :: r) = openE (a :: r ++ [a]) := by
  apply List.ext_getElem
  · simp [edgesL, openE]
  · intro i h1 h2
    have hi : i < r.length + 1 := by simpa [edgesL] using h1
    simp only [edgesL, openE, List.getElem_map, List.getElem_range, List.getElem_zip, List.length_cons]
    congr 1
    · rw [List.getElem_append_left (by simpa using hi)]
      rw [List.getD_eq_getElem?_getD, List.getElem?_eq_getElem (by simpa using hi)]; rfl
    · rw [List.getD_eq_getElem?_getD]
      by_cases hl : i < r.length
      · rw [Nat.mod_eq_of_lt (by omega), List.getElem?_eq_getElem (by simp; omega)]
        simp [List.getElem_append_left, hl]
      · have e : i = r.length := by omega
        subst e
        simp
theorem C_nil (g : Pt → Pt → Int) : C g [] = 0 := rfl
theorem C_cons (g : Pt → Pt → Int) (a : Pt) (r : List Pt) : C g (a :: r) = S g (a :: r ++ [a]) := by
  unfold C S
  rw [edges_open]
theorem C_swap (g : Pt → Pt → Int) : ∀ u v, C g (u ++ v) = C g (v ++ u)
  | [], v => by rw [List.append_nil, List.nil_append]
  | a :: u, [] => by rw [List.append_nil, List.nil_append]
  | a :: u, b :: v => by
    have e1 := S_app g b (v ++ [a]) (a :: u)
    have e2 := S_app g a (u ++ [b]) (b :: v)
    show C g (a :: (u ++ b :: v)) = C g (b :: (v ++ a :: u))
    rw [C_cons, C_cons]
    simp only [List.cons_append, List.append_assoc] at e1 e2 ⊢
    rw [e1, e2]; omega
theorem C_rev {g : Pt → Pt → Int} (h : Anti g) : ∀ xs, C g xs.reverse = - C g xs
  | [] => rfl
  | a :: r => by
    rw [List.reverse_cons, C_swap, List.singleton_append, C_cons, C_cons, ← S_rev h]
    simp
theorem C_dbl (g : Pt → Pt → Int) : ∀ xs, C g (xs ++ xs) = 2 * C g xs
  | [] => rfl
  | a :: r => by
    rw [List.cons_append, C_cons, C_cons]
    simp only [List.cons_append, List.append_assoc]
    rw [← List.cons_append, S_app]
    simp only [List.cons_append]
    omega
theorem anti0 {g : Pt → Pt → Int} (h : Anti g) (a : Pt) : g a a = 0 := by have := h a a; omega
/-- parted at p and q -/
theorem C_part {g : Pt → Pt → Int} (h : Anti g) (p q : Pt) (u w v : List Pt) : C g (p :: w ++ [q]) + C g (q :: v ++ (u ++ [p])) = C g (u ++ (p :: w ++ q :: v)) := by
  rw [C_swap g u, List.cons_append, List.cons_append, List.cons_append, List.cons_append, C_cons, C_cons, C_cons]
  have e1 : S g (p :: (w ++ [q]) ++ [p]) = S g (p :: w ++ [q]) + g q p := by
    have := S_app g q [p] (p :: w)
    rw [S_cons, S_one] at this
    simp only [List.cons_append, List.append_assoc, List.nil_append] at this ⊢
    rw [this]; omega
  have e2 : S g (q :: (v ++ (u ++ [p])) ++ [q]) = S g (q :: (v ++ u) ++ [p]) + g p q := by
    have := S_app g p [q] (q :: (v ++ u))
    rw [S_cons, S_one] at this
    simp only [List.cons_append, List.append_assoc, List.nil_append] at this ⊢
    rw [this]; omega
  have e3 : S g (p :: (w ++ q :: v ++ u) ++ [p]) = S g (p :: w ++ [q]) + S g (q :: (v ++ u) ++ [p]) := by
    have := S_app g q (v ++ u ++ [p]) (p :: w)
    simp only [List.cons_append, List.append_assoc, List.nil_append] at this ⊢
    exact this
  rw [e1, e2, e3, h q p]
  omega
theorem C_part1 {g : Pt → Pt → Int} (h : Anti g) (p : Pt) (u v : List Pt) : C g [p] + C g (p :: v ++ (u ++ [p])) = C g (u ++ p :: v) := by
  rw [C_swap g u, List.cons_append, List.cons_append, C_cons, C_cons, C_cons]
  have e2 : S g (p :: (v ++ (u ++ [p])) ++ [p]) = S g (p :: (v ++ u) ++ [p]) + g p p := by
    have := S_app g p [p] (p :: (v ++ u))
    rw [S_cons, S_one] at this
    simp only [List.cons_append, List.append_assoc, List.nil_append] at this ⊢
    rw [this]; omega
  rw [e2]
  show S g (p :: [p]) + _ = _
  rw [S_cons, S_one, anti0 h]
  omega
def corners (b : Box) : List Pt := [(b.l, b.lo), (b.r, b.lo), (b.r, b.h), (b.l, b.h)]
def orient (m : Int) (xs : List Pt) : List Pt := if 0 < m then xs else match xs with
  | [a, b, c, d] => [a, d, c, b]
  | xs => xs
def roundO (b : Box) (i : Nat) : List Pt := orient b.m ((corners b).drop i ++ (corners b).take i)
def roundL (b : Box) (i : Nat) : List Pt := (List.replicate b.m.natAbs (roundO b i)).flatten ++ (roundO b i).take 1
theorem C_or {g : Pt → Pt → Int} (h : Anti g) (a b c d : Pt) : C g [a, d, c, b] = - C g [a, b, c, d] := by
  rw [C_cons, C_cons]
  simp only [List.cons_append, List.nil_append, S_cons, S_one]
  rw [h a d, h d c, h c b, h b a]
  omega
theorem roundO_ok {g : Pt → Pt → Int} (h : Anti g) (b : Box) {i : Nat} (hi : i < 4) : (∃ a r, roundO b i = a :: r) ∧ C g (roundO b i) = (if 0 < b.m then 1 else -1) * C g (corners b) ∧ (roundO b i).length = 4 := by
  have hr : C g ((corners b).drop i ++ (corners b).take i) = C g (corners b) := by
    rw [C_swap, List.take_append_drop]
  have four : ∃ a c d e, (corners b).drop i ++ (corners b).take i = [a, c, d, e] := by
    match i, hi with
    | 0, _ => exact ⟨_, _, _, _, rfl⟩
    | 1, _ => exact ⟨_, _, _, _, rfl⟩
    | 2, _ => exact ⟨_, _, _, _, rfl⟩
    | 3, _ => exact ⟨_, _, _, _, rfl⟩
  obtain ⟨a, c, d, e, hf⟩ := four
  unfold roundO orient
  rw [← hr, hf]
  split
  · exact ⟨⟨_, _, rfl⟩, by omega, rfl⟩
  · exact ⟨⟨_, _, rfl⟩, by rw [C_or h]; omega, rfl⟩
theorem S_rep (g : Pt → Pt → Int) (a : Pt) (r : List Pt) : ∀ k : Nat, S g ((List.replicate k (a :: r)).flatten ++ [a]) = k * C g (a :: r)
  | 0 => by simp [S_one]
  | k + 1 => by
    rw [List.replicate_succ, List.flatten_cons, List.append_assoc]
    have hs : ∃ ys, (List.replicate k (a :: r)).flatten ++ [a] = a :: ys := by
      cases k with
      | zero => exact ⟨[], rfl⟩
      | succ k => exact ⟨_, by rw [List.replicate_succ, List.flatten_cons]; rfl⟩
    have ih := S_rep g a r k
    obtain ⟨ys, hy⟩ := hs
    rw [hy] at ih ⊢
    rw [S_app, ih, C_cons]
    push_cast
    rw [Int.add_mul]
    omega
theorem rep_head (a : Pt) (r : List Pt) (k : Nat) : ∃ ys, (List.replicate k (a :: r)).flatten ++ [a] = a :: ys := by
  cases k with
  | zero => exact ⟨[], rfl⟩
  | succ k => exact ⟨_, by rw [List.replicate_succ, List.flatten_cons]; rfl⟩
/-- from s round a box and back -/
theorem S_round {g : Pt → Pt → Int} (h : Anti g) (s : Pt) (b : Box) {i : Nat} (hi : i < 4) (hm : b.m ≠ 0) : S g (s :: roundL b i ++ [s]) = b.m * C g (corners b) := by
  obtain ⟨⟨a, r, e⟩, hc, _⟩ := roundO_ok h b hi
  unfold roundL
  rw [e] at hc ⊢
  have e1 : (a :: r).take 1 = [a] := rfl
  rw [e1]
  obtain ⟨ys, hy⟩ := rep_head a r b.m.natAbs
  have hs := S_rep g a r b.m.natAbs
  rw [hc] at hs
  have h1 : S g (s :: ((List.replicate b.m.natAbs (a :: r)).flatten ++ [a]) ++ [s]) = g s a + S g ((List.replicate b.m.natAbs (a :: r)).flatten ++ [a]) + g a s := by
    have q := S_app g a [s] (s :: (List.replicate b.m.natAbs (a :: r)).flatten)
    simp only [List.cons_append, List.append_assoc, List.nil_append, S_cons, S_one] at q ⊢
    rw [q, hy, S_cons]
    omega
  rw [h1, hs, h a s]
  rw [← Int.mul_assoc]
  have e3 : (b.m.natAbs : Int) * (if 0 < b.m then 1 else -1) = b.m := by split <;> omega
  rw [e3]
  omega
theorem cut_len {α : Type} (xs : List α) (lo hi : Option Int) : (cutA xs lo hi).length ≤ xs.length := by
  unfold cutA; rw [List.length_take, List.length_drop]; omega
def c__law_round (K : PySem.W.Frag) : Ct := fun as n P _ => ∃ b : Box, as = [.ge, .da (boxD b)] ∧ BoxOk b ∧ 64 ≤ n ∧ ∀ i m, i < 4 → (m ≤ n ∧ n ≤ m + 64) → P (.da (pathD (roundL b i))) m
theorem l__law_round (K : PySem.W.Frag) : ∀ as n P X, c__law_round K as n P X → as.length = ps__law_round.length → w__law_round K (outA P) X (entry N__law_round as n) := by
  rintro as n P X ⟨b, rfl, hb, hn, h⟩ -
  obtain ⟨b1, b2, b3, b4, b5, b6, b7, b8⟩ := hb
  walk_at "V"
  refine ⟨_, rfl, by decide, (by apply Bt.mono; (· (repeat' (first | assumption | apply Bt.mul | apply Bt.addA | apply Bt.subA | apply Bt.negA | exact Bt.c (by decide)))); (· decide)), by omega, fun x m1 x1 x2 x3 => ?_⟩
  obtain ⟨i, rfl⟩ : ∃ i : Nat, x = i := ⟨x.toNat, by omega⟩
  have hi : i < 4 := by omega
  have h := h i m1 hi x3
  have hab : (if b.m < 0 then -b.m else b.m) = (b.m.natAbs : Int) := by split <;> omega
  have cut1 : ∀ A B C D : PyData, cutA [A, B, C, D] none (some 1) = [A] := fun _ _ _ _ => rfl
  have pk : ∀ A B C D : PyData, pickA [A, B, C, D] none (some 0) (some (0 - 1)) = [D, C, B] := fun _ _ _ _ => by kernel_rfl
  -- what follows once the places stand in order
  have fin : ∀ (A B C D : Pt) (s : Sl), (corners b).drop i ++ (corners b).take i = [A, B, C, D] → kIfE (wN 7) (w2 fAdd (wSl (wN 7) wNo (wPart (wC (.int 1)))) (wSl3 (wN 7) wNo (wPart (wC (.int 0))) (wPart (w2 (fI0 fun i j => i - j) (wC (.int 0)) (wC (.int 1)))))) (kAsg (gN 7) (kSeqA (wRet (w2 fAdd (w2 fMul (wN 7) (wCB fAbs (wCons (wN 6) wNil))) (wSl (wN 7) wNo (wPart (wC (.int 1)))))) (outA P) X)) X (decide (0 < b.m)) ⟨[.ge, .da (boxD b), .da (.int b.l), .da (.int b.lo), .da (.int b.r), .da (.int b.h), .da (.int b.m), .da (.list [ptD A, ptD B, ptD C, ptD D]), s], m1⟩ := by
    intro A B C D s hs
    have hround : roundO b i = if 0 < b.m then [A, B, C, D] else [A, D, C, B] := by
      unfold roundO orient
      rw [hs]
    have len4 : ∀ xs : List PyData, xs.length = 4 → (List.replicate (b.m.natAbs : Int).toNat xs).flatten.length + 1 ≤ sizeLine := fun xs hx => by
      have : (List.replicate (b.m.natAbs : Int).toNat xs).flatten.length = (b.m.natAbs : Int).toNat * 4 := by simp [hx]
      have e : sizeLine = 16777216 := by decide
      omega
    refine kifE (fun q => ?_) (fun q => ?_)
    · have q := of_decide_eq_true q
      walk_at "V"
      rw [hab, cut1]
      refine ⟨⟨by omega, by omega, (by have e : sizeLine = 16777216 := (by decide); omega)⟩, len4 _ rfl, ?_⟩
      unfold roundL pathD at h
      rw [hround, if_pos q, List.map_append, List.map_flatten, List.map_replicate] at h
      simpa using h
    · have q := of_decide_eq_false q
      walk_at "V"
      rw [cut1, pk]
      refine ⟨by decide, small_line (by simp), ?_⟩
      walk_at "V"
      rw [hab, cut1]
      refine ⟨⟨by omega, by omega, (by have e : sizeLine = 16777216 := (by decide); omega)⟩, len4 _ rfl, ?_⟩
      unfold roundL pathD at h
      rw [hround, if_neg q, List.map_append, List.map_flatten, List.map_replicate] at h
      simpa using h
  walk_at "V"
  refine ⟨Nat.le_trans (Nat.add_le_add (cut_len ..) (cut_len ..)) (small_line (by simp)), ?_⟩
  have r0 : ∀ A B C D : PyData, cutA [A, B, C, D] (some ((0 : Nat) : Int)) none ++ cutA [A, B, C, D] none (some ((0 : Nat) : Int)) = [A, B, C, D] := fun _ _ _ _ => by kernel_rfl
  have r1 : ∀ A B C D : PyData, cutA [A, B, C, D] (some ((1 : Nat) : Int)) none ++ cutA [A, B, C, D] none (some ((1 : Nat) : Int)) = [B, C, D, A] := fun _ _ _ _ => by kernel_rfl
  have r2 : ∀ A B C D : PyData, cutA [A, B, C, D] (some ((2 : Nat) : Int)) none ++ cutA [A, B, C, D] none (some ((2 : Nat) : Int)) = [C, D, A, B] := fun _ _ _ _ => by kernel_rfl
  have r3 : ∀ A B C D : PyData, cutA [A, B, C, D] (some ((3 : Nat) : Int)) none ++ cutA [A, B, C, D] none (some ((3 : Nat) : Int)) = [D, A, B, C] := fun _ _ _ _ => by kernel_rfl
  rcases (by omega : i = 0 ∨ i = 1 ∨ i = 2 ∨ i = 3) with rfl | rfl | rfl | rfl
  · rw [r0]; exact fin _ _ _ _ _ rfl
  · rw [r1]; exact fin _ _ _ _ _ rfl
  · rw [r2]; exact fin _ _ _ _ _ rfl
  · rw [r3]; exact fin _ _ _ _ _ rfl

theorem V__law_round (Z : Fax P w K mg base) {cdv : Value} {A : Around} {out : List Env} {s : Shared} {H : Hp} {E : XK} (hcv : CodeOf K (He.ga K "_law_round") "_law_round" cdv) (hr : Room 2 (A.deeper (envOfC "_law_round" (defScope s__law_round) s.heap.objs.size (He.ga K "_law_round") cdv))) (hg : (A.deeper (envOfC "_law_round" (defScope s__law_round) s.heap.objs.size (He.ga K "_law_round") cdv)).guards = some []) :
    ∃ ts, VSs (gx K) (cxOf (L2.CX P w) P w K mg base N__law_round "_law_round" (defScope s__law_round) (He.ga K "_law_round") cdv A out s H E) E (defBody s__law_round) ts (w__law_round K) := by
  have tk : Takes (cxOf (L2.CX P w) P w K mg base N__law_round "_law_round" (defScope s__law_round) (He.ga K "_law_round") cdv A out s H E) (fun c d _ H => E c d H) := takes_of rfl rfl rfl rfl
  exact ⟨_,
  (vss_cons
    (vs_asg (ve_n 1) (vgl_t (vgl_n 2 nd__law_round (vgl_n 3 nd__law_round (vgl_n 4 nd__law_round (vgl_n 5 nd__law_round (vgl_n 6 nd__law_round vgl_nil)))))))
  (vss_cons
    (vs_set 7 nd__law_round (ve_lst (va_cons (ve_tup (va_cons (ve_n 2) (va_cons (ve_n 3) va_nil))) (va_cons (ve_tup (va_cons (ve_n 4) (va_cons (ve_n 3) va_nil))) (va_cons (ve_tup (va_cons (ve_n 4) (va_cons (ve_n 5) va_nil))) (va_cons (ve_tup (va_cons (ve_n 2) (va_cons (ve_n 5) va_nil))) va_nil))))))
  (vss_cons
    (vs_set 8 nd__law_round (VX.ve (vx_call (ok__law_random Z) (bn__law_random Z) Z.g__law_random Z.d__law_random.kp (hr.mono (by decide)) hg tk (vr_cons (vx_n 0) (vr_cons (VE.vx ve_int) vr_nil)))))
  (vss_cons
    (vs_set 7 nd__law_round (ve_add (ve_sl (ve_n 7) (vo_some (ve_n 8)) vo_none) (ve_sl (ve_n 7) vo_none (vo_some (ve_n 8)))))
  (vss_cons
    (vs_set 7 nd__law_round (ve_if (vt_c cv_gt (ve_n 6) ve_int (by first | exact nomark _ | rfl | with_unfolding_all rfl)) (ve_n 7) (ve_add (ve_sl (ve_n 7) vo_none (vo_some ve_int)) (ve_sl3 (ve_n 7) vo_none (vo_some ve_int) (vo_some (ve_sub ve_int ve_int))))))
  (vss_one (vs_ret (ve_add (ve_mul (ve_n 7) (ve_b cb_abs rc_abs Z.n_abs (va_cons (ve_n 6) va_nil))) (ve_sl (ve_n 7) vo_none (vo_some ve_int))))))))))⟩
theorem ok__law_round (Z : Fax P w K mg base) : FnG P w K mg base 3 (He.ga K "_law_round") (fdOf K "_law_round") ps__law_round (spV (gx K) (c__law_round K) 2) :=
  fn_V Z.d__law_round sc__law_round (by decide) (by decide) (l__law_round K) fun cdv A out s H E hcv hr hg => V__law_round Z hcv hr hg
abbrev N__law_path : List Str := ["generator", "boxes", "start", "found", "box"]
abbrev ps__law_path : List Str := ["generator", "boxes"]
theorem nd__law_path : N__law_path.Nodup := by decide +kernel
theorem sc__law_path : FnScope N__law_path ps__law_path (defScope s__law_path) := ⟨rfl, rfl, rfl, nd__law_path, rfl, by decide +kernel, by decide +kernel⟩
theorem bi__law_path (Z : Fax P w K mg base) : Binds K (fdOf K "_law_path") ps__law_path [] := Z.d__law_path.bindsN fun _ _ _ _ _ _ us hl => match us, hl with | [_, _], _ => rfl
theorem bn__law_path (Z : Fax P w K mg base) : Bnd K (fdOf K "_law_path") ps__law_path 2 [] (fun us _ => us) (fun vs _ => vs) (fun as _ => as) := bnd_all (bi__law_path Z)
--MARK _law_path
abbrev w__law_path (K : PySem.W.Frag) : WS := (wSeq (wAsg (wTup (wCons (wD (wCall (c__law_side_at K) (fun as _ => as) (rCons (xN 0) rNil) rNil)) (wCons (wD (wCall (c__law_side_at K) (fun as _ => as) (rCons (xN 0) rNil) rNil)) wNil))) (gN 2))
  (wSeq (wAsg (wLst (wCons (wN 2) wNil)) (gN 3))
  (wSeq (wFor (wSeqI (wN 1)) (gN 4) (wAsg (w2 fAdd (w2 fAdd (wN 3) (wD (wCall (c__law_round K) (fun as _ => as) (rCons (xN 0) (rCons (xD (wN 4)) rNil)) rNil))) (wLst (wCons (wN 2) wNil))) (gN 3)))
  (wRet (wN 3)))))
def pathL (s : Pt) (bis : List (Box × Nat)) : List Pt := s :: bis.flatMap fun p => roundL p.1 p.2 ++ [s]
def PathOk (bs : List Box) (ps : List Pt) : Prop := ∃ (s : Pt) (bis : List (Box × Nat)), BtP 61 s ∧ bis.map (·.1) = bs ∧ (∀ p ∈ bis, p.2 < 4) ∧ ps = pathL s bis
theorem pathL_snoc (s : Pt) (bis : List (Box × Nat)) (b : Box) (i : Nat) : pathL s (bis ++ [(b, i)]) = pathL s bis ++ roundL b i ++ [s] := by
  simp [pathL]
theorem roundO_len (b : Box) {i : Nat} (hi : i < 4) : (roundO b i).length = 4 := (roundO_ok (g := fun _ _ => 0) (fun _ _ => rfl) b hi).2.2
theorem roundL_len (b : Box) {i : Nat} (hi : i < 4) : (roundL b i).length = 4 * b.m.natAbs + 1 := by
  have := roundO_len b hi
  simp [roundL, this, Nat.mul_comm]
theorem pathL_len (s : Pt) : ∀ bis : List (Box × Nat), (∀ p ∈ bis, p.2 < 4) → (pathL s bis).length = 1 + placesN (bis.map (·.1))
  | [], _ => rfl
  | (b, i) :: bis, h => by
    have ih := pathL_len s bis fun p hp => h p (List.mem_cons_of_mem _ hp)
    have := roundL_len b (h _ (List.mem_cons_self ..))
    simp only at this
    simp only [pathL, List.flatMap_cons, List.length_cons, List.length_append, this, List.length_nil, placesN, List.map_cons, List.sum_cons] at ih ⊢
    omega
theorem or_mem {m : Int} {xs : List Pt} {p : Pt} (h : p ∈ orient m xs) : p ∈ xs := by
  unfold orient at h
  split at h
  · exact h
  · split at h
    · simp only [List.mem_cons, List.not_mem_nil, or_false] at h ⊢
      rcases h with h | h | h | h <;> simp [h]
    · exact h
theorem roundO_mem {b : Box} {i : Nat} {p : Pt} (h : p ∈ roundO b i) : p ∈ corners b := by
  have := or_mem h
  rcases List.mem_append.mp this with z | z
  · exact List.mem_of_mem_drop z
  · exact List.mem_of_mem_take z
theorem roundL_mem {b : Box} {i : Nat} {p : Pt} (h : p ∈ roundL b i) : p ∈ corners b := by
  rcases List.mem_append.mp h with z | z
  · obtain ⟨l, hl, hp⟩ := List.mem_flatten.mp z
    rw [List.eq_of_mem_replicate hl] at hp
    exact roundO_mem hp
  · exact roundO_mem (List.mem_of_mem_take z)
theorem corners_bt {b : Box} (h : BoxOk b) : ∀ p ∈ corners b, BtP 61 p := by
  obtain ⟨b1, b2, b3, b4, _⟩ := h
  intro p hp
  simp only [corners, List.mem_cons, List.not_mem_nil, or_false] at hp
  rcases hp with rfl | rfl | rfl | rfl <;> exact ⟨by assumption, by assumption⟩
theorem pathL_bt {s : Pt} {bis : List (Box × Nat)} (hs : BtP 61 s) (h : ∀ p ∈ bis, BoxOk p.1) : ∀ p ∈ pathL s bis, BtP 61 p := by
  intro p hp
  rcases List.mem_cons.mp hp with rfl | hp
  · exact hs
  · obtain ⟨q, hq, hp⟩ := List.mem_flatMap.mp hp
    rcases List.mem_append.mp hp with z | z
    · exact corners_bt (h q hq) p (roundL_mem z)
    · rw [List.mem_singleton.mp z]; exact hs
def c__law_path (K : PySem.W.Frag) : Ct := fun as n P _ => ∃ bs : List Box, as = [.ge, .da (.list (bs.map boxD))] ∧ (∀ b ∈ bs, BoxOk b) ∧ bs.length ≤ 7 ∧ placesN bs ≤ 62 ∧ 2000 ≤ n ∧ ∀ ps m, PathOk bs ps → (m ≤ n ∧ n ≤ m + 2000) → P (.da (pathD ps)) m
theorem l__law_path (K : PySem.W.Frag) : ∀ as n P X, c__law_path K as n P X → as.length = ps__law_path.length → w__law_path K (outA P) X (entry N__law_path as n) := by
  rintro as n P X ⟨bs, rfl, hb, hl, hp, hn, h⟩ -
  walk_at "V"
  refine ⟨rfl, by omega, fun s1 m1 t1 h1 => ?_⟩
  walk_at "V"
  refine ⟨rfl, by omega, fun s2 m2 t2 h2 => ?_⟩
  walk_at "V"
  refine lp_of (fun ds e => ∃ bis rest s4 m, ds = rest.map boxD ∧ e = ⟨[.ge, .da (.list (bs.map boxD)), .da (ptD (s1, s2)), .da (pathD (pathL (s1, s2) bis)), s4], m⟩ ∧ bis.map (·.1) ++ rest = bs ∧ (∀ p ∈ bis, p.2 < 4) ∧ (m ≤ m2 ∧ m2 + 100 * rest.length ≤ m + 700)) ?_ ?_ _ _ ⟨[], bs, _, _, rfl, rfl, rfl, by simp, by omega⟩
  · rintro e ⟨bis, rest, s4, m, hr, rfl, hbs, hi, hm⟩
    have hr : rest = [] := by simpa using hr.symm
    subst hr
    walk_at "V"
    exact h _ _ ⟨(s1, s2), bis, ⟨t1, t2⟩, by simpa using hbs, hi, rfl⟩ (by omega)
  · rintro d ds e N ⟨bis, rest, s4, m, hr, rfl, hbs, hi, hm⟩ hN
    match rest, hr, hbs, hm with
    | b :: rest, hr, hbs, hm =>
      rw [List.map_cons] at hr
      obtain ⟨rfl, rfl⟩ := List.cons.inj hr
      rw [List.length_cons] at hm
      have hlen : (b :: rest).length ≤ 7 := by
        have := congrArg List.length hbs
        simp only [List.length_append] at this
        omega
      rw [List.length_cons] at hlen
      walk_at "V"
      refine ⟨b, rfl, hb b (by rw [← hbs]; simp), by omega, fun i m3 hi3 h3 => ?_⟩
      walk_at "V"
      have hpl := pathL_len (s1, s2) bis hi
      have hpn : placesN (bis.map (·.1)) ≤ 62 := by
        rw [← hbs] at hp
        simp only [placesN, List.map_append, List.sum_append] at hp ⊢
        omega
      have hrl := roundL_len b hi3
      have hb3 : b.m.natAbs ≤ 3 := by have := (hb b (by rw [← hbs]; simp)).2.2.2.2.2.2.1; omega
      refine ⟨small_line (by simp only [List.length_map]; omega), small_line (by simp only [List.length_map, List.length_append, List.length_cons, List.length_nil]; omega), ?_⟩
      have := hN _ ⟨bis ++ [(b, i)], rest, .da (boxD b), m3, rfl, rfl, by simpa using hbs, fun p hp' => by
        rcases List.mem_append.mp hp' with z | z
        · exact hi p z
        · rw [List.mem_singleton.mp z]; exact hi3, by omega⟩
      rw [pathL_snoc] at this
      simp only [pathD, List.map_append, List.map_cons, List.map_nil] at this
      exact this

theorem V__law_path (Z : Fax P w K mg base) {cdv : Value} {A : Around} {out : List Env} {s : Shared} {H : Hp} {E : XK} (hcv : CodeOf K (He.ga K "_law_path") "_law_path" cdv) (hr : Room 4 (A.deeper (envOfC "_law_path" (defScope s__law_path) s.heap.objs.size (He.ga K "_law_path") cdv))) (hg : (A.deeper (envOfC "_law_path" (defScope s__law_path) s.heap.objs.size (He.ga K "_law_path") cdv)).guards = some []) :
    ∃ ts, VSs (gx K) (cxOf (L2.CX P w) P w K mg base N__law_path "_law_path" (defScope s__law_path) (He.ga K "_law_path") cdv A out s H E) E (defBody s__law_path) ts (w__law_path K) := by
  have tk : Takes (cxOf (L2.CX P w) P w K mg base N__law_path "_law_path" (defScope s__law_path) (He.ga K "_law_path") cdv A out s H E) (fun c d _ H => E c d H) := takes_of rfl rfl rfl rfl
  exact ⟨_,
  (vss_cons
    (vs_set 2 nd__law_path (ve_tup (va_cons (VX.ve (vx_call (ok__law_side_at Z) (bn__law_side_at Z) Z.g__law_side_at Z.d__law_side_at.kp (hr.mono (by decide)) hg tk (vr_cons (vx_n 0) vr_nil))) (va_cons (VX.ve (vx_call (ok__law_side_at Z) (bn__law_side_at Z) Z.g__law_side_at Z.d__law_side_at.kp (hr.mono (by decide)) hg tk (vr_cons (vx_n 0) vr_nil))) va_nil))))
  (vss_cons
    (vs_set 3 nd__law_path (ve_lst (va_cons (ve_n 2) va_nil)))
  (vss_cons
    (vs_for (by exact passes_of rfl) (vi_seq (ve_n 1)) (vg_n 4 nd__law_path) (vss_one (vs_set 3 nd__law_path (ve_add (ve_add (ve_n 3) (VX.ve (vx_call (ok__law_round Z) (bn__law_round Z) Z.g__law_round Z.d__law_round.kp (hr.mono (by decide)) hg tk (vr_cons (vx_n 0) (vr_cons (VE.vx (ve_n 4)) vr_nil))))) (ve_lst (va_cons (ve_n 2) va_nil))))))
  (vss_one (vs_ret (ve_n 3))))))⟩
theorem ok__law_path (Z : Fax P w K mg base) : FnG P w K mg base 5 (He.ga K "_law_path") (fdOf K "_law_path") ps__law_path (spV (gx K) (c__law_path K) 2) :=
  fn_V Z.d__law_path sc__law_path (by decide) (by decide) (l__law_path K) fun cdv A out s H E hcv hr hg => V__law_path Z hcv hr hg
abbrev N__law_due : List Str := ["boxes", "x", "y", "spot", "left", "low", "right", "high", "many"]
abbrev ps__law_due : List Str := ["boxes", "x", "y"]
theorem nd__law_due : N__law_due.Nodup := by decide +kernel
theorem sc__law_due : FnScope N__law_due ps__law_due (defScope s__law_due) := ⟨rfl, rfl, rfl, nd__law_due, rfl, by decide +kernel, by decide +kernel⟩
theorem bi__law_due (Z : Fax P w K mg base) : Binds K (fdOf K "_law_due") ps__law_due [] := Z.d__law_due.bindsN fun _ _ _ _ _ _ us hl => match us, hl with | [_, _, _], _ => rfl
theorem bn__law_due (Z : Fax P w K mg base) : Bnd K (fdOf K "_law_due") ps__law_due 3 [] (fun us _ => us) (fun vs _ => vs) (fun as _ => as) := bnd_all (bi__law_due Z)
def b1__law_due (K : PySem.W.Frag) : WT := (wAnd (wB (wChain (fIB fun i j => decide (i ≤ j)) (fIB fun i j => decide (i < j)) (wN 4) (w2 fIx (wN 3) (wC (.int 0))) (wN 6))) (wB (wChain (fIB fun i j => decide (i ≤ j)) (fIB fun i j => decide (i < j)) (wN 5) (w2 fIx (wN 3) (wC (.int 1))) (wN 7))))
--MARK _law_due
abbrev w__law_due (K : PySem.W.Frag) : WS := (wSeq (wAsg (wTup (wCons (w2 fAdd (w2 fMul (wC (.int 16)) (wN 1)) (wC (.int 8))) (wCons (w2 fAdd (w2 fMul (wC (.int 16)) (wN 2)) (wC (.int 8))) wNil))) (gN 3))
  (wRet (wCB fSum (wCons (wLst (wLc [4, 5, 6, 7, 8] (wSeqI (wN 0)) (gT (gMore (gN 4) (gMore (gN 5) (gMore (gN 6) (gMore (gN 7) (gMore (gN 8) gNone)))))) (b1__law_due K) (wN 8))) wNil))))
def inB (m : Pt) (b : Box) : Bool := decide (b.l ≤ m.1) && decide (m.1 < b.r) && (decide (b.lo ≤ m.2) && decide (m.2 < b.h))
def dueL (bs : List Box) (m : Pt) : Int := (bs.map fun b => if inB m b then b.m else 0).sum
def c__law_due (K : PySem.W.Frag) : Ct := fun as n P _ => ∃ (bs : List Box) (x y : Int), as = [.da (.list (bs.map boxD)), .da (.int x), .da (.int y)] ∧ bs.length ≤ 1000 ∧ Bt 100 x ∧ Bt 100 y ∧ P (.da (.int (dueL bs (midP x y)))) n
theorem due_flat (m : Pt) : ∀ bs : List Box, (bs.map boxD).flatMap (fun d => match d with | .tuple [.int l, .int lo, .int r, .int h, .int k] => if inB m (Box.mk l lo r h k) then [.int k] else [] | _ => []) = (bs.flatMap fun b => if inB m b then [b.m] else []).map PyData.int
  | [] => rfl
  | b :: bs => by
    rw [List.map_cons, List.flatMap_cons, due_flat m bs, List.flatMap_cons, List.map_append]
    congr 1
    show (if inB m b = true then _ else _) = _
    split <;> rfl
theorem due_sum (m : Pt) : ∀ bs : List Box, (bs.flatMap fun b => if inB m b then [b.m] else []).sum = dueL bs m
  | [] => rfl
  | b :: bs => by
    rw [List.flatMap_cons, List.sum_append, due_sum m bs]
    simp only [dueL, List.map_cons, List.sum_cons]
    split <;> simp
theorem l__law_due (K : PySem.W.Frag) : ∀ as n P X, c__law_due K as n P X → as.length = ps__law_due.length → w__law_due K (outA P) X (entry N__law_due as n) := by
  rintro as n P X ⟨bs, x, y, rfl, hl, hx, hy, h⟩ -
  walk_at "V"
  refine ⟨(by apply Bt.cm'; (· (repeat' (first | assumption | apply Bt.mul | apply Bt.addA | apply Bt.subA | apply Bt.negA | exact Bt.c (by decide)))); (· (repeat' (first | assumption | apply Bt.mul | apply Bt.addA | apply Bt.subA | apply Bt.negA | exact Bt.c (by decide)))); (· decide)), (by apply Bt.cm'; (· (repeat' (first | assumption | apply Bt.mul | apply Bt.addA | apply Bt.subA | apply Bt.negA | exact Bt.c (by decide)))); (· (repeat' (first | assumption | apply Bt.mul | apply Bt.addA | apply Bt.subA | apply Bt.negA | exact Bt.c (by decide)))); (· decide)), by rw [List.length_map]; omega, ?_⟩
  refine lcg_of (fun d => match d with | .tuple [.int l, .int lo, .int r, .int h, .int k] => if inB (midP x y) (Box.mk l lo r h k) then [.int k] else [] | _ => []) (fun e => ∃ s4 s5 s6 s7 s8, e = ⟨[.da (.list (bs.map boxD)), .da (.int x), .da (.int y), .da (ptD (midP x y)), s4, s5, s6, s7, s8], n⟩) _ ?_ ?_ _ ⟨_, _, _, _, _, rfl⟩
  · rintro e ⟨s4, s5, s6, s7, s8, rfl⟩
    rw [due_flat]
    walk_at "V"
    refine f_Sum ?_
    rw [due_sum]
    walk_at "V"
    exact h
  · rintro d acc e N hd ⟨s4, s5, s6, s7, s8, rfl⟩ hN
    obtain ⟨b, hb, rfl⟩ := List.mem_map.mp hd
    have no : inB (midP x y) b = false → ∀ e, (∃ s4 s5 s6 s7 s8, e = (⟨[.da (.list (bs.map boxD)), .da (.int x), .da (.int y), .da (ptD (midP x y)), s4, s5, s6, s7, s8], n⟩ : En)) → N acc e := fun q e he => by
      have := hN e he
      simp only [q] at this
      simpa using this
    unfold b1__law_due
    walk_at "V"
    refine kch3 (fun q1 => ?_) (fun q1 => ?_)
    · have q1' := of_decide_eq_true q1
      walk_at "V"
      refine kand (fun q2 => ?_) (fun q2 => ?_)
      · walk_at "V"
        refine kch3 (fun q3 => ?_) (fun q3 => ?_)
        · walk_at "V"
          have q : ∀ z, z = decide (16 * y + 8 < b.h) → inB (midP x y) b = z := fun z hz => by
            have e1 : decide (b.l ≤ 16 * x + 8) = true := q1
            have e2 : decide (16 * x + 8 < b.r) = true := q2
            have e3 : decide (b.lo ≤ 16 * y + 8) = true := q3
            simp only [inB, e1, e2, e3, hz, Bool.true_and]
          refine klc (fun q4 => ?_) (fun q4 => ?_)
          · walk_at "V"
            have q' := q _ q4.symm
            simp only [q'] at hN
            exact hN _ ⟨_, _, _, _, _, rfl⟩
          · walk_at "V"
            exact no (q _ q4.symm) _ ⟨_, _, _, _, _, rfl⟩
        · walk_at "V"
          have q : inB (midP x y) b = false := by
            have e3 : decide (b.lo ≤ 16 * y + 8) = false := q3
            simp [inB, e3]
          exact no q _ ⟨_, _, _, _, _, rfl⟩
      · walk_at "V"
        have q : inB (midP x y) b = false := by
          have e2 : decide (16 * x + 8 < b.r) = false := q2
          simp [inB, e2]
        exact no q _ ⟨_, _, _, _, _, rfl⟩
    · walk_at "V"
      have q : inB (midP x y) b = false := by
        have e1 : decide (b.l ≤ 16 * x + 8) = false := q1
        simp [inB, e1]
      exact no q _ ⟨_, _, _, _, _, rfl⟩

theorem V__law_due (Z : Fax P w K mg base) {cdv : Value} {A : Around} {out : List Env} {s : Shared} {H : Hp} {E : XK} (hcv : CodeOf K (He.ga K "_law_due") "_law_due" cdv) (hr : Room 0 (A.deeper (envOfC "_law_due" (defScope s__law_due) s.heap.objs.size (He.ga K "_law_due") cdv))) (hg : (A.deeper (envOfC "_law_due" (defScope s__law_due) s.heap.objs.size (He.ga K "_law_due") cdv)).guards = some []) :
    ∃ ts, VSs (gx K) (cxOf (L2.CX P w) P w K mg base N__law_due "_law_due" (defScope s__law_due) (He.ga K "_law_due") cdv A out s H E) E (defBody s__law_due) ts (w__law_due K) := by
  have tk : Takes (cxOf (L2.CX P w) P w K mg base N__law_due "_law_due" (defScope s__law_due) (He.ga K "_law_due") cdv A out s H E) (fun c d _ H => E c d H) := takes_of rfl rfl rfl rfl
  exact ⟨_,
  (vss_cons
    (vs_set 3 nd__law_due (ve_tup (va_cons (ve_add (ve_mul ve_int (ve_n 1)) ve_int) (va_cons (ve_add (ve_mul ve_int (ve_n 2)) ve_int) va_nil))))
  (vss_one (vs_ret (ve_b cb_sum rc_sum Z.n_sum (va_cons (VF.ve (vf_lc [("left", 4), ("low", 5), ("right", 6), ("high", 7), ("many", 8)] nd__law_due (vi_seq (ve_n 0)) (fun _ _ _ _ _ => (vgl_t (vgl_n 4 nd__law_due (vgl_n 5 nd__law_due (vgl_n 6 nd__law_due (vgl_n 7 nd__law_due (vgl_n 8 nd__law_due vgl_nil))))))) (fun _ _ _ _ _ => (vts_one (VW.vt (vw_and (vt_ch cv_le cv_lt (ve_n 4) (ve_ix (ve_n 3) ve_int) (ve_n 6)) (vw_and1 (vt_ch cv_le cv_lt (ve_n 5) (ve_ix (ve_n 3) ve_int) (ve_n 7))))))) (fun _ _ _ _ _ => (ve_n 8)) (gw_t (gw_cons (gw_n (by decide)) (gw_cons (gw_n (by decide)) (gw_cons (gw_n (by decide)) (gw_cons (gw_n (by decide)) (gw_cons (gw_n (by decide)) gw_nil)))))))) va_nil)))))⟩
theorem ok__law_due (Z : Fax P w K mg base) : FnG P w K mg base 1 (He.ga K "_law_due") (fdOf K "_law_due") ps__law_due (spV (gx K) (c__law_due K) 3) :=
  fn_V Z.d__law_due sc__law_due (by decide) (by decide) (l__law_due K) fun cdv A out s H E hcv hr hg => V__law_due Z hcv hr hg
abbrev N__law_parted_right : List Str := ["generator", "path", "x", "y", "one", "other", "first", "second"]
abbrev ps__law_parted_right : List Str := ["generator", "path", "x", "y"]
theorem nd__law_parted_right : N__law_parted_right.Nodup := by decide +kernel
theorem sc__law_parted_right : FnScope N__law_parted_right ps__law_parted_right (defScope s__law_parted_right) := ⟨rfl, rfl, rfl, nd__law_parted_right, rfl, by decide +kernel, by decide +kernel⟩
theorem bi__law_parted_right (Z : Fax P w K mg base) : Binds K (fdOf K "_law_parted_right") ps__law_parted_right [] := Z.d__law_parted_right.bindsN fun _ _ _ _ _ _ us hl => match us, hl with | [_, _, _, _], _ => rfl
theorem bn__law_parted_right (Z : Fax P w K mg base) : Bnd K (fdOf K "_law_parted_right") ps__law_parted_right 4 [] (fun us _ => us) (fun vs _ => vs) (fun as _ => as) := bnd_all (bi__law_parted_right Z)
--MARK _law_parted_right
abbrev w__law_parted_right (K : PySem.W.Frag) : WS := (wSeq (wAsg (wCB fSorted (wCons (wLst (wCons (wD (wCall (c__law_random K) (fun as _ => as) (rCons (xN 0) (rCons (xD (wCB fLen (wCons (wN 1) wNil))) rNil)) rNil)) (wCons (wD (wCall (c__law_random K) (fun as _ => as) (rCons (xN 0) (rCons (xD (wCB fLen (wCons (wN 1) wNil))) rNil)) rNil)) wNil))) wNil)) (gT (gMore (gN 4) (gMore (gN 5) gNone))))
  (wSeq (wPar 6 7 (wCons (wSl (wN 1) (wPart (wN 4)) (wPart (w2 fAdd (wN 5) (wC (.int 1))))) (wCons (w2 fAdd (wSl (wN 1) (wPart (wN 5)) wNo) (wSl (wN 1) wNo (wPart (w2 fAdd (wN 4) (wC (.int 1)))))) wNil)))
  (wRet (wAndV (w2 fEq (w2 fAdd (wD (wCall (c_turns K) (fun as _ => as) (rCons (xD (wN 6)) (rCons (xD (wN 2)) (rCons (xD (wN 3)) rNil))) rNil)) (wD (wCall (c_turns K) (fun as _ => as) (rCons (xD (wN 7)) (rCons (xD (wN 2)) (rCons (xD (wN 3)) rNil))) rNil))) (wD (wCall (c_turns K) (fun as _ => as) (rCons (xD (wN 1)) (rCons (xD (wN 2)) (rCons (xD (wN 3)) rNil))) rNil))) (w2 fEq (w2 fAdd (wD (wCall (c_area K) (fun as _ => as) (rCons (xD (wN 6)) rNil) rNil)) (wD (wCall (c_area K) (fun as _ => as) (rCons (xD (wN 7)) rNil) rNil))) (wD (wCall (c_area K) (fun as _ => as) (rCons (xD (wN 1)) rNil) rNil)))))))
theorem cut_mid {α : Type} {xs : List α} {i j : Nat} (hi : i ≤ xs.length) (hj : j ≤ xs.length) : cutA xs (some (i : Int)) (some (j : Int)) = (xs.drop i).take (j - i) := by
  unfold cutA HT.sIx
  have e1 : ¬ ((i : Int) < 0) := by omega
  have e2 : ¬ ((j : Int) < 0) := by omega
  simp only [e1, e2, if_false]
  congr 2 <;> omega
theorem cut_from {α : Type} {xs : List α} {i : Nat} (hi : i ≤ xs.length) : cutA xs (some (i : Int)) none = xs.drop i := by
  unfold cutA HT.sIx
  have e1 : ¬ ((i : Int) < 0) := by omega
  simp only [e1, if_false]
  rw [List.take_of_length_le]
  · congr 1; omega
  · rw [List.length_drop]; omega
theorem cut_to {α : Type} {xs : List α} {j : Nat} (hj : j ≤ xs.length) : cutA xs none (some (j : Int)) = xs.take j := by
  unfold cutA HT.sIx
  have e2 : ¬ ((j : Int) < 0) := by omega
  simp only [e2, if_false, List.drop_zero, Nat.sub_zero]
  congr 1; omega
theorem part_split {ps : List Pt} {i j : Nat} (hij : i ≤ j) (hj : j < ps.length) : (i = j ∧ ∃ u p v, ps = u ++ p :: v ∧ u.length = i) ∨ ∃ u p w q v, ps = u ++ (p :: w ++ q :: v) ∧ u.length = i ∧ i + 1 + w.length = j := by
  have h1 : ps = ps.take i ++ ps.drop i := (List.take_append_drop i ps).symm
  have hu : (ps.take i).length = i := by rw [List.length_take]; omega
  obtain ⟨p, r, hr⟩ : ∃ p r, ps.drop i = p :: r := by
    cases q : ps.drop i with
    | nil => have := congrArg List.length q; rw [List.length_drop] at this; simp at this; omega
    | cons p r => exact ⟨p, r, rfl⟩
  have hrl : r.length + 1 = ps.length - i := by have := congrArg List.length hr; rw [List.length_drop, List.length_cons] at this; omega
  by_cases e : i = j
  · exact .inl ⟨e, ps.take i, p, r, by rw [← hr]; exact h1, hu⟩
  · refine .inr ?_
    obtain ⟨q, v, hq⟩ : ∃ q v, r.drop (j - i - 1) = q :: v := by
      cases z : r.drop (j - i - 1) with
      | nil => have := congrArg List.length z; rw [List.length_drop] at this; simp at this; omega
      | cons q v => exact ⟨q, v, rfl⟩
    refine ⟨ps.take i, p, r.take (j - i - 1), q, v, ?_, hu, by rw [List.length_take]; omega⟩
    rw [← hq, List.cons_append, List.take_append_drop, ← hr]
    exact h1
theorem part_eq {g : Pt → Pt → Int} (h : Anti g) {ps : List Pt} {i j : Nat} (hij : i ≤ j) (hj : j < ps.length) : C g ((ps.drop i).take (j + 1 - i)) + C g (ps.drop j ++ ps.take (i + 1)) = C g ps := by
  rcases part_split hij hj with ⟨rfl, u, p, v, rfl, hu⟩ | ⟨u, p, w, q, v, rfl, hu, hw⟩
  · have e1 : (u ++ p :: v).drop i = p :: v := by rw [← hu]; exact List.drop_left
    have e2 : (u ++ p :: v).take (i + 1) = u ++ [p] := by rw [← hu, List.take_append, List.take_of_length_le (by omega)]; simp
    rw [e1, e2, show i + 1 - i = 1 by omega]
    exact C_part1 h p u v
  · have e1 : (u ++ (p :: w ++ q :: v)).drop i = p :: w ++ q :: v := by rw [← hu]; exact List.drop_left
    have e2 : (u ++ (p :: w ++ q :: v)).take (i + 1) = u ++ [p] := by rw [← hu, List.take_append, List.take_of_length_le (by omega)]; simp
    have e3 : (u ++ (p :: w ++ q :: v)).drop j = q :: v := by
      have : u ++ (p :: w ++ q :: v) = (u ++ p :: w) ++ q :: v := by simp
      rw [this]
      have hl : (u ++ p :: w).length = j := by simp; omega
      rw [← hl]; exact List.drop_left
    have e4 : (p :: w ++ q :: v).take (j + 1 - i) = p :: w ++ [q] := by
      have : p :: w ++ q :: v = (p :: w ++ [q]) ++ v := by simp
      rw [this]
      have hl : (p :: w ++ [q]).length = j + 1 - i := by simp; omega
      rw [← hl]; exact List.take_left
    rw [e1, e2, e3, e4]
    exact C_part h p q u w v
theorem anti_wnd (m : Pt) : Anti (wnd m) := by
  intro a b
  have hb : bes a b m = - bes b a m := by
    unfold bes
    have e : (b.1 - a.1) * (m.2 - a.2) - (b.2 - a.2) * (m.1 - a.1) = -((a.1 - b.1) * (m.2 - b.2) - (a.2 - b.2) * (m.1 - b.1)) := by
      rw [Int.sub_mul, Int.sub_mul, Int.sub_mul, Int.sub_mul, Int.mul_sub, Int.mul_sub, Int.mul_sub, Int.mul_sub, Int.mul_sub, Int.mul_sub, Int.mul_sub, Int.mul_sub, Int.mul_comm a.2 b.1, Int.mul_comm b.2 a.1, Int.mul_comm a.2 a.1, Int.mul_comm b.2 b.1]
      omega
    exact e
  unfold wnd
  rw [hb]
  split <;> split <;> split <;> split <;> omega
theorem anti_ar : Anti arE := by
  intro a b
  unfold arE
  rw [Int.mul_comm a.1 b.2, Int.mul_comm b.1 a.2, Int.mul_comm a.2 b.1, Int.mul_comm b.2 a.1]
  omega
def c__law_parted_right (K : PySem.W.Frag) : Ct := fun as n P _ => ∃ ps x y, as = [.ge, .da (pathD ps), .da (.int x), .da (.int y)] ∧ 0 < ps.length ∧ ps.length ≤ 63 ∧ (∀ p ∈ ps, BtP 200 p) ∧ (-2147483648 ≤ x ∧ x ≤ 2147483647) ∧ (-2147483648 ≤ y ∧ y ≤ 2147483647) ∧ 128 ≤ n ∧ ∀ m, (m ≤ n ∧ n ≤ m + 128) → P (.da (.bool true)) m
theorem l__law_parted_right (K : PySem.W.Frag) : ∀ as n P X, c__law_parted_right K as n P X → as.length = ps__law_parted_right.length → w__law_parted_right K (outA P) X (entry N__law_parted_right as n) := by
  rintro as n P X ⟨ps, x, y, rfl, h0, hl, hb, hx, hy, hn, h⟩ -
  have hlen : (ps.map ptD).length = ps.length := List.length_map _
  have tl : Bt 10 (((ps.map ptD).length : Nat) : Int) := .of (by omega) (by omega)
  walk_at "V"
  refine ⟨_, rfl, by omega, (by apply Bt.mono; (· (repeat' (first | assumption | apply Bt.mul | apply Bt.addA | apply Bt.subA | apply Bt.negA | exact Bt.c (by decide)))); (· decide)), by omega, fun u m1 u1 u2 u3 => ?_⟩
  walk_at "V"
  refine ⟨_, rfl, by omega, (by apply Bt.mono; (· (repeat' (first | assumption | apply Bt.mul | apply Bt.addA | apply Bt.subA | apply Bt.negA | exact Bt.c (by decide)))); (· decide)), by omega, fun v m2 v1 v2 v3 => ?_⟩
  walk_at "V"
  refine ⟨[u, v], rfl, fun ns hp hs => ?_⟩
  obtain ⟨a, b, rfl, hab, hab'⟩ := sort2 hp hs
  have ha0 : 0 ≤ a ∧ a < ps.length := by omega
  have hb0 : 0 ≤ b ∧ b < ps.length := by omega
  obtain ⟨i, rfl⟩ : ∃ i : Nat, a = i := ⟨a.toNat, by omega⟩
  obtain ⟨j, rfl⟩ : ∃ j : Nat, b = j := ⟨b.toNat, by omega⟩
  have hij : i ≤ j := by omega
  have hj : j < ps.length := by omega
  walk_at "V"
  have c1 : cutA (ps.map ptD) (some (i : Int)) (some ((j : Int) + 1)) = ((ps.drop i).take (j + 1 - i)).map ptD := by
    rw [show ((j : Int) + 1) = ((j + 1 : Nat) : Int) by push_cast; rfl, cut_mid (by omega) (by omega), List.map_take, List.map_drop]
  have c2 : cutA (ps.map ptD) (some (j : Int)) none = (ps.drop j).map ptD := by rw [cut_from (by omega), List.map_drop]
  have c3 : cutA (ps.map ptD) none (some ((i : Int) + 1)) = (ps.take (i + 1)).map ptD := by
    rw [show ((i : Int) + 1) = ((i + 1 : Nat) : Int) by push_cast; rfl, cut_to (by omega), List.map_take]
  rw [c1, c2, c3, ← List.map_append]
  have hfl : ((ps.drop i).take (j + 1 - i)).length ≤ 64 := by rw [List.length_take, List.length_drop]; omega
  have hsl : (ps.drop j ++ ps.take (i + 1)).length ≤ 64 := by rw [List.length_append, List.length_take, List.length_drop]; omega
  have hfb : ∀ p ∈ (ps.drop i).take (j + 1 - i), BtP 200 p := fun p hp => hb p (List.mem_of_mem_drop (List.mem_of_mem_take hp))
  have hsb : ∀ p ∈ ps.drop j ++ ps.take (i + 1), BtP 200 p := fun p hp => (List.mem_append.mp hp).elim (fun z => hb p (List.mem_of_mem_drop z)) fun z => hb p (List.mem_of_mem_take z)
  refine ⟨small_line (by rw [List.length_map, List.length_map, List.length_drop, List.length_take]; omega), ?_⟩
  refine .inr ⟨_, x, y, rfl, hfl, hfb, hx, hy, ?_⟩
  walk_at "V"
  refine .inr ⟨_, x, y, rfl, hsl, hsb, hx, hy, ?_⟩
  walk_at "V"
  refine .inr ⟨_, x, y, rfl, by omega, hb, hx, hy, ?_⟩
  walk_at "V"
  have e1 : turnsL (midP x y) ((ps.drop i).take (j + 1 - i)) + turnsL (midP x y) (ps.drop j ++ ps.take (i + 1)) = turnsL (midP x y) ps := part_eq (anti_wnd _) hij hj
  have e2 : areaL ((ps.drop i).take (j + 1 - i)) + areaL (ps.drop j ++ ps.take (i + 1)) = areaL ps := part_eq anti_ar hij hj
  rw [e1, decide_eq_true rfl]
  walk_at "V"
  refine .inr ⟨_, rfl, hfl, hfb, ?_⟩
  walk_at "V"
  refine .inr ⟨_, rfl, hsl, hsb, ?_⟩
  walk_at "V"
  refine .inr ⟨_, rfl, by omega, hb, ?_⟩
  walk_at "V"
  rw [e2, decide_eq_true rfl]
  exact h _ (by omega)

theorem V__law_parted_right (Z : Fax P w K mg base) {cdv : Value} {A : Around} {out : List Env} {s : Shared} {H : Hp} {E : XK} (hcv : CodeOf K (He.ga K "_law_parted_right") "_law_parted_right" cdv) (hr : Room 5 (A.deeper (envOfC "_law_parted_right" (defScope s__law_parted_right) s.heap.objs.size (He.ga K "_law_parted_right") cdv))) (hg : (A.deeper (envOfC "_law_parted_right" (defScope s__law_parted_right) s.heap.objs.size (He.ga K "_law_parted_right") cdv)).guards = some []) :
    ∃ ts, VSs (gx K) (cxOf (L2.CX P w) P w K mg base N__law_parted_right "_law_parted_right" (defScope s__law_parted_right) (He.ga K "_law_parted_right") cdv A out s H E) E (defBody s__law_parted_right) ts (w__law_parted_right K) := by
  have tk : Takes (cxOf (L2.CX P w) P w K mg base N__law_parted_right "_law_parted_right" (defScope s__law_parted_right) (He.ga K "_law_parted_right") cdv A out s H E) (fun c d _ H => E c d H) := takes_of rfl rfl rfl rfl
  exact ⟨_,
  (vss_cons
    (vs_asg (ve_b cb_sorted rc_sorted Z.n_sorted (va_cons (ve_lst (va_cons (VX.ve (vx_call (ok__law_random Z) (bn__law_random Z) Z.g__law_random Z.d__law_random.kp (hr.mono (by decide)) hg tk (vr_cons (vx_n 0) (vr_cons (VE.vx (ve_b cb_len rc_len Z.n_len (va_cons (ve_n 1) va_nil))) vr_nil)))) (va_cons (VX.ve (vx_call (ok__law_random Z) (bn__law_random Z) Z.g__law_random Z.d__law_random.kp (hr.mono (by decide)) hg tk (vr_cons (vx_n 0) (vr_cons (VE.vx (ve_b cb_len rc_len Z.n_len (va_cons (ve_n 1) va_nil))) vr_nil)))) va_nil))) va_nil)) (vgl_t (vgl_n 4 nd__law_parted_right (vgl_n 5 nd__law_parted_right vgl_nil))))
  (vss_cons
    (vs_par 6 7 nd__law_parted_right (va_cons (ve_sl (ve_n 1) (vo_some (ve_n 4)) (vo_some (ve_add (ve_n 5) ve_int))) (va_cons (ve_add (ve_sl (ve_n 1) (vo_some (ve_n 5)) vo_none) (ve_sl (ve_n 1) vo_none (vo_some (ve_add (ve_n 4) ve_int)))) va_nil)))
  (vss_one (vs_ret (ve_and (ve_c (cv_eq hr.units) (ve_add (VX.ve (vx_call (ok_turns Z) (bn_turns Z) Z.g_turns Z.d_turns.kp (hr.mono (by decide)) hg tk (vr_cons (VE.vx (ve_n 6)) (vr_cons (VE.vx (ve_n 2)) (vr_cons (VE.vx (ve_n 3)) vr_nil))))) (VX.ve (vx_call (ok_turns Z) (bn_turns Z) Z.g_turns Z.d_turns.kp (hr.mono (by decide)) hg tk (vr_cons (VE.vx (ve_n 7)) (vr_cons (VE.vx (ve_n 2)) (vr_cons (VE.vx (ve_n 3)) vr_nil)))))) (VX.ve (vx_call (ok_turns Z) (bn_turns Z) Z.g_turns Z.d_turns.kp (hr.mono (by decide)) hg tk (vr_cons (VE.vx (ve_n 1)) (vr_cons (VE.vx (ve_n 2)) (vr_cons (VE.vx (ve_n 3)) vr_nil))))) (by first | exact nomark _ | rfl | with_unfolding_all rfl)) (ve_one (ve_c (cv_eq hr.units) (ve_add (VX.ve (vx_call (ok_area Z) (bn_area Z) Z.g_area Z.d_area.kp (hr.mono (by decide)) hg tk (vr_cons (VE.vx (ve_n 6)) vr_nil))) (VX.ve (vx_call (ok_area Z) (bn_area Z) Z.g_area Z.d_area.kp (hr.mono (by decide)) hg tk (vr_cons (VE.vx (ve_n 7)) vr_nil)))) (VX.ve (vx_call (ok_area Z) (bn_area Z) Z.g_area Z.d_area.kp (hr.mono (by decide)) hg tk (vr_cons (VE.vx (ve_n 1)) vr_nil))) (by first | exact nomark _ | rfl | with_unfolding_all rfl))))))))⟩
theorem ok__law_parted_right (Z : Fax P w K mg base) : FnG P w K mg base 6 (He.ga K "_law_parted_right") (fdOf K "_law_parted_right") ps__law_parted_right (spV (gx K) (c__law_parted_right K) 4) :=
  fn_V Z.d__law_parted_right sc__law_parted_right (by decide) (by decide) (l__law_parted_right K) fun cdv A out s H E hcv hr hg => V__law_parted_right Z hcv hr hg
abbrev N__law_right : List Str := ["generator", "boxes", "path", "kept", "size", "at", "late", "sign", "turn", "x", "y", "due", "across", "down", "moved", "one", "other", "left", "low", "right", "high", "many"]
abbrev ps__law_right : List Str := ["generator"]
theorem nd__law_right : N__law_right.Nodup := by decide +kernel
theorem sc__law_right : FnScope N__law_right ps__law_right (defScope s__law_right) := ⟨rfl, rfl, rfl, nd__law_right, rfl, by decide +kernel, by decide +kernel⟩
theorem bi__law_right (Z : Fax P w K mg base) : Binds K (fdOf K "_law_right") ps__law_right [] := Z.d__law_right.bindsN fun _ _ _ _ _ _ us hl => match us, hl with | [_], _ => rfl
theorem bn__law_right (Z : Fax P w K mg base) : Bnd K (fdOf K "_law_right") ps__law_right 1 [] (fun us _ => us) (fun vs _ => vs) (fun as _ => as) := bnd_all (bi__law_right Z)
def b1__law_right (K : PySem.W.Frag) : WS := (wSeq (wPar 9 10 (wCons (wD (wCall (c__law_between K) (fun as _ => as) (rCons (xN 0) (rCons (xD (w2 (fI0 fun i j => i - j) (wC (.int 0)) (wC (.int 2)))) (rCons (xD (wC (.int 9))) rNil))) rNil)) (wCons (wD (wCall (c__law_between K) (fun as _ => as) (rCons (xN 0) (rCons (xD (w2 (fI0 fun i j => i - j) (wC (.int 0)) (wC (.int 2)))) (rCons (xD (wC (.int 9))) rNil))) rNil)) wNil)))
  (wSeq (wAsg (wTup (wCons (wD (wCall (c__law_between K) (fun as _ => as) (rCons (xN 0) (rCons (xD (w2 (fI0 fun i j => i - j) (wC (.int 0)) (w2 (fI CPow' fun i j => i ^ j.toNat) (wC (.int 2)) (wC (.int 29))))) (rCons (xD (w2 (fI CPow' fun i j => i ^ j.toNat) (wC (.int 2)) (wC (.int 29)))) rNil))) rNil)) (wCons (wD (wCall (c__law_between K) (fun as _ => as) (rCons (xN 0) (rCons (xD (w2 (fI0 fun i j => i - j) (wC (.int 0)) (w2 (fI CPow' fun i j => i ^ j.toNat) (wC (.int 2)) (wC (.int 20))))) (rCons (xD (w2 (fI CPow' fun i j => i ^ j.toNat) (wC (.int 2)) (wC (.int 20)))) rNil))) rNil)) wNil))) (gT (gMore (gN 12) (gMore (gN 13) gNone))))
  (wSeq (wAsg (wLst (wLc [15, 16] (wSeqI (wN 2)) (gT (gMore (gN 15) (gMore (gN 16) gNone))) wYes (wTup (wCons (w2 fAdd (wN 15) (w2 fMul (wC (.int 16)) (wN 12))) (wCons (w2 fAdd (wN 16) (w2 fMul (wC (.int 16)) (wN 13))) wNil))))) (gN 14))
  (wIf (wOr (wNot (wB (wD (wCall (c__law_exact K) (fun as _ => as) (rCons (xD (wD (wCall (c__law_due K) (fun as _ => as) (rCons (xD (wN 1)) (rCons (xD (wN 9)) (rCons (xD (wN 10)) rNil))) rNil))) (rCons (xD (wD (wCall (c_turns K) (fun as _ => as) (rCons (xD (wN 14)) (rCons (xD (w2 fAdd (wN 9) (wN 12))) (rCons (xD (w2 fAdd (wN 10) (wN 13))) rNil))) rNil))) rNil)) rNil)))) (wOr (wB (w2 fNe (wD (wCall (c_area K) (fun as _ => as) (rCons (xD (wN 14)) rNil) rNil)) (wN 4))) (wNot (wB (wD (wCall (c__law_parted_right K) (fun as _ => as) (rCons (xN 0) (rCons (xD (wN 2)) (rCons (xD (wN 9)) (rCons (xD (wN 10)) rNil)))) rNil)))))) (wRet (wC (.bool false))) wNext))))
def b2__law_right (K : PySem.W.Frag) : WS := (wSeq (wPar 9 10 (wCons (wD (wCall (c__law_pick K) (fun as _ => as) (rCons (xN 0) (rCons (xD (wLst (wCons (wD (wCall (c__law_between K) (fun as _ => as) (rCons (xN 0) (rCons (xD (w2 (fI0 fun i j => i - j) (wC (.int 0)) (wC (.int 3)))) (rCons (xD (wC (.int 10))) rNil))) rNil)) (wCons (wD (wCall (c__law_between K) (fun as _ => as) (rCons (xN 0) (rCons (xD (w2 (fI0 fun i j => i - j) (wC (.int 0)) (wC (.int 3)))) (rCons (xD (wC (.int 10))) rNil))) rNil)) (wCons (w2 (fI CPow' fun i j => i ^ j.toNat) (wC (.int 2)) (wC (.int 30))) wNil))))) rNil)) rNil)) (wCons (wD (wCall (c__law_between K) (fun as _ => as) (rCons (xN 0) (rCons (xD (w2 (fI0 fun i j => i - j) (wC (.int 0)) (wC (.int 3)))) (rCons (xD (wC (.int 10))) rNil))) rNil)) wNil)))
  (wSeq (wAsg (w2 fMul (wN 7) (wD (wCall (c__law_due K) (fun as _ => as) (rCons (xD (wN 1)) (rCons (xD (wN 9)) (rCons (xD (wN 10)) rNil))) rNil))) (gN 11))
  (wIf (wNot (wB (wD (wCall (c__law_exact K) (fun as _ => as) (rCons (xD (wLst (wCons (wN 11) (wCons (wN 11) wNil)))) (rCons (xD (wLst (wCons (wD (wCall (c_turns K) (fun as _ => as) (rCons (xD (wN 6)) (rCons (xD (wN 9)) (rCons (xD (wN 10)) rNil))) rNil)) (wCons (wD (wCall (c_turns K) ga_turns_y_x_path rNil (rCons (xD (wN 10)) (rCons (xD (wN 9)) (rCons (xD (wN 6)) rNil))))) wNil)))) rNil)) rNil)))) (wRet (wC (.bool false))) wNext)))
def b3__law_right (K : PySem.W.Frag) : WS := (wIf (wOr (wB (w2 (fIB fun i j => decide (i < j)) (wN 7) (wC (.int 2)))) (wB (w2 (fIB fun i j => decide (i < j)) (w2 fMul (wC (.int 2)) (wCB fLen (wCons (wN 2) wNil))) (wC (.int 65))))) (wSeq (wIf (wNot (wB (wD (wCall (c__law_exact K) (fun as _ => as) (rCons (xD (wLst (wCons (w2 fMul (wN 7) (wN 4)) (wCons (w2 fMul (wN 7) (wN 4)) wNil)))) (rCons (xD (wLst (wCons (wD (wCall (c_area K) (fun as _ => as) (rCons (xD (wN 6)) rNil) rNil)) (wCons (wD (wCall (c_area K) ga_area_path rNil (rCons (xD (wN 6)) rNil))) wNil)))) rNil)) rNil)))) (wRet (wC (.bool false))) wNext)
  (wFor (wRng1 (wCons (wC (.int 12)) wNil)) (gN 8) (b2__law_right K))) wNext)
--MARK _law_right
abbrev w__law_right (K : PySem.W.Frag) : WS := (wSeq (wAsg (wD (wCall (c__law_rectangles K) (fun as _ => as) (rCons (xN 0) rNil) rNil)) (gN 1))
  (wSeq (wAsg (wD (wCall (c__law_path K) (fun as _ => as) (rCons (xN 0) (rCons (xD (wN 1)) rNil)) rNil)) (gN 2))
  (wSeq (wPar 3 4 (wCons (wCB fRepr (wCons (wN 2) wNil)) (wCons (wCB fSum (wCons (wLst (wLc [17, 18, 19, 20, 21] (wSeqI (wN 1)) (gT (gMore (gN 17) (gMore (gN 18) (gMore (gN 19) (gMore (gN 20) (gMore (gN 21) gNone)))))) wYes (w2 fMul (w2 fMul (w2 fMul (wC (.int 2)) (wN 21)) (w2 (fI0 fun i j => i - j) (wN 19) (wN 17))) (w2 (fI0 fun i j => i - j) (wN 20) (wN 18))))) wNil)) wNil)))
  (wSeq (wAsg (wD (wCall (c__law_random K) (fun as _ => as) (rCons (xN 0) (rCons (xD (wCB fLen (wCons (wN 2) wNil))) rNil)) rNil)) (gN 5))
  (wSeq (wFor (wSeqI (wLst (wCons (wTup (wCons (wN 2) (wCons (wC (.int 1)) wNil))) (wCons (wTup (wCons (w2 fAdd (wSl (wN 2) (wPart (wN 5)) wNo) (wSl (wN 2) wNo (wPart (wN 5)))) (wCons (wC (.int 1)) wNil))) (wCons (wTup (wCons (wSl3 (wN 2) wNo wNo (wPart (w2 (fI0 fun i j => i - j) (wC (.int 0)) (wC (.int 1))))) (wCons (w2 (fI0 fun i j => i - j) (wC (.int 0)) (wC (.int 1))) wNil))) (wCons (wTup (wCons (wSl (w2 fAdd (wN 2) (wN 2)) wNo (wPart (wC (.int 64)))) (wCons (wC (.int 2)) wNil))) wNil)))))) (gT (gMore (gN 6) (gMore (gN 7) gNone))) (b3__law_right K))
  (wSeq (wFor (wRng1 (wCons (wC (.int 6)) wNil)) (gN 8) (b1__law_right K))
  (wRet (w2 fEq (wCB fRepr (wCons (wN 2) wNil)) (wN 3)))))))))
theorem C_path0 {g : Pt → Pt → Int} (h : Anti g) (s : Pt) : ∀ bis : List (Box × Nat), (∀ p ∈ bis, p.2 < 4) → (∀ p ∈ bis, p.1.m ≠ 0) → S g (pathL s bis ++ [s]) = (bis.map fun p => p.1.m * C g (corners p.1)).sum
  | [], _, _ => by
    show S g [s, s] = 0
    rw [S_cons, S_one, anti0 h]; rfl
  | (b, i) :: bis, hi, hm => by
    have ih := C_path0 h s bis (fun p hp => hi p (List.mem_cons_of_mem _ hp)) fun p hp => hm p (List.mem_cons_of_mem _ hp)
    have hr := S_round h s b (hi _ (List.mem_cons_self ..)) (hm _ (List.mem_cons_self ..))
    have q := S_app g s ((bis.flatMap fun p => roundL p.1 p.2 ++ [s]) ++ [s]) (s :: roundL b i)
    rw [List.map_cons, List.sum_cons, ← ih, ← hr]
    unfold pathL
    rw [List.flatMap_cons]
    simp only [List.cons_append, List.append_assoc, List.nil_append] at q ⊢
    exact q
theorem C_path {g : Pt → Pt → Int} (h : Anti g) {bs : List Box} {ps : List Pt} (hp : PathOk bs ps) (hm : ∀ b ∈ bs, b.m ≠ 0) : C g ps = (bs.map fun b => b.m * C g (corners b)).sum := by
  obtain ⟨s, bis, _, rfl, hi, rfl⟩ := hp
  have := C_path0 h s bis hi fun p hp => hm _ (List.mem_map_of_mem hp)
  rw [List.map_map]
  show C g (s :: _) = _
  rw [C_cons]
  exact this
theorem Q_turns (m : Pt) {b : Box} (h1 : b.l < b.r) (h2 : b.lo < b.h) : C (wnd m) (corners b) = if inB m b then 1 else 0 := by
  unfold corners
  rw [C_cons]
  simp only [List.cons_append, List.nil_append, S_cons, S_one]
  have e1 : ∀ x y : Int, bes (b.r, x) (b.r, y) m = (y - x) * (b.r - m.1) := fun x y => by
    unfold bes
    simp only [Int.sub_self, Int.zero_mul, Int.zero_sub]
    rw [← Int.mul_neg]; congr 1; omega
  have e2 : bes (b.l, b.h) (b.l, b.lo) m = - ((b.h - b.lo) * (b.l - m.1)) := by
    unfold bes
    simp only [Int.sub_self, Int.zero_mul, Int.zero_sub]
    rw [← Int.mul_neg, ← Int.mul_neg, show -(m.1 - b.l) = b.l - m.1 by omega, show b.lo - b.h = -(b.h - b.lo) by omega, Int.neg_mul, Int.mul_neg]
  have p1 : 0 < (b.h - b.lo) * (b.r - m.1) ↔ m.1 < b.r := by
    constructor
    · intro z
      have := Int.pos_of_mul_pos_left (show 0 < (b.r - m.1) * (b.h - b.lo) by rw [Int.mul_comm]; exact z) (by omega)
      omega
    · intro z; exact Int.mul_pos (by omega) (by omega)
  have p2 : - ((b.h - b.lo) * (b.l - m.1)) < 0 ↔ m.1 < b.l := by
    constructor
    · intro z
      have := Int.pos_of_mul_pos_left (show 0 < (b.l - m.1) * (b.h - b.lo) by rw [Int.mul_comm]; omega) (by omega)
      omega
    · intro z
      have := Int.mul_pos (show 0 < b.h - b.lo by omega) (show 0 < b.l - m.1 by omega)
      omega
  have w1 : wnd m (b.l, b.lo) (b.r, b.lo) = 0 := by
    unfold wnd
    rw [if_neg (by simp only; omega), if_neg (by simp only; omega)]; rfl
  have w2 : wnd m (b.r, b.h) (b.l, b.h) = 0 := by
    unfold wnd
    rw [if_neg (by simp only; omega), if_neg (by simp only; omega)]; rfl
  have w3 : wnd m (b.r, b.lo) (b.r, b.h) = if b.lo ≤ m.2 ∧ m.2 < b.h ∧ m.1 < b.r then 1 else 0 := by
    unfold wnd
    rw [e1]
    simp only [p1]
    rw [if_neg (show ¬ (b.h ≤ m.2 ∧ m.2 < b.lo ∧ (b.h - b.lo) * (b.r - m.1) < 0) by omega)]
    omega
  have w4 : wnd m (b.l, b.h) (b.l, b.lo) = - if b.lo ≤ m.2 ∧ m.2 < b.h ∧ m.1 < b.l then 1 else 0 := by
    unfold wnd
    rw [e2]
    simp only [p2]
    rw [if_neg (show ¬ (b.h ≤ m.2 ∧ m.2 < b.lo ∧ 0 < - ((b.h - b.lo) * (b.l - m.1))) by omega)]
    omega
  rw [w1, w2, w3, w4]
  unfold inB
  by_cases a1 : b.lo ≤ m.2 <;> by_cases a2 : m.2 < b.h <;> by_cases a3 : m.1 < b.r <;> by_cases a4 : b.l ≤ m.1
  all_goals
    have a5 : (m.1 < b.l) ↔ ¬ b.l ≤ m.1 := by omega
    simp only [a5, a1, a2, a3, a4, decide_true, decide_false, Bool.and_true, Bool.and_false, Bool.true_and, Bool.false_and, if_true, if_false, true_and, and_true, false_and, and_false, not_true_eq_false, not_false_eq_true, Bool.false_eq_true]
    omega
theorem Q_area (b : Box) : C arE (corners b) = 2 * (b.r - b.l) * (b.h - b.lo) := by
  unfold corners
  rw [C_cons]
  simp only [List.cons_append, List.nil_append, S_cons, S_one, arE]
  rw [Int.mul_sub, Int.mul_sub, Int.sub_mul, Int.sub_mul, Int.mul_assoc, Int.mul_assoc, Int.mul_assoc, Int.mul_assoc]
  omega
theorem turns_path {bs : List Box} {ps : List Pt} (hp : PathOk bs ps) (hb : ∀ b ∈ bs, BoxOk b) (m : Pt) : turnsL m ps = dueL bs m := by
  show C (wnd m) ps = _
  rw [C_path (anti_wnd m) hp fun b h => (hb b h).2.2.2.2.2.2.2]
  unfold dueL
  congr 1
  apply List.map_congr_left
  intro b h
  rw [Q_turns m (hb b h).2.2.2.2.1 (hb b h).2.2.2.2.2.1]
  split <;> simp
def sizeL (bs : List Box) : Int := (bs.map fun b => 2 * b.m * (b.r - b.l) * (b.h - b.lo)).sum
theorem area_path {bs : List Box} {ps : List Pt} (hp : PathOk bs ps) (hb : ∀ b ∈ bs, BoxOk b) : areaL ps = sizeL bs := by
  show C arE ps = _
  rw [C_path anti_ar hp fun b h => (hb b h).2.2.2.2.2.2.2]
  unfold sizeL
  congr 1
  apply List.map_congr_left
  intro b h
  rw [Q_area]
  ac_rfl
/-! moved paths -/
def mv (t p : Pt) : Pt := (p.1 + t.1, p.2 + t.2)
theorem edges_map (f : Pt → Pt) : ∀ ps, edgesL (ps.map f) = (edgesL ps).map fun e => (f e.1, f e.2)
  | [] => rfl
  | a :: r => by
    rw [List.map_cons, edges_open, edges_open]
    have e : f a :: List.map f r ++ [f a] = (a :: r ++ [a]).map f := by simp
    rw [e]
    unfold openE
    rw [← List.map_tail, List.zip_map]
    rfl
theorem turns_mv (t m : Pt) (ps : List Pt) : turnsL (mv t m) (ps.map (mv t)) = turnsL m ps := by
  unfold turnsL sumE
  rw [edges_map, List.map_map]
  congr 1
  apply List.map_congr_left
  intro e _
  obtain ⟨a, b⟩ := e
  have hb : bes (mv t a) (mv t b) (mv t m) = bes a b m := by
    unfold bes mv
    simp only
    rw [show b.1 + t.1 - (a.1 + t.1) = b.1 - a.1 by omega, show m.2 + t.2 - (a.2 + t.2) = m.2 - a.2 by omega, show b.2 + t.2 - (a.2 + t.2) = b.2 - a.2 by omega, show m.1 + t.1 - (a.1 + t.1) = m.1 - a.1 by omega]
  show wnd (mv t m) (mv t a) (mv t b) = wnd m a b
  unfold wnd
  rw [hb]
  have l : ∀ x y : Pt, (mv t x).2 ≤ (mv t y).2 ↔ x.2 ≤ y.2 := fun x y => by unfold mv; simp only; omega
  have l' : ∀ x y : Pt, (mv t x).2 < (mv t y).2 ↔ x.2 < y.2 := fun x y => by unfold mv; simp only; omega
  simp only [l, l']
theorem S_tel (g : Pt → Pt → Int) (k : Pt → Int) (z : Pt) : ∀ (a : Pt) (r : List Pt), S (fun a b => g a b + (k b - k a)) (a :: r ++ [z]) = S g (a :: r ++ [z]) + (k z - k a)
  | a, [] => by
    show S _ [a, z] = S _ [a, z] + _
    rw [S_cons, S_cons, S_one, S_one]; omega
  | a, b :: r => by
    have ih := S_tel g k z b r
    simp only [List.cons_append] at ih ⊢
    rw [S_cons, S_cons, ih]; omega
theorem area_mv (t : Pt) : ∀ ps, areaL (ps.map (mv t)) = areaL ps
  | [] => rfl
  | a :: r => by
    have h1 : areaL ((a :: r).map (mv t)) = C (fun a b => arE a b + ((t.1 * b.2 - t.2 * b.1) - (t.1 * a.2 - t.2 * a.1))) (a :: r) := by
      unfold areaL C sumE
      rw [edges_map, List.map_map]
      congr 1
      apply List.map_congr_left
      intro e _
      obtain ⟨a, b⟩ := e
      show arE (mv t a) (mv t b) = _
      unfold arE mv
      simp only
      rw [Int.add_mul, Int.mul_add, Int.mul_add, Int.add_mul, Int.mul_add, Int.mul_add, Int.mul_comm a.1 t.2, Int.mul_comm b.1 t.2]
      omega
    rw [h1, C_cons, S_tel arE (fun p => t.1 * p.2 - t.2 * p.1) a a r]
    show S arE _ + _ = C arE (a :: r)
    rw [C_cons]; omega
theorem path_shorts : ∀ ps : List Pt, (∀ p ∈ ps, BtP 200 p) → shorts (ps.map ptD)
  | [], _ => trivial
  | p :: ps, h => ⟨⟨(h p (List.mem_cons_self ..)).1.mono (by decide), (h p (List.mem_cons_self ..)).2.mono (by decide), trivial⟩, path_shorts ps fun q hq => h q (List.mem_cons_of_mem _ hq)⟩
theorem path_depth : ∀ ps : List Pt, PyData.depthAll (ps.map ptD) ≤ 1
  | [] => by decide
  | p :: ps => by
    have ih := path_depth ps
    rw [List.map_cons, PyData.depthAll]
    have e : PyData.depth (ptD p) = 1 := rfl
    omega
theorem path_bulk : ∀ ps : List Pt, PyData.bulkAll (ps.map ptD) = 3 * ps.length
  | [] => rfl
  | p :: ps => by
    have ih := path_bulk ps
    rw [List.map_cons, PyData.bulkAll, ih, List.length_cons]
    have e : PyData.bulk (ptD p) = 2 := rfl
    omega
theorem path_rp {ps : List Pt} (hb : ∀ p ∈ ps, BtP 200 p) (hl : ps.length ≤ 100) : Rp (pathD ps) := by
  obtain ⟨a1, a2⟩ := short_ok (pathD ps) (path_shorts ps hb)
  refine rp_of a1 ?_ a2 ?_
  · show PyData.depthAll _ + 1 ≤ 50
    have := path_depth ps; omega
  · show PyData.bulkAll _ ≤ 20000
    rw [path_bulk]; omega
theorem pick_rev {α : Type} (xs : List α) : pickA xs none none (some (0 - 1)) = xs.reverse := by
  unfold pickA
  rw [show ((0 : Int) - 1) = -1 by decide, PySem.W.krv_bounds, PySem.W.krv_sliceRange, PySem.W.krv_range, List.filterMap_reverse]
  congr 1
  have h := PySem.W.krv_all xs.toArray
  simpa using h
def LateOk (ps qs : List Pt) (sg : Int) : Prop := qs.length ≤ 64 ∧ (∀ p ∈ qs, BtP 200 p) ∧ ∀ g, Anti g → C g qs = sg * C g ps
theorem sum_bt {k : Nat} : ∀ xs : List Int, (∀ x ∈ xs, Bt k x) → Bt (k + xs.length) xs.sum
  | [], _ => .zero
  | x :: xs, h => by
    have ih := sum_bt xs fun y hy => h y (List.mem_cons_of_mem _ hy)
    rw [List.sum_cons]
    exact ((h x (List.mem_cons_self ..)).mono (Nat.le_add_right _ _)).add ih
theorem size_bt {bs : List Box} (hb : ∀ b ∈ bs, BoxOk b) (hl : bs.length ≤ 7) : Bt 340 (sizeL bs) := by
  have := sum_bt (k := 320) (bs.map fun b => 2 * b.m * (b.r - b.l) * (b.h - b.lo)) fun x hx => by
    obtain ⟨b, hb', rfl⟩ := List.mem_map.mp hx
    obtain ⟨b1, b2, b3, b4, b5, b6, b7, b8⟩ := hb b hb'
    have b9 : Bt 4 b.m := .of (by omega) (by omega)
    exact (by apply Bt.mono; (· (repeat' (first | assumption | apply Bt.mul | apply Bt.addA | apply Bt.subA | apply Bt.negA | exact Bt.c (by decide)))); (· decide))
  exact this.mono (by rw [List.length_map]; omega)
theorem due_bt {bs : List Box} (hb : ∀ b ∈ bs, BoxOk b) (hl : bs.length ≤ 7) (m : Pt) : Bt 20 (dueL bs m) := by
  have := sum_bt (k := 4) (bs.map fun b => if inB m b then b.m else 0) fun x hx => by
    obtain ⟨b, hb', rfl⟩ := List.mem_map.mp hx
    obtain ⟨b1, b2, b3, b4, b5, b6, b7, b8⟩ := hb b hb'
    split
    · exact .of (by omega) (by omega)
    · exact .zero
  exact this.mono (by rw [List.length_map]; omega)
theorem cut_to2 {α : Type} {xs : List α} {j : Nat} : cutA xs none (some (j : Int)) = xs.take j := by
  unfold cutA
  rw [HT.sIx_none, HT.sIx_nat, List.drop_zero, Nat.sub_zero]
  by_cases h : j ≤ xs.length
  · rw [Nat.min_eq_left h]
  · rw [Nat.min_eq_right (by omega), List.take_length, List.take_of_length_le (by omega)]
def c__law_right (K : PySem.W.Frag) : Ct := fun as n P _ => as = [.ge] ∧ 50000 ≤ n ∧ ∀ m, (m ≤ n ∧ n ≤ m + 50000) → P (.da (.bool true)) m
theorem l__law_right (K : PySem.W.Frag) : ∀ as n P X, c__law_right K as n P X → as.length = ps__law_right.length → w__law_right K (outA P) X (entry N__law_right as n) := by
  rintro as n P X ⟨rfl, hn, h⟩ -
  walk_at "V"
  refine ⟨rfl, by omega, fun bs m1 hb hbl hpl h1 => ?_⟩
  walk_at "V"
  refine ⟨bs, rfl, hb, hbl, hpl, by omega, fun ps m2 hp h2 => ?_⟩
  have hlen : ps.length ≤ 63 ∧ 0 < ps.length := by
    obtain ⟨s, bis, _, e, hi, rfl⟩ := hp
    rw [pathL_len s bis hi, e]; omega
  have hbt : ∀ p ∈ ps, BtP 200 p := by
    obtain ⟨s, bis, hs, e, hi, rfl⟩ := hp
    intro p hp
    have := pathL_bt (bis := bis) hs (fun q hq => hb _ (by rw [← e]; exact List.mem_map_of_mem hq)) p hp
    exact ⟨this.1.mono (by decide), this.2.mono (by decide)⟩
  have hrp := path_rp hbt (by omega)
  walk_at "V"
  refine ⟨hrp.1, hrp.2, by rw [List.length_map]; omega, ?_⟩
  refine lcm_of (fun d => match d with | .tuple [.int l, .int lo, .int r, .int h, .int k] => .int (2 * k * (r - l) * (h - lo)) | d => d) (fun e => ∃ s17 s18 s19 s20 s21, e = ⟨[.ge, .da (.list (bs.map boxD)), .da (pathD ps), .un, .un, .un, .un, .un, .un, .un, .un, .un, .un, .un, .un, .un, .un, s17, s18, s19, s20, s21], m2⟩) _ ?_ ?_ _ ⟨_, _, _, _, _, rfl⟩
  · rintro e ⟨s17, s18, s19, s20, s21, rfl⟩
    rw [List.map_map]
    have em : bs.map ((fun d => match d with | .tuple [.int l, .int lo, .int r, .int h, .int k] => .int (2 * k * (r - l) * (h - lo)) | d => d) ∘ boxD) = (bs.map fun b => 2 * b.m * (b.r - b.l) * (b.h - b.lo)).map PyData.int := by
      rw [List.map_map]; rfl
    rw [em]
    walk_at "V"
    refine f_Sum ?_
    show k2c _ _ (.int (sizeL bs))
    have tl : Bt 10 (((ps.map ptD).length : Nat) : Int) := .of (by rw [List.length_map]; omega) (by rw [List.length_map]; omega)
    walk_at "V"
    refine ⟨_, rfl, by rw [List.length_map]; omega, (by apply Bt.mono; (· (repeat' (first | assumption | apply Bt.mul | apply Bt.addA | apply Bt.subA | apply Bt.negA | exact Bt.c (by decide)))); (· decide)), by omega, fun x m3 x1 x2 x3 => ?_⟩
    rw [List.length_map] at x2
    obtain ⟨k, rfl⟩ : ∃ k : Nat, x = k := ⟨x.toNat, by omega⟩
    have hk : k < ps.length := by omega
    walk_at "V"
    have c2 : cutA (ps.map ptD) (some (k : Int)) none = (ps.drop k).map ptD := by rw [cut_from (by rw [List.length_map]; omega), List.map_drop]
    have c3 : cutA (ps.map ptD) none (some (k : Int)) = (ps.take k).map ptD := by rw [cut_to (by rw [List.length_map]; omega), List.map_take]
    have c4 : cutA (ps.map ptD ++ ps.map ptD) none (some 64) = ((ps ++ ps).take 64).map ptD := by
      rw [show (64 : Int) = ((64 : Nat) : Int) from rfl, cut_to2, List.map_take, List.map_append]
    rw [c2, c3, c4, pick_rev, ← List.map_append, ← List.map_reverse]
    refine ⟨small_line (by rw [List.length_map, List.length_map, List.length_drop, List.length_take]; omega), by decide, small_line (by rw [List.length_map]; omega), ?_⟩
    have hbt0 : ∀ p ∈ ps, BtP 61 p := by
      obtain ⟨s, bis, hs, e, hi, rfl⟩ := hp
      exact pathL_bt (bis := bis) hs (fun q hq => hb _ (by rw [← e]; exact List.mem_map_of_mem hq))
    have bsz := size_bt hb hbl
    have p29 : (2 : Int) ^ Int.toNat 29 = 536870912 := by decide
    have p20 : (2 : Int) ^ Int.toNat 20 = 1048576 := by decide
    refine lp_of (fun ds e => ∃ s6 s7 s8 s9 s10 s11 s12 s13 s14 s15 s16 s17 s18 s19 s20 s21 m, e = ⟨[.ge, .da (.list (bs.map boxD)), .da (pathD ps), .da (.str (pathD ps).shown), .da (.int (sizeL bs)), .da (.int (k : Nat)), s6, s7, s8, s9, s10, s11, s12, s13, s14, s15, s16, s17, s18, s19, s20, s21], m⟩ ∧ (m ≤ m3 ∧ m3 + 4000 * ds.length ≤ m + 16000) ∧ ∀ d ∈ ds, ∃ qs sg, d = .tuple [pathD qs, .int sg] ∧ (-2 ≤ sg ∧ sg ≤ 2) ∧ ((sg < 2 ∨ 2 * ps.length < 65) → LateOk ps qs sg)) ?_ ?_ _ _ ⟨_, _, _, _, _, _, _, _, _, _, _, _, _, _, _, _, _, rfl, by simp, ?_⟩
    · rintro e ⟨s6, s7, s8, s9, s10, s11, s12, s13, s14, s15, s16, s17, s18, s19, s20, s21, m, rfl, hm, -⟩
      simp only [List.length_nil] at hm
      walk_at "V"
      refine ⟨⟨by decide, by decide⟩, ?_⟩
      refine lp_of (fun ds e => ∃ s6 s7 s8 s9 s10 s11 s12 s13 s14 s15 s16 s17 s18 s19 s20 s21 m', e = ⟨[.ge, .da (.list (bs.map boxD)), .da (pathD ps), .da (.str (pathD ps).shown), .da (.int (sizeL bs)), .da (.int (k : Nat)), s6, s7, s8, s9, s10, s11, s12, s13, s14, s15, s16, s17, s18, s19, s20, s21], m'⟩ ∧ (m' ≤ m ∧ m + 500 * ds.length ≤ m' + 3000)) ?_ ?_ _ _ ⟨_, _, _, _, _, _, _, _, _, _, _, _, _, _, _, _, _, rfl, by simp [rng]⟩
      · rintro e ⟨s6, s7, s8, s9, s10, s11, s12, s13, s14, s15, s16, s17, s18, s19, s20, s21, m', rfl, hm'⟩
        simp only [List.length_nil] at hm'
        walk_at "V"
        refine ⟨hrp.1, hrp.2, ?_⟩
        exact h _ (by omega)
      · rintro d ds e N ⟨s6, s7, s8, s9, s10, s11, s12, s13, s14, s15, s16, s17, s18, s19, s20, s21, m4, rfl, hm'⟩ hN
        rw [List.length_cons] at hm'
        unfold b1__law_right
        walk_at "V"
        refine ⟨_, _, rfl, by decide, (by apply Bt.mono; (· (repeat' (first | assumption | apply Bt.mul | apply Bt.addA | apply Bt.subA | apply Bt.negA | exact Bt.c (by decide)))); (· decide)), by omega, fun x m5 x1 x2 x3 => ?_⟩
        walk_at "V"
        refine ⟨_, _, rfl, by decide, (by apply Bt.mono; (· (repeat' (first | assumption | apply Bt.mul | apply Bt.addA | apply Bt.subA | apply Bt.negA | exact Bt.c (by decide)))); (· decide)), by omega, fun y m6 y1 y2 y3 => ?_⟩
        walk_at "V"
        rw [p29]
        refine ⟨⟨by decide, by decide +kernel⟩, ⟨by decide, by decide +kernel⟩, _, _, rfl, by decide, (by apply Bt.mono; (· (repeat' (first | assumption | apply Bt.mul | apply Bt.addA | apply Bt.subA | apply Bt.negA | exact Bt.c (by decide)))); (· decide)), by omega, fun u m7 u1 u2 u3 => ?_⟩
        walk_at "V"
        rw [p20]
        refine ⟨⟨by decide, by decide +kernel⟩, ⟨by decide, by decide +kernel⟩, _, _, rfl, by decide, (by apply Bt.mono; (· (repeat' (first | assumption | apply Bt.mul | apply Bt.addA | apply Bt.subA | apply Bt.negA | exact Bt.c (by decide)))); (· decide)), by omega, fun v m8 v1 v2 v3 => ?_⟩
        have bu : Bt 40 u := .of (by omega) (by omega)
        have bv : Bt 40 v := .of (by omega) (by omega)
        have bx : Bt 40 x := .of (by omega) (by omega)
        have by_ : Bt 40 y := .of (by omega) (by omega)
        walk_at "V"
        refine ⟨by rw [List.length_map]; omega, ?_⟩
        refine lcm_of (fun d => match d with | .tuple [.int a, .int b] => .tuple [.int (a + 16 * u), .int (b + 16 * v)] | d => d) (fun e => ∃ s15 s16, e = ⟨[.ge, .da (.list (bs.map boxD)), .da (pathD ps), .da (.str (pathD ps).shown), .da (.int (sizeL bs)), .da (.int (k : Nat)), s6, s7, .da d, .da (.int x), .da (.int y), s11, .da (.int u), .da (.int v), s14, s15, s16, s17, s18, s19, s20, s21], m8⟩) _ ?_ ?_ _ ⟨_, _, rfl⟩
        · rintro e ⟨s15, s16, rfl⟩
          have em : (ps.map ptD).map (fun d => match d with | .tuple [.int a, .int b] => .tuple [.int (a + 16 * u), .int (b + 16 * v)] | d => d) = (ps.map (mv (16 * u, 16 * v))).map ptD := by
            rw [List.map_map, List.map_map]; rfl
          rw [em]
          have hml : (ps.map (mv (16 * u, 16 * v))).length ≤ 64 := by rw [List.length_map]; omega
          have hmb : ∀ p ∈ ps.map (mv (16 * u, 16 * v)), BtP 200 p := fun p hp' => by
            obtain ⟨q, hq, rfl⟩ := List.mem_map.mp hp'
            obtain ⟨q1, q2⟩ := hbt0 q hq
            exact ⟨show Bt 200 (q.1 + 16 * u) from (by apply Bt.mono; (· (repeat' (first | assumption | apply Bt.mul | apply Bt.addA | apply Bt.subA | apply Bt.negA | exact Bt.c (by decide)))); (· decide)), show Bt 200 (q.2 + 16 * v) from (by apply Bt.mono; (· (repeat' (first | assumption | apply Bt.mul | apply Bt.addA | apply Bt.subA | apply Bt.negA | exact Bt.c (by decide)))); (· decide))⟩
          walk_at "V"
          refine ⟨bs, x, y, rfl, by omega, (by apply Bt.mono; (· (repeat' (first | assumption | apply Bt.mul | apply Bt.addA | apply Bt.subA | apply Bt.negA | exact Bt.c (by decide)))); (· decide)), (by apply Bt.mono; (· (repeat' (first | assumption | apply Bt.mul | apply Bt.addA | apply Bt.subA | apply Bt.negA | exact Bt.c (by decide)))); (· decide)), ?_⟩
          walk_at "V"
          refine .inr ⟨_, x + u, y + v, rfl, hml, hmb, by omega, by omega, ?_⟩
          have et : turnsL (midP (x + u) (y + v)) (ps.map (mv (16 * u, 16 * v))) = dueL bs (midP x y) := by
            have e1 : midP (x + u) (y + v) = mv (16 * u, 16 * v) (midP x y) := by
              unfold mv
              simp only [Prod.mk.injEq]
              omega
            rw [e1, turns_mv, turns_path hp hb]
          rw [et]
          walk_at "V"
          refine ⟨_, rfl, rfl, ?_⟩
          walk_at "V"
          refine .inr ⟨_, rfl, hml, hmb, ?_⟩
          rw [area_mv, area_path hp hb]
          walk_at "V"
          refine ⟨ps, x, y, rfl, by omega, by omega, hbt, by omega, by omega, by omega, fun m9 h9 => ?_⟩
          walk_at "V"
          exact hN _ ⟨_, _, _, _, _, _, _, _, _, _, _, _, _, _, _, _, _, rfl, by omega⟩
        · rintro d' acc e N' hd' ⟨s15, s16, rfl⟩ hN'
          obtain ⟨q, hq, rfl⟩ := List.mem_map.mp hd'
          walk_at "V"
          exact ⟨(by apply Bt.cm'; (· (repeat' (first | assumption | apply Bt.mul | apply Bt.addA | apply Bt.subA | apply Bt.negA | exact Bt.c (by decide)))); (· (repeat' (first | assumption | apply Bt.mul | apply Bt.addA | apply Bt.subA | apply Bt.negA | exact Bt.c (by decide)))); (· decide)), (by apply Bt.cm'; (· (repeat' (first | assumption | apply Bt.mul | apply Bt.addA | apply Bt.subA | apply Bt.negA | exact Bt.c (by decide)))); (· (repeat' (first | assumption | apply Bt.mul | apply Bt.addA | apply Bt.subA | apply Bt.negA | exact Bt.c (by decide)))); (· decide)), hN' _ ⟨_, _, rfl⟩⟩
    · rintro d ds e N ⟨s6, s7, s8, s9, s10, s11, s12, s13, s14, s15, s16, s17, s18, s19, s20, s21, m, rfl, hm, hd⟩ hN
      obtain ⟨qs, sg, rfl, hsg, hL0⟩ := hd _ (List.mem_cons_self ..)
      rw [List.length_cons] at hm
      have bsg : Bt 4 sg := .of (by omega) (by omega)
      have tl : Bt 10 (((ps.map ptD).length : Nat) : Int) := .of (by rw [List.length_map]; omega) (by rw [List.length_map]; omega)
      unfold b3__law_right
      walk_at "V"
      refine kor (fun q => ?_) (fun q => ?_)
      · have hL := hL0 (.inl (of_decide_eq_true q))
        walk_at "V"
        refine ⟨(by apply Bt.cm'; (· (repeat' (first | assumption | apply Bt.mul | apply Bt.addA | apply Bt.subA | apply Bt.negA | exact Bt.c (by decide)))); (· (repeat' (first | assumption | apply Bt.mul | apply Bt.addA | apply Bt.subA | apply Bt.negA | exact Bt.c (by decide)))); (· decide)), (by apply Bt.cm'; (· (repeat' (first | assumption | apply Bt.mul | apply Bt.addA | apply Bt.subA | apply Bt.negA | exact Bt.c (by decide)))); (· (repeat' (first | assumption | apply Bt.mul | apply Bt.addA | apply Bt.subA | apply Bt.negA | exact Bt.c (by decide)))); (· decide)), .inr ⟨qs, rfl, hL.1, hL.2.1, ?_⟩⟩
        have ea : areaL qs = sg * sizeL bs := by
          have := hL.2.2 _ anti_ar
          rw [← area_path hp hb]; exact this
        rw [ea]
        walk_at "V"
        refine .inr ⟨qs, rfl, hL.1, hL.2.1, ?_⟩
        rw [ea]
        walk_at "V"
        refine ⟨_, rfl, rfl, ?_⟩
        walk_at "V"
        refine ⟨⟨by decide, by decide⟩, ?_⟩
        refine lp_of (fun ds' e => ∃ s8 s9 s10 s11 s12 s13 s14 s15 s16 s17 s18 s19 s20 s21 m', e = ⟨[.ge, .da (.list (bs.map boxD)), .da (pathD ps), .da (.str (pathD ps).shown), .da (.int (sizeL bs)), .da (.int (k : Nat)), .da (pathD qs), .da (.int sg), s8, s9, s10, s11, s12, s13, s14, s15, s16, s17, s18, s19, s20, s21], m'⟩ ∧ (m' ≤ m ∧ m + 300 * ds'.length ≤ m' + 3600)) ?_ ?_ _ _ ⟨_, _, _, _, _, _, _, _, _, _, _, _, _, _, _, rfl, by simp [rng]⟩
        · rintro e ⟨s8, s9, s10, s11, s12, s13, s14, s15, s16, s17, s18, s19, s20, s21, m', rfl, hm'⟩
          walk_at "V"
          simp only [List.length_nil] at hm'
          exact hN _ ⟨_, _, _, _, _, _, _, _, _, _, _, _, _, _, _, _, _, rfl, by omega, fun d h => hd d (List.mem_cons_of_mem _ h)⟩
        · rintro d' ds' e N' ⟨s8, s9, s10, s11, s12, s13, s14, s15, s16, s17, s18, s19, s20, s21, m', rfl, hm'⟩ hN'
          rw [List.length_cons] at hm'
          unfold b2__law_right
          walk_at "V"
          refine ⟨_, _, rfl, by decide, (by apply Bt.mono; (· (repeat' (first | assumption | apply Bt.mul | apply Bt.addA | apply Bt.subA | apply Bt.negA | exact Bt.c (by decide)))); (· decide)), by omega, fun x1 m5 x11 x12 x13 => ?_⟩
          walk_at "V"
          refine ⟨_, _, rfl, by decide, (by apply Bt.mono; (· (repeat' (first | assumption | apply Bt.mul | apply Bt.addA | apply Bt.subA | apply Bt.negA | exact Bt.c (by decide)))); (· decide)), by omega, fun x2 m6 x21 x22 x23 => ?_⟩
          walk_at "V"
          refine ⟨⟨by decide, by decide +kernel⟩, _, .inl rfl, by simp, by simp, by omega, fun d1 m7 hd1 h7 => ?_⟩
          obtain ⟨x, rfl, hx1, hx2⟩ : ∃ x : Int, d1 = .int x ∧ -3 ≤ x ∧ x ≤ 1073741824 := by
            simp only [List.mem_cons, List.not_mem_nil, or_false] at hd1
            rcases hd1 with rfl | rfl | rfl
            · exact ⟨_, rfl, by omega, by omega⟩
            · exact ⟨_, rfl, by omega, by omega⟩
            · exact ⟨_, rfl, by decide, by decide⟩
          have bx : Bt 40 x := .of (by omega) (by omega)
          walk_at "V"
          refine ⟨_, _, rfl, by decide, (by apply Bt.mono; (· (repeat' (first | assumption | apply Bt.mul | apply Bt.addA | apply Bt.subA | apply Bt.negA | exact Bt.c (by decide)))); (· decide)), by omega, fun y m8 y1 y2 y3 => ?_⟩
          have by_ : Bt 40 y := .of (by omega) (by omega)
          have bd := due_bt hb hbl (midP x y)
          walk_at "V"
          refine ⟨bs, x, y, rfl, by omega, (by apply Bt.mono; (· (repeat' (first | assumption | apply Bt.mul | apply Bt.addA | apply Bt.subA | apply Bt.negA | exact Bt.c (by decide)))); (· decide)), (by apply Bt.mono; (· (repeat' (first | assumption | apply Bt.mul | apply Bt.addA | apply Bt.subA | apply Bt.negA | exact Bt.c (by decide)))); (· decide)), ?_⟩
          walk_at "V"
          have et : turnsL (midP x y) qs = sg * dueL bs (midP x y) := by
            have := hL.2.2 _ (anti_wnd (midP x y))
            rw [← turns_path hp hb]; exact this
          refine ⟨(by apply Bt.cm'; (· (repeat' (first | assumption | apply Bt.mul | apply Bt.addA | apply Bt.subA | apply Bt.negA | exact Bt.c (by decide)))); (· (repeat' (first | assumption | apply Bt.mul | apply Bt.addA | apply Bt.subA | apply Bt.negA | exact Bt.c (by decide)))); (· decide)), .inr ⟨qs, x, y, rfl, hL.1, hL.2.1, by omega, by omega, ?_⟩⟩
          rw [et]
          walk_at "V"
          refine .inr ⟨qs, x, y, rfl, hL.1, hL.2.1, by omega, by omega, ?_⟩
          rw [et]
          walk_at "V"
          refine ⟨_, rfl, rfl, ?_⟩
          walk_at "V"
          exact hN' _ ⟨_, _, _, _, _, _, _, _, _, _, _, _, _, _, _, rfl, by omega⟩
      · walk_at "V"
        refine ⟨(by apply Bt.cm'; (· (repeat' (first | assumption | apply Bt.mul | apply Bt.addA | apply Bt.subA | apply Bt.negA | exact Bt.c (by decide)))); (· (repeat' (first | assumption | apply Bt.mul | apply Bt.addA | apply Bt.subA | apply Bt.negA | exact Bt.c (by decide)))); (· decide)), kif (fun q2 => ?_) (fun q2 => ?_)⟩
        · have q2 := of_decide_eq_true q2
          rw [List.length_map] at q2
          have hL := hL0 (.inr (by omega))
          walk_at "V"
          refine ⟨(by apply Bt.cm'; (· (repeat' (first | assumption | apply Bt.mul | apply Bt.addA | apply Bt.subA | apply Bt.negA | exact Bt.c (by decide)))); (· (repeat' (first | assumption | apply Bt.mul | apply Bt.addA | apply Bt.subA | apply Bt.negA | exact Bt.c (by decide)))); (· decide)), (by apply Bt.cm'; (· (repeat' (first | assumption | apply Bt.mul | apply Bt.addA | apply Bt.subA | apply Bt.negA | exact Bt.c (by decide)))); (· (repeat' (first | assumption | apply Bt.mul | apply Bt.addA | apply Bt.subA | apply Bt.negA | exact Bt.c (by decide)))); (· decide)), .inr ⟨qs, rfl, hL.1, hL.2.1, ?_⟩⟩
          have ea : areaL qs = sg * sizeL bs := by
            have := hL.2.2 _ anti_ar
            rw [← area_path hp hb]; exact this
          rw [ea]
          walk_at "V"
          refine .inr ⟨qs, rfl, hL.1, hL.2.1, ?_⟩
          rw [ea]
          walk_at "V"
          refine ⟨_, rfl, rfl, ?_⟩
          walk_at "V"
          refine ⟨⟨by decide, by decide⟩, ?_⟩
          refine lp_of (fun ds' e => ∃ s8 s9 s10 s11 s12 s13 s14 s15 s16 s17 s18 s19 s20 s21 m', e = ⟨[.ge, .da (.list (bs.map boxD)), .da (pathD ps), .da (.str (pathD ps).shown), .da (.int (sizeL bs)), .da (.int (k : Nat)), .da (pathD qs), .da (.int sg), s8, s9, s10, s11, s12, s13, s14, s15, s16, s17, s18, s19, s20, s21], m'⟩ ∧ (m' ≤ m ∧ m + 300 * ds'.length ≤ m' + 3600)) ?_ ?_ _ _ ⟨_, _, _, _, _, _, _, _, _, _, _, _, _, _, _, rfl, by simp [rng]⟩
          · rintro e ⟨s8, s9, s10, s11, s12, s13, s14, s15, s16, s17, s18, s19, s20, s21, m', rfl, hm'⟩
            walk_at "V"
            simp only [List.length_nil] at hm'
            exact hN _ ⟨_, _, _, _, _, _, _, _, _, _, _, _, _, _, _, _, _, rfl, by omega, fun d h => hd d (List.mem_cons_of_mem _ h)⟩
          · rintro d' ds' e N' ⟨s8, s9, s10, s11, s12, s13, s14, s15, s16, s17, s18, s19, s20, s21, m', rfl, hm'⟩ hN'
            rw [List.length_cons] at hm'
            unfold b2__law_right
            walk_at "V"
            refine ⟨_, _, rfl, by decide, (by apply Bt.mono; (· (repeat' (first | assumption | apply Bt.mul | apply Bt.addA | apply Bt.subA | apply Bt.negA | exact Bt.c (by decide)))); (· decide)), by omega, fun x1 m5 x11 x12 x13 => ?_⟩
            walk_at "V"
            refine ⟨_, _, rfl, by decide, (by apply Bt.mono; (· (repeat' (first | assumption | apply Bt.mul | apply Bt.addA | apply Bt.subA | apply Bt.negA | exact Bt.c (by decide)))); (· decide)), by omega, fun x2 m6 x21 x22 x23 => ?_⟩
            walk_at "V"
            refine ⟨⟨by decide, by decide +kernel⟩, _, .inl rfl, by simp, by simp, by omega, fun d1 m7 hd1 h7 => ?_⟩
            obtain ⟨x, rfl, hx1, hx2⟩ : ∃ x : Int, d1 = .int x ∧ -3 ≤ x ∧ x ≤ 1073741824 := by
              simp only [List.mem_cons, List.not_mem_nil, or_false] at hd1
              rcases hd1 with rfl | rfl | rfl
              · exact ⟨_, rfl, by omega, by omega⟩
              · exact ⟨_, rfl, by omega, by omega⟩
              · exact ⟨_, rfl, by decide, by decide⟩
            have bx : Bt 40 x := .of (by omega) (by omega)
            walk_at "V"
            refine ⟨_, _, rfl, by decide, (by apply Bt.mono; (· (repeat' (first | assumption | apply Bt.mul | apply Bt.addA | apply Bt.subA | apply Bt.negA | exact Bt.c (by decide)))); (· decide)), by omega, fun y m8 y1 y2 y3 => ?_⟩
            have by_ : Bt 40 y := .of (by omega) (by omega)
            have bd := due_bt hb hbl (midP x y)
            walk_at "V"
            refine ⟨bs, x, y, rfl, by omega, (by apply Bt.mono; (· (repeat' (first | assumption | apply Bt.mul | apply Bt.addA | apply Bt.subA | apply Bt.negA | exact Bt.c (by decide)))); (· decide)), (by apply Bt.mono; (· (repeat' (first | assumption | apply Bt.mul | apply Bt.addA | apply Bt.subA | apply Bt.negA | exact Bt.c (by decide)))); (· decide)), ?_⟩
            walk_at "V"
            have et : turnsL (midP x y) qs = sg * dueL bs (midP x y) := by
              have := hL.2.2 _ (anti_wnd (midP x y))
              rw [← turns_path hp hb]; exact this
            refine ⟨(by apply Bt.cm'; (· (repeat' (first | assumption | apply Bt.mul | apply Bt.addA | apply Bt.subA | apply Bt.negA | exact Bt.c (by decide)))); (· (repeat' (first | assumption | apply Bt.mul | apply Bt.addA | apply Bt.subA | apply Bt.negA | exact Bt.c (by decide)))); (· decide)), .inr ⟨qs, x, y, rfl, hL.1, hL.2.1, by omega, by omega, ?_⟩⟩
            rw [et]
            walk_at "V"
            refine .inr ⟨qs, x, y, rfl, hL.1, hL.2.1, by omega, by omega, ?_⟩
            rw [et]
            walk_at "V"
            refine ⟨_, rfl, rfl, ?_⟩
            walk_at "V"
            exact hN' _ ⟨_, _, _, _, _, _, _, _, _, _, _, _, _, _, _, rfl, by omega⟩
        · walk_at "V"
          exact hN _ ⟨_, _, _, _, _, _, _, _, _, _, _, _, _, _, _, _, _, rfl, by omega, fun d h => hd d (List.mem_cons_of_mem _ h)⟩
    · intro d hd
      simp only [List.mem_cons, List.not_mem_nil, or_false] at hd
      rcases hd with rfl | rfl | rfl | rfl
      · exact ⟨ps, 1, rfl, by omega, fun _ => ⟨by omega, hbt, fun g _ => by omega⟩⟩
      · exact ⟨_, 1, rfl, by omega, fun _ => ⟨by rw [List.length_append, List.length_drop, List.length_take]; omega, fun p hp' => (List.mem_append.mp hp').elim (fun z => hbt p (List.mem_of_mem_drop z)) fun z => hbt p (List.mem_of_mem_take z), fun g _ => by rw [C_swap, List.take_append_drop]; omega⟩⟩
      · exact ⟨_, -1, rfl, by omega, fun _ => ⟨by rw [List.length_reverse]; omega, fun p hp' => hbt p (List.mem_reverse.mp hp'), fun g hg => by rw [C_rev hg]; omega⟩⟩
      · refine ⟨_, 2, rfl, by omega, fun hc => ?_⟩
        have hl2 : (ps ++ ps).length ≤ 64 := by rw [List.length_append]; omega
        rw [List.take_of_length_le hl2]
        exact ⟨hl2, fun p hp' => (List.mem_append.mp hp').elim (hbt p) (hbt p), fun g _ => C_dbl g ps⟩
  · rintro d acc e N hd ⟨s17, s18, s19, s20, s21, rfl⟩ hN
    obtain ⟨b, hb', rfl⟩ := List.mem_map.mp hd
    obtain ⟨b1, b2, b3, b4, b5, b6, b7, b8⟩ := hb b hb'
    have b9 : Bt 4 b.m := .of (by omega) (by omega)
    walk_at "V"
    exact ⟨(by apply Bt.cm'; (· (repeat' (first | assumption | apply Bt.mul | apply Bt.addA | apply Bt.subA | apply Bt.negA | exact Bt.c (by decide)))); (· (repeat' (first | assumption | apply Bt.mul | apply Bt.addA | apply Bt.subA | apply Bt.negA | exact Bt.c (by decide)))); (· decide)), (by apply Bt.cm'; (· (repeat' (first | assumption | apply Bt.mul | apply Bt.addA | apply Bt.subA | apply Bt.negA | exact Bt.c (by decide)))); (· (repeat' (first | assumption | apply Bt.mul | apply Bt.addA | apply Bt.subA | apply Bt.negA | exact Bt.c (by decide)))); (· decide)), (by apply Bt.cm'; (· (repeat' (first | assumption | apply Bt.mul | apply Bt.addA | apply Bt.subA | apply Bt.negA | exact Bt.c (by decide)))); (· (repeat' (first | assumption | apply Bt.mul | apply Bt.addA | apply Bt.subA | apply Bt.negA | exact Bt.c (by decide)))); (· decide)), hN _ ⟨_, _, _, _, _, rfl⟩⟩

theorem V__law_right (Z : Fax P w K mg base) {cdv : Value} {A : Around} {out : List Env} {s : Shared} {H : Hp} {E : XK} (hcv : CodeOf K (He.ga K "_law_right") "_law_right" cdv) (hr : Room 40 (A.deeper (envOfC "_law_right" (defScope s__law_right) s.heap.objs.size (He.ga K "_law_right") cdv))) (hg : (A.deeper (envOfC "_law_right" (defScope s__law_right) s.heap.objs.size (He.ga K "_law_right") cdv)).guards = some []) :
    ∃ ts, VSs (gx K) (cxOf (L2.CX P w) P w K mg base N__law_right "_law_right" (defScope s__law_right) (He.ga K "_law_right") cdv A out s H E) E (defBody s__law_right) ts (w__law_right K) := by
  have tk : Takes (cxOf (L2.CX P w) P w K mg base N__law_right "_law_right" (defScope s__law_right) (He.ga K "_law_right") cdv A out s H E) (fun c d _ H => E c d H) := takes_of rfl rfl rfl rfl
  exact ⟨_,
  (vss_cons
    (vs_set 1 nd__law_right (VX.ve (vx_call (ok__law_rectangles Z) (bn__law_rectangles Z) Z.g__law_rectangles Z.d__law_rectangles.kp (hr.mono (by decide)) hg tk (vr_cons (vx_n 0) vr_nil))))
  (vss_cons
    (vs_set 2 nd__law_right (VX.ve (vx_call (ok__law_path Z) (bn__law_path Z) Z.g__law_path Z.d__law_path.kp (hr.mono (by decide)) hg tk (vr_cons (vx_n 0) (vr_cons (VE.vx (ve_n 1)) vr_nil)))))
  (vss_cons
    (vs_par 3 4 nd__law_right (va_cons (ve_b (cb_repr hg hr.units Z.sm) rc_repr Z.n_repr (va_cons (ve_n 2) va_nil)) (va_cons (ve_b cb_sum rc_sum Z.n_sum (va_cons (VF.ve (vf_lc [("left", 17), ("low", 18), ("right", 19), ("high", 20), ("many", 21)] nd__law_right (vi_seq (ve_n 1)) (fun _ _ _ _ _ => (vgl_t (vgl_n 17 nd__law_right (vgl_n 18 nd__law_right (vgl_n 19 nd__law_right (vgl_n 20 nd__law_right (vgl_n 21 nd__law_right vgl_nil))))))) (fun _ _ _ _ _ => vts_nil) (fun _ _ _ _ _ => (ve_mul (ve_mul (ve_mul ve_int (ve_n 21)) (ve_sub (ve_n 19) (ve_n 17))) (ve_sub (ve_n 20) (ve_n 18)))) (gw_t (gw_cons (gw_n (by decide)) (gw_cons (gw_n (by decide)) (gw_cons (gw_n (by decide)) (gw_cons (gw_n (by decide)) (gw_cons (gw_n (by decide)) gw_nil)))))))) va_nil)) va_nil)))
  (vss_cons
    (vs_set 5 nd__law_right (VX.ve (vx_call (ok__law_random Z) (bn__law_random Z) Z.g__law_random Z.d__law_random.kp (hr.mono (by decide)) hg tk (vr_cons (vx_n 0) (vr_cons (VE.vx (ve_b cb_len rc_len Z.n_len (va_cons (ve_n 2) va_nil))) vr_nil)))))
  (vss_cons
    (vs_for (by exact passes_of rfl) (vi_seq (ve_lst (va_cons (ve_tup (va_cons (ve_n 2) (va_cons ve_int va_nil))) (va_cons (ve_tup (va_cons (ve_add (ve_sl (ve_n 2) (vo_some (ve_n 5)) vo_none) (ve_sl (ve_n 2) vo_none (vo_some (ve_n 5)))) (va_cons ve_int va_nil))) (va_cons (ve_tup (va_cons (ve_sl3 (ve_n 2) vo_none vo_none (vo_some (ve_sub ve_int ve_int))) (va_cons (ve_sub ve_int ve_int) va_nil))) (va_cons (ve_tup (va_cons (ve_sl (ve_add (ve_n 2) (ve_n 2)) vo_none (vo_some ve_int)) (va_cons ve_int va_nil))) va_nil)))))) (vgl_t (vgl_n 6 nd__law_right (vgl_n 7 nd__law_right vgl_nil))) (vss_one (vs_if (VW.vt (vw_or (vt_c cv_lt (ve_n 7) ve_int (by first | exact nomark _ | rfl | with_unfolding_all rfl)) (vw_or1 (vt_c cv_lt (ve_mul ve_int (ve_b cb_len rc_len Z.n_len (va_cons (ve_n 2) va_nil))) ve_int (by first | exact nomark _ | rfl | with_unfolding_all rfl))))) (vss_cons
    (vs_if (vt_not (vt_v (VX.ve (vx_call (ok__law_exact Z) (bn__law_exact Z) Z.g__law_exact Z.d__law_exact.kp (hr.mono (by decide)) hg tk (vr_cons (VE.vx (ve_lst (va_cons (ve_mul (ve_n 7) (ve_n 4)) (va_cons (ve_mul (ve_n 7) (ve_n 4)) va_nil)))) (vr_cons (VE.vx (ve_lst (va_cons (VX.ve (vx_call (ok_area Z) (bn_area Z) Z.g_area Z.d_area.kp (hr.mono (by decide)) hg tk (vr_cons (VE.vx (ve_n 6)) vr_nil))) (va_cons (VX.ve (vx_callK0 (ok_area Z) (bk_area_path Z) Z.g_area Z.d_area.kp (hr.mono (by decide)) hg tk (vk_cons (VE.vx (ve_n 6)) vk_nil))) va_nil)))) vr_nil)))))) (vss_one (vs_ret ve_bl)) vss_nil)
  (vss_one (vs_for (by exact passes_of rfl) (vi_rng1 (va_cons ve_int va_nil) Z.n_range) (vg_n 8 nd__law_right) (vss_cons
    (vs_par 9 10 nd__law_right (va_cons (VX.ve (vx_call (ok__law_pick Z) (bn__law_pick Z) Z.g__law_pick Z.d__law_pick.kp (hr.mono (by decide)) hg tk (vr_cons (vx_n 0) (vr_cons (VE.vx (ve_lst (va_cons (VX.ve (vx_call (ok__law_between Z) (bn__law_between Z) Z.g__law_between Z.d__law_between.kp (hr.mono (by decide)) hg tk (vr_cons (vx_n 0) (vr_cons (VE.vx (ve_sub ve_int ve_int)) (vr_cons (VE.vx ve_int) vr_nil))))) (va_cons (VX.ve (vx_call (ok__law_between Z) (bn__law_between Z) Z.g__law_between Z.d__law_between.kp (hr.mono (by decide)) hg tk (vr_cons (vx_n 0) (vr_cons (VE.vx (ve_sub ve_int ve_int)) (vr_cons (VE.vx ve_int) vr_nil))))) (va_cons (ve_pow ve_int ve_int) va_nil))))) vr_nil)))) (va_cons (VX.ve (vx_call (ok__law_between Z) (bn__law_between Z) Z.g__law_between Z.d__law_between.kp (hr.mono (by decide)) hg tk (vr_cons (vx_n 0) (vr_cons (VE.vx (ve_sub ve_int ve_int)) (vr_cons (VE.vx ve_int) vr_nil))))) va_nil)))
  (vss_cons
    (vs_set 11 nd__law_right (ve_mul (ve_n 7) (VX.ve (vx_call (ok__law_due Z) (bn__law_due Z) Z.g__law_due Z.d__law_due.kp (hr.mono (by decide)) hg tk (vr_cons (VE.vx (ve_n 1)) (vr_cons (VE.vx (ve_n 9)) (vr_cons (VE.vx (ve_n 10)) vr_nil)))))))
  (vss_one (vs_if (vt_not (vt_v (VX.ve (vx_call (ok__law_exact Z) (bn__law_exact Z) Z.g__law_exact Z.d__law_exact.kp (hr.mono (by decide)) hg tk (vr_cons (VE.vx (ve_lst (va_cons (ve_n 11) (va_cons (ve_n 11) va_nil)))) (vr_cons (VE.vx (ve_lst (va_cons (VX.ve (vx_call (ok_turns Z) (bn_turns Z) Z.g_turns Z.d_turns.kp (hr.mono (by decide)) hg tk (vr_cons (VE.vx (ve_n 6)) (vr_cons (VE.vx (ve_n 9)) (vr_cons (VE.vx (ve_n 10)) vr_nil))))) (va_cons (VX.ve (vx_callK0 (ok_turns Z) (bk_turns_y_x_path Z) Z.g_turns Z.d_turns.kp (hr.mono (by decide)) hg tk (vk_cons (VE.vx (ve_n 10)) (vk_cons (VE.vx (ve_n 9)) (vk_cons (VE.vx (ve_n 6)) vk_nil))))) va_nil)))) vr_nil)))))) (vss_one (vs_ret ve_bl)) vss_nil))))))) vss_nil)))
  (vss_cons
    (vs_for (by exact passes_of rfl) (vi_rng1 (va_cons ve_int va_nil) Z.n_range) (vg_n 8 nd__law_right) (vss_cons
    (vs_par 9 10 nd__law_right (va_cons (VX.ve (vx_call (ok__law_between Z) (bn__law_between Z) Z.g__law_between Z.d__law_between.kp (hr.mono (by decide)) hg tk (vr_cons (vx_n 0) (vr_cons (VE.vx (ve_sub ve_int ve_int)) (vr_cons (VE.vx ve_int) vr_nil))))) (va_cons (VX.ve (vx_call (ok__law_between Z) (bn__law_between Z) Z.g__law_between Z.d__law_between.kp (hr.mono (by decide)) hg tk (vr_cons (vx_n 0) (vr_cons (VE.vx (ve_sub ve_int ve_int)) (vr_cons (VE.vx ve_int) vr_nil))))) va_nil)))
  (vss_cons
    (vs_asg (ve_tup (va_cons (VX.ve (vx_call (ok__law_between Z) (bn__law_between Z) Z.g__law_between Z.d__law_between.kp (hr.mono (by decide)) hg tk (vr_cons (vx_n 0) (vr_cons (VE.vx (ve_sub ve_int (ve_pow ve_int ve_int))) (vr_cons (VE.vx (ve_pow ve_int ve_int)) vr_nil))))) (va_cons (VX.ve (vx_call (ok__law_between Z) (bn__law_between Z) Z.g__law_between Z.d__law_between.kp (hr.mono (by decide)) hg tk (vr_cons (vx_n 0) (vr_cons (VE.vx (ve_sub ve_int (ve_pow ve_int ve_int))) (vr_cons (VE.vx (ve_pow ve_int ve_int)) vr_nil))))) va_nil))) (vgl_t (vgl_n 12 nd__law_right (vgl_n 13 nd__law_right vgl_nil))))
  (vss_cons
    (vs_setLc 14 [("one", 15), ("other", 16)] nd__law_right (vi_seq (ve_n 2)) (fun _ _ _ _ _ => (vgl_t (vgl_n 15 nd__law_right (vgl_n 16 nd__law_right vgl_nil)))) (fun _ _ _ _ _ => vts_nil) (fun _ _ _ _ _ => (ve_tup (va_cons (ve_add (ve_n 15) (ve_mul ve_int (ve_n 12))) (va_cons (ve_add (ve_n 16) (ve_mul ve_int (ve_n 13))) va_nil)))) (gw_t (gw_cons (gw_n (by decide)) (gw_cons (gw_n (by decide)) gw_nil))))
  (vss_one (vs_if (VW.vt (vw_or (vt_not (vt_v (VX.ve (vx_call (ok__law_exact Z) (bn__law_exact Z) Z.g__law_exact Z.d__law_exact.kp (hr.mono (by decide)) hg tk (vr_cons (VE.vx (VX.ve (vx_call (ok__law_due Z) (bn__law_due Z) Z.g__law_due Z.d__law_due.kp (hr.mono (by decide)) hg tk (vr_cons (VE.vx (ve_n 1)) (vr_cons (VE.vx (ve_n 9)) (vr_cons (VE.vx (ve_n 10)) vr_nil)))))) (vr_cons (VE.vx (VX.ve (vx_call (ok_turns Z) (bn_turns Z) Z.g_turns Z.d_turns.kp (hr.mono (by decide)) hg tk (vr_cons (VE.vx (ve_n 14)) (vr_cons (VE.vx (ve_add (ve_n 9) (ve_n 12))) (vr_cons (VE.vx (ve_add (ve_n 10) (ve_n 13))) vr_nil)))))) vr_nil)))))) (vw_or (vt_c (cv_ne hr.units) (VX.ve (vx_call (ok_area Z) (bn_area Z) Z.g_area Z.d_area.kp (hr.mono (by decide)) hg tk (vr_cons (VE.vx (ve_n 14)) vr_nil))) (ve_n 4) (by first | exact nomark _ | rfl | with_unfolding_all rfl)) (vw_or1 (vt_not (vt_v (VX.ve (vx_call (ok__law_parted_right Z) (bn__law_parted_right Z) Z.g__law_parted_right Z.d__law_parted_right.kp (hr.mono (by decide)) hg tk (vr_cons (vx_n 0) (vr_cons (VE.vx (ve_n 2)) (vr_cons (VE.vx (ve_n 9)) (vr_cons (VE.vx (ve_n 10)) vr_nil)))))))))))) (vss_one (vs_ret ve_bl)) vss_nil))))))
  (vss_one (vs_ret (ve_c (cv_eq hr.units) (ve_b (cb_repr hg hr.units Z.sm) rc_repr Z.n_repr (va_cons (ve_n 2) va_nil)) (ve_n 3) (by first | exact nomark _ | rfl | with_unfolding_all rfl))))))))))⟩
theorem ok__law_right (Z : Fax P w K mg base) : FnG P w K mg base 41 (He.ga K "_law_right") (fdOf K "_law_right") ps__law_right (spV (gx K) (c__law_right K) 1) :=
  fn_V Z.d__law_right sc__law_right (by decide) (by decide) (l__law_right K) fun cdv A out s H E hcv hr hg => V__law_right Z hcv hr hg
abbrev N__law_refused_right : List Str := ["good", "bad"]
abbrev ps__law_refused_right : List Str := []
theorem nd__law_refused_right : N__law_refused_right.Nodup := by decide +kernel
theorem sc__law_refused_right : FnScope N__law_refused_right ps__law_refused_right (defScope s__law_refused_right) := ⟨rfl, rfl, rfl, nd__law_refused_right, rfl, by decide +kernel, by decide +kernel⟩
theorem bi__law_refused_right (Z : Fax P w K mg base) : Binds K (fdOf K "_law_refused_right") ps__law_refused_right [] := Z.d__law_refused_right.bindsN fun _ _ _ _ _ _ us hl => match us, hl with | [], _ => rfl
theorem bn__law_refused_right (Z : Fax P w K mg base) : Bnd K (fdOf K "_law_refused_right") ps__law_refused_right 0 [] (fun us _ => us) (fun vs _ => vs) (fun as _ => as) := bnd_all (bi__law_refused_right Z)
def b1__law_refused_right (K : PySem.W.Frag) : WS := (wSeq (wIf (wNot (wB (wD (wRef (okC K) (w_ref3 K) (wC (.str "number")) (wN 1) (wD (wCall (c_turns K) (fun as _ => as) (rCons (xD (wN 0)) (rCons (xD (wN 1)) (rCons (xD (wC .none)) rNil))) rNil)))))) (wRet (wC (.bool false))) wNext)
  (wIf (wNot (wB (wD (wRef (okC K) (w_ref3 K) (wC (.str "number")) (wN 1) (wD (wCall (c_turns K) (fun as _ => as) (rCons (xD (wN 0)) (rCons (xD (wC (.int 1))) (rCons (xD (wN 1)) rNil))) rNil)))))) (wRet (wC (.bool false))) wNext))
def b2__law_refused_right (K : PySem.W.Frag) : WS := (wSeq (wIf (wNot (wB (wD (wRef (okC K) (w_ref3 K) (wC (.str "row")) (wN 1) (wD (wCall (c_turns K) (fun as _ => as) (rCons (xD (wN 1)) (rCons (xD (wC .none)) (rCons (xD (wC .none)) rNil))) rNil)))))) (wRet (wC (.bool false))) wNext)
  (wIf (wNot (wB (wD (wRef (okC K) (w_ref3 K) (wC (.str "row")) (wN 1) (wD (wCall (c_area K) (fun as _ => as) (rCons (xD (wN 1)) rNil) rNil)))))) (wRet (wC (.bool false))) wNext))
--MARK _law_refused_right
abbrev w__law_refused_right (K : PySem.W.Frag) : WS := (wSeq (wAsg (wLst (wCons (wTup (wCons (wC (.int 0)) (wCons (wC (.int 0)) wNil))) (wCons (wTup (wCons (wC (.int 160)) (wCons (wC (.int 0)) wNil))) (wCons (wTup (wCons (wC (.int 160)) (wCons (wC (.int 160)) wNil))) wNil)))) (gN 0))
  (wSeq (wFor (wSeqI (wLst (wCons (wC .none) (wCons (wTup wNil) (wCons (wCB fToT (wCons (wN 0) wNil)) (wCons (w2 fAdd (wN 0) (wLst (wCons (wC .none) wNil))) (wCons (w2 fAdd (wN 0) (wLst (wCons (wTup (wCons (wC (.int 1)) (wCons (wC (.int 2)) (wCons (wC (.int 3)) wNil)))) wNil))) (wCons (w2 fAdd (wN 0) (wLst (wCons (wLst (wCons (wC (.int 1)) (wCons (wC (.int 2)) wNil))) wNil))) (wCons (w2 fAdd (wN 0) (wLst (wCons (wTup (wCons (wC (.int 1)) (wCons (wC (.bool true)) wNil))) wNil))) (wCons (w2 fMul (wN 0) (wC (.int 22))) (wCons (wLst (wCons (wN 0) wNil)) (wCons (wC (.dict [])) (wCons (w2 fAdd (wN 0) (wLst (wCons (wTup (wCons (wC (.str "1")) (wCons (wC (.int 2)) wNil))) wNil))) (wCons (w2 fAdd (wN 0) (wLst (wCons (wTup (wCons (wC (.dict [])) (wCons (wC (.int 1)) wNil))) wNil))) wNil)))))))))))))) (gN 1) (b2__law_refused_right K))
  (wSeq (wFor (wSeqI (wLst (wCons (wC .none) (wCons (wC (.bool true)) (wCons (w2 (fI CPow' fun i j => i ^ j.toNat) (wC (.int 2)) (wC (.int 31))) (wCons (w2 (fI0 fun i j => i - j) (w2 (fI0 fun i j => i - j) (wC (.int 0)) (w2 (fI CPow' fun i j => i ^ j.toNat) (wC (.int 2)) (wC (.int 31)))) (wC (.int 1))) (wCons (wC (.str "1")) (wCons (wTup (wCons (wC (.int 1)) wNil)) (wCons (wLst wNil) wNil))))))))) (gN 1) (b1__law_refused_right K))
  (wRet (wD (wCall (c__law_exact K) (fun as _ => as) (rCons (xD (wLst (wCons (wC (.int 0)) (wCons (wC (.int 0)) (wCons (wC (.int 0)) (wCons (wC (.int 0)) wNil)))))) (rCons (xD (wLst (wCons (wD (wCall (c_turns K) (fun as _ => as) (rCons (xD (wLst wNil)) (rCons (xD (wC (.int 1))) (rCons (xD (wC (.int 1))) rNil))) rNil)) (wCons (wD (wCall (c_area K) (fun as _ => as) (rCons (xD (wLst wNil)) rNil) rNil)) (wCons (wD (wCall (c_turns K) (fun as _ => as) (rCons (xD (wLst (wCons (wTup (wCons (wC (.int 5)) (wCons (wC (.int 5)) wNil))) wNil))) (rCons (xD (wC (.int 0))) (rCons (xD (wC (.int 0))) rNil))) rNil)) (wCons (wD (wCall (c_area K) (fun as _ => as) (rCons (xD (wLst (wCons (wTup (wCons (wC (.int 5)) (wCons (wC (.int 5)) wNil))) (wCons (wTup (wCons (wC (.int 9)) (wCons (wC (.int 90)) wNil))) wNil)))) rNil) rNil)) wNil)))))) rNil)) rNil))))))
theorem ref3_ok (K : PySem.W.Frag) (hne : nes K) {C : Addr} {s : Str} {d : PyData} {n : Nat} {P : Ar → Nat → Prop} (hk : kindOk K C s) (hr : Rp d) (h : P (.da (.bool true)) n) :
    okC K C ∧ w_ref3 K (outA P) X00 ⟨[.un, .da (.str s), .da d, .er C d, .un], n⟩ := by
  have ok : okC K C := by rcases hk with ⟨h, _⟩ | ⟨h, _⟩ <;> simp [okC, h]
  refine ⟨ok, ?_⟩
  simp only [wC, wN, w2, w1, fI, fI0, fIB, wSeq, wNext, wRet, wRetN, wDrop, wIf, wAsg, gN, gT, gMore, gNone, wB, wNot, wAnd, wOr, wAndV, wOrV, wNotV, wIfE, wChain, wNil, wCons, wTup, wLst, wCB, wD, xD, xN, xOp, rNil, rCons, wCall, wSeqI, wRng1, wFor, wSqLen, wSqIx, wSqSl, wNo, wPart, wGeIx, wGeSet', wSetX, wRetGe, wRetX, wPar, wErNN, wErIs, wErVal, wRaise, wRef, wYes, wIsi, fIsi, fIsi2, fInt, fLen, fSum, fAll, fMax, fMin, fIx, fAdd, fMul, fBits, fEq, fNe, fIsN, fIsB, fNotN, fRepr, En.set, En.wipe, Ar.sl, entry, outA, List.map_cons, List.map_nil, List.cons_append, List.nil_append, List.append_nil, List.length_cons, List.length_nil, List.replicate, List.getElem?_cons_zero, List.getElem?_cons_succ, List.set_cons_zero, List.set_cons_succ, Nat.reduceAdd, Nat.reduceSub]
  refine ⟨fun _ => ⟨hne, C, d, s, rfl, hk, ?_⟩, fun q => (nomatch q)⟩
  simp only [wC, wN, w2, w1, fI, fI0, fIB, wSeq, wNext, wRet, wRetN, wDrop, wIf, wAsg, gN, gT, gMore, gNone, wB, wNot, wAnd, wOr, wAndV, wOrV, wNotV, wIfE, wChain, wNil, wCons, wTup, wLst, wCB, wD, xD, xN, xOp, rNil, rCons, wCall, wSeqI, wRng1, wFor, wSqLen, wSqIx, wSqSl, wNo, wPart, wGeIx, wGeSet', wSetX, wRetGe, wRetX, wPar, wErNN, wErIs, wErVal, wRaise, wRef, wYes, wIsi, fIsi, fIsi2, fInt, fLen, fSum, fAll, fMax, fMin, fIx, fAdd, fMul, fBits, fEq, fNe, fIsN, fIsB, fNotN, fRepr, En.set, En.wipe, Ar.sl, entry, outA, List.map_cons, List.map_nil, List.cons_append, List.nil_append, List.append_nil, List.length_cons, List.length_nil, List.replicate, List.getElem?_cons_zero, List.getElem?_cons_succ, List.set_cons_zero, List.set_cons_succ, Nat.reduceAdd, Nat.reduceSub]
  have e1 : ∀ z : Str, PyData.eqv (.str z) (.str z) = true := fun z => by show (z == z) = true; exact beq_self_eq_true z
  rw [e1, e1]
  exact ⟨rfl, rfl, fun _ => ⟨ok, hr.1, hr.2, hr.1, hr.2, rfl, rfl, h⟩, fun q => (nomatch q)⟩
def goodP : List Pt := [(0, 0), (160, 0), (160, 160)]
def c__law_refused_right (K : PySem.W.Frag) : Ct := fun as n P _ => nes K ∧ as = [] ∧ P (.da (.bool true)) n
theorem l__law_refused_right (K : PySem.W.Frag) : ∀ as n P X, c__law_refused_right K as n P X → as.length = ps__law_refused_right.length → w__law_refused_right K (outA P) X (entry N__law_refused_right as n) := by
  rintro as n P X ⟨hne, rfl, h⟩ -
  have gb : paB (pathD goodP) = true := by decide +kernel
  have gg : pathD goodP = .list [.tuple [.int 0, .int 0], .tuple [.int 160, .int 0], .tuple [.int 160, .int 160]] := rfl
  walk_at "V"
  refine ⟨small_line (by simp), small_line (by simp), small_line (by simp), small_line (by simp), ⟨by decide, by decide, small_line (by decide)⟩, small_line (by simp), small_line (by simp), ?_⟩
  refine lp_of (fun ds e => (∃ s, e = ⟨[.da (pathD goodP), s], n⟩) ∧ ∀ d ∈ ds, paB d = false ∧ Rp d) ?_ ?_ _ _ ⟨⟨_, rfl⟩, ?_⟩
  · rintro e ⟨⟨s, rfl⟩, -⟩
    walk_at "V"
    refine ⟨⟨by decide, by decide +kernel⟩, ⟨by decide, by decide +kernel⟩, ?_⟩
    refine lp_of (fun ds e => (∃ s, e = ⟨[.da (pathD goodP), s], n⟩) ∧ ∀ d ∈ ds, numB d = false ∧ Rp d) ?_ ?_ _ _ ⟨⟨_, rfl⟩, ?_⟩
    · rintro e ⟨⟨s, rfl⟩, -⟩
      have b5 : BtP 200 (5, 5) := ⟨(by apply Bt.mono; (· (repeat' (first | assumption | apply Bt.mul | apply Bt.addA | apply Bt.subA | apply Bt.negA | exact Bt.c (by decide)))); (· decide)), (by apply Bt.mono; (· (repeat' (first | assumption | apply Bt.mul | apply Bt.addA | apply Bt.subA | apply Bt.negA | exact Bt.c (by decide)))); (· decide))⟩
      have b9 : BtP 200 (9, 90) := ⟨(by apply Bt.mono; (· (repeat' (first | assumption | apply Bt.mul | apply Bt.addA | apply Bt.subA | apply Bt.negA | exact Bt.c (by decide)))); (· decide)), (by apply Bt.mono; (· (repeat' (first | assumption | apply Bt.mul | apply Bt.addA | apply Bt.subA | apply Bt.negA | exact Bt.c (by decide)))); (· decide))⟩
      walk_at "V"
      refine .inr ⟨[], 1, 1, rfl, by decide, by simp, by decide, by decide, ?_⟩
      walk_at "V"
      refine .inr ⟨[], rfl, by decide, by simp, ?_⟩
      walk_at "V"
      refine .inr ⟨[(5, 5)], 0, 0, rfl, by decide, by simp [b5], by decide, by decide, ?_⟩
      walk_at "V"
      refine .inr ⟨[(5, 5), (9, 90)], rfl, by decide, by simp [b5, b9], ?_⟩
      walk_at "V"
      refine ⟨.list [.int 0, .int 0, .int 0, .int 0], ?_, rfl, ?_⟩
      · rw [show turnsL (midP 1 1) [] = 0 by decide +kernel, show areaL [] = 0 by decide +kernel, show turnsL (midP 0 0) [(5, 5)] = 0 by decide +kernel, show areaL [(5, 5), (9, 90)] = 0 by decide +kernel]
      · walk_at "V"
        exact h
    · rintro d ds e N ⟨⟨s, rfl⟩, hd⟩ hN
      obtain ⟨hb, hr⟩ := hd d (List.mem_cons_self ..)
      unfold b1__law_refused_right
      walk_at "V"
      refine .inl ⟨_, _, _, rfl, .inr (.inl ⟨gb, hb, ?_⟩)⟩
      refine ref3_ok K hne (.inr ⟨rfl, rfl⟩) hr ?_
      walk_at "V"
      refine .inl ⟨_, _, _, rfl, .inr (.inr ⟨gb, by decide +kernel, hb, ?_⟩)⟩
      refine ref3_ok K hne (.inr ⟨rfl, rfl⟩) hr ?_
      walk_at "V"
      exact hN _ ⟨⟨_, rfl⟩, fun d h => hd d (List.mem_cons_of_mem _ h)⟩
    · intro d hd
      have p31 : (2 : Int) ^ Int.toNat 31 = 2147483648 := by decide
      rw [p31] at hd
      simp only [List.mem_cons, List.not_mem_nil, or_false] at hd
      rcases hd with rfl | rfl | rfl | rfl | rfl | rfl | rfl <;> exact ⟨by decide +kernel, (rp_short (by repeat' (first | assumption | exact trivial | exact Bt.c' (by decide) | (refine And.intro ?_ ?_) | (show (_ : Bool) = true; decide +kernel) | exact rfl)) (by rfl) (by rfl))⟩
  · rintro d ds e N ⟨⟨s, rfl⟩, hd⟩ hN
    obtain ⟨hb, hr⟩ := hd d (List.mem_cons_self ..)
    unfold b2__law_refused_right
    walk_at "V"
    refine .inl ⟨_, _, _, rfl, .inl ⟨hb, ?_⟩⟩
    refine ref3_ok K hne (.inl ⟨rfl, rfl⟩) hr ?_
    walk_at "V"
    refine .inl ⟨_, rfl, hb, ?_⟩
    refine ref3_ok K hne (.inl ⟨rfl, rfl⟩) hr ?_
    walk_at "V"
    exact hN _ ⟨⟨_, rfl⟩, fun d h => hd d (List.mem_cons_of_mem _ h)⟩
  · intro d hd
    simp only [List.mem_cons, List.not_mem_nil, or_false] at hd
    rcases hd with rfl | rfl | rfl | rfl | rfl | rfl | rfl | rfl | rfl | rfl | rfl | rfl
    all_goals exact ⟨by decide +kernel, rp_of (by decide +kernel) (by decide +kernel) (by decide +kernel) (by decide +kernel)⟩

theorem V__law_refused_right (Z : Fax P w K mg base) {cdv : Value} {A : Around} {out : List Env} {s : Shared} {H : Hp} {E : XK} (hcv : CodeOf K (He.ga K "_law_refused_right") "_law_refused_right" cdv) (hr : Room 46 (A.deeper (envOfC "_law_refused_right" (defScope s__law_refused_right) s.heap.objs.size (He.ga K "_law_refused_right") cdv))) (hg : (A.deeper (envOfC "_law_refused_right" (defScope s__law_refused_right) s.heap.objs.size (He.ga K "_law_refused_right") cdv)).guards = some []) :
    ∃ ts, VSs (gx K) (cxOf (L2.CX P w) P w K mg base N__law_refused_right "_law_refused_right" (defScope s__law_refused_right) (He.ga K "_law_refused_right") cdv A out s H E) E (defBody s__law_refused_right) ts (w__law_refused_right K) := by
  have hcv := code_of hcv
  subst hcv
  have tk : Takes (cxOf (L2.CX P w) P w K mg base N__law_refused_right "_law_refused_right" (defScope s__law_refused_right) (He.ga K "_law_refused_right") (.ref (He.codeOf K ("_law_refused_right", none))) A out s H E) (fun c d _ H => E c d H) := takes_of rfl rfl rfl rfl
  obtain ⟨t3, h3⟩ := Vr3 Z
  have rf : RefR (gx K) (cxOf (L2.CX P w) P w K mg base N__law_refused_right "_law_refused_right" (defScope s__law_refused_right) (He.ga K "_law_refused_right") (.ref (He.codeOf K ("_law_refused_right", none))) A out s H E) E 44 "_law_refused" (okC K) (w_ref3 K) (gx K).T (He.ga K "PictureError") (tAsg (tC .non) (gName 3)) t3 :=
    ⟨fun L hdef hbind hbody hk hv he hpl he2 he3 => vx_ref (k := 44) rfl Z.d__law_refused Z.g__law_refused Z.d__law_refused.kp (bi__law_refused Z) sc__law_refused (fun cdv A out s H => vs_set 3 nd_ref ve_non)
      (fun cdv A out s H tb' hb => ps_try_keep (tb := fun W => tDrop (tb' W)) (c := .ref (He.ga K "PictureError")) (i := 4) (j := 3) rfl rfl rfl nd_ref rfl rfl (by decide) rfl rfl (by decide) (by decide) ⟨rfl, by decide, .inl Z.g_PictureError⟩ rfl (fun W pn xe tk _ => pss_one (ps_expr (hb W pn xe tk))))
      (fun cdv A out s H hr hg => h3 cdv A out s H (hr.mono (by decide)) hg) (Or.inl rfl) (okX Z) Z.tb__law_refused_right rfl (by rw [cx_qual]; exact List.mem_of_getElem? (i := 0) rfl) (by rw [cx_qual]; exact uniq__law_refused_right Z) (hr.mono (by decide)) hg L hdef hbind hbody hk hv rfl (by decide) he hpl he2 he3⟩
  exact ⟨_,
  (vss_cons
    (vs_set 0 nd__law_refused_right (ve_lst (va_cons (ve_tup (va_cons ve_int (va_cons ve_int va_nil))) (va_cons (ve_tup (va_cons ve_int (va_cons ve_int va_nil))) (va_cons (ve_tup (va_cons ve_int (va_cons ve_int va_nil))) va_nil)))))
  (vss_cons
    (vs_for (by exact passes_of rfl) (vi_seq (ve_lst (va_cons ve_non (va_cons (ve_tup va_nil) (va_cons (ve_t cb_toT rc_toT Z.n_tuple (va_cons (ve_n 0) va_nil)) (va_cons (ve_add (ve_n 0) (ve_lst (va_cons ve_non va_nil))) (va_cons (ve_add (ve_n 0) (ve_lst (va_cons (ve_tup (va_cons ve_int (va_cons ve_int (va_cons ve_int va_nil)))) va_nil))) (va_cons (ve_add (ve_n 0) (ve_lst (va_cons (ve_lst (va_cons ve_int (va_cons ve_int va_nil))) va_nil))) (va_cons (ve_add (ve_n 0) (ve_lst (va_cons (ve_tup (va_cons ve_int (va_cons ve_bl va_nil))) va_nil))) (va_cons (ve_mul (ve_n 0) ve_int) (va_cons (ve_lst (va_cons (ve_n 0) va_nil)) (va_cons ve_dic (va_cons (ve_add (ve_n 0) (ve_lst (va_cons (ve_tup (va_cons ve_str (va_cons ve_int va_nil))) va_nil))) (va_cons (ve_add (ve_n 0) (ve_lst (va_cons (ve_tup (va_cons ve_dic (va_cons ve_int va_nil))) va_nil))) va_nil)))))))))))))) (vg_n 1 nd__law_refused_right) (vss_cons
    (vs_if (vt_not (vt_v (VX.ve (rf.go (LamX.lamS_by (show LamX.lamSB (defScope s__law_refused_right) _ = true by decide +kernel)) rfl (fun _ _ _ _ _ => rfl)
    (fun E A out s H f c' hrr hgg => (VX.ve (vx_call (ok_turns Z) (bn_turns Z) Z.g_turns Z.d_turns.kp (hrr.mono (by decide)) hgg (by exact takes_of rfl rfl rfl rfl) (vr_cons (VE.vx (ve_n 1)) (vr_cons (VE.vx ve_non) (vr_cons (VE.vx ve_non) vr_nil)))))) ve_str (ve_n 1) rfl rfl rfl rfl)))) (vss_one (vs_ret ve_bl)) vss_nil)
  (vss_one (vs_if (vt_not (vt_v (VX.ve (rf.go (LamX.lamS_by (show LamX.lamSB (defScope s__law_refused_right) _ = true by decide +kernel)) rfl (fun _ _ _ _ _ => rfl)
    (fun E A out s H f c' hrr hgg => (VX.ve (vx_call (ok_area Z) (bn_area Z) Z.g_area Z.d_area.kp (hrr.mono (by decide)) hgg (by exact takes_of rfl rfl rfl rfl) (vr_cons (VE.vx (ve_n 1)) vr_nil)))) ve_str (ve_n 1) rfl rfl rfl rfl)))) (vss_one (vs_ret ve_bl)) vss_nil))))
  (vss_cons
    (vs_for (by exact passes_of rfl) (vi_seq (ve_lst (va_cons ve_non (va_cons ve_bl (va_cons (ve_pow ve_int ve_int) (va_cons (ve_sub (ve_sub ve_int (ve_pow ve_int ve_int)) ve_int) (va_cons ve_str (va_cons (ve_tup (va_cons ve_int va_nil)) (va_cons (ve_lst va_nil) va_nil))))))))) (vg_n 1 nd__law_refused_right) (vss_cons
    (vs_if (vt_not (vt_v (VX.ve (rf.go (LamX.lamS_by (show LamX.lamSB (defScope s__law_refused_right) _ = true by decide +kernel)) rfl (fun _ _ _ _ _ => rfl)
    (fun E A out s H f c' hrr hgg => (VX.ve (vx_call (ok_turns Z) (bn_turns Z) Z.g_turns Z.d_turns.kp (hrr.mono (by decide)) hgg (by exact takes_of rfl rfl rfl rfl) (vr_cons (VE.vx (ve_n 0)) (vr_cons (VE.vx (ve_n 1)) (vr_cons (VE.vx ve_non) vr_nil)))))) ve_str (ve_n 1) rfl rfl rfl rfl)))) (vss_one (vs_ret ve_bl)) vss_nil)
  (vss_one (vs_if (vt_not (vt_v (VX.ve (rf.go (LamX.lamS_by (show LamX.lamSB (defScope s__law_refused_right) _ = true by decide +kernel)) rfl (fun _ _ _ _ _ => rfl)
    (fun E A out s H f c' hrr hgg => (VX.ve (vx_call (ok_turns Z) (bn_turns Z) Z.g_turns Z.d_turns.kp (hrr.mono (by decide)) hgg (by exact takes_of rfl rfl rfl rfl) (vr_cons (VE.vx (ve_n 0)) (vr_cons (VE.vx ve_int) (vr_cons (VE.vx (ve_n 1)) vr_nil)))))) ve_str (ve_n 1) rfl rfl rfl rfl)))) (vss_one (vs_ret ve_bl)) vss_nil))))
  (vss_one (vs_ret (VX.ve (vx_call (ok__law_exact Z) (bn__law_exact Z) Z.g__law_exact Z.d__law_exact.kp (hr.mono (by decide)) hg tk (vr_cons (VE.vx (ve_lst (va_cons ve_int (va_cons ve_int (va_cons ve_int (va_cons ve_int va_nil)))))) (vr_cons (VE.vx (ve_lst (va_cons (VX.ve (vx_call (ok_turns Z) (bn_turns Z) Z.g_turns Z.d_turns.kp (hr.mono (by decide)) hg tk (vr_cons (VE.vx (ve_lst va_nil)) (vr_cons (VE.vx ve_int) (vr_cons (VE.vx ve_int) vr_nil))))) (va_cons (VX.ve (vx_call (ok_area Z) (bn_area Z) Z.g_area Z.d_area.kp (hr.mono (by decide)) hg tk (vr_cons (VE.vx (ve_lst va_nil)) vr_nil))) (va_cons (VX.ve (vx_call (ok_turns Z) (bn_turns Z) Z.g_turns Z.d_turns.kp (hr.mono (by decide)) hg tk (vr_cons (VE.vx (ve_lst (va_cons (ve_tup (va_cons ve_int (va_cons ve_int va_nil))) va_nil))) (vr_cons (VE.vx ve_int) (vr_cons (VE.vx ve_int) vr_nil))))) (va_cons (VX.ve (vx_call (ok_area Z) (bn_area Z) Z.g_area Z.d_area.kp (hr.mono (by decide)) hg tk (vr_cons (VE.vx (ve_lst (va_cons (ve_tup (va_cons ve_int (va_cons ve_int va_nil))) (va_cons (ve_tup (va_cons ve_int (va_cons ve_int va_nil))) va_nil)))) vr_nil))) va_nil)))))) vr_nil)))))))))⟩
theorem ok__law_refused_right (Z : Fax P w K mg base) : FnG P w K mg base 47 (He.ga K "_law_refused_right") (fdOf K "_law_refused_right") ps__law_refused_right (spV (gx K) (c__law_refused_right K) 0) :=
  fn_V Z.d__law_refused_right sc__law_refused_right (by decide) (by decide) (l__law_refused_right K) fun cdv A out s H E hcv hr hg => V__law_refused_right Z hcv hr hg
abbrev N_law : List Str := ["script", "index", "generator", "turn"]
abbrev ps_law : List Str := ["script"]
theorem nd_law : N_law.Nodup := by decide +kernel
theorem sc_law : FnScope N_law ps_law (defScope s_law) := ⟨rfl, rfl, rfl, nd_law, rfl, by decide +kernel, by decide +kernel⟩
theorem bi_law (Z : Fax P w K mg base) : Binds K (fdOf K "law") ps_law [] := Z.d_law.bindsN fun _ _ _ _ _ _ us hl => match us, hl with | [_], _ => rfl
theorem bn_law (Z : Fax P w K mg base) : Bnd K (fdOf K "law") ps_law 1 [] (fun us _ => us) (fun vs _ => vs) (fun as _ => as) := bnd_all (bi_law Z)
def b1_law (K : PySem.W.Frag) : WS := (wSeq (wSetX 2 (wCall (c__law_generator K) (fun as _ => as) (rCons (xN 0) (rCons (xD (wN 1)) rNil)) rNil))
  (wFor (wRng1 (wCons (wC (.int 2)) wNil)) (gN 3) (wIf (wNot (wB (wD (wCall (c__law_right K) (fun as _ => as) (rCons (xN 2) rNil) rNil)))) (wRet (wC (.bool false))) wNext)))
--MARK law
abbrev w_law (K : PySem.W.Frag) : WS := (wSeq (wFor (wRng1 (wCons (wC (.int 4)) wNil)) (gN 1) (b1_law K))
  (wRet (wD (wCall (c__law_refused_right K) (fun as _ => as) rNil rNil))))
theorem fin_law {a b A B D m m2 : Nat} (hBC : D ≤ B) (h3 : a * A + (b + 1) * B ≤ m) (h5 : m ≤ m2 + D) : a * A + b * B ≤ m2 := by
  rw [Nat.succ_mul] at h3
  omega
def c_law (K : PySem.W.Frag) : Ct := fun as n P _ => nes K ∧ ∃ ns, as = [.sq ns] ∧ n = 2 ^ 59 ∧ ∀ m, P (.da (.bool true)) m
theorem l_law (K : PySem.W.Frag) : ∀ as n P X, c_law K as n P X → as.length = ps_law.length → w_law K (outA P) X (entry N_law as n) := by
  rintro as n P X ⟨hne, ns, rfl, rfl, h⟩ -
  walk_at "V"
  refine ⟨⟨by decide, by decide⟩, ?_⟩
  refine lp_of (fun ds e => ∃ s1 s2 s3 m, e = ⟨[.sq ns, s1, s2, s3], m⟩ ∧ ds.length * 200000 ≤ m ∧ m ≤ 2 ^ 59 ∧ ∀ d ∈ ds, ∃ i : Nat, d = .int i ∧ i < 4) ?_ ?_ _ _ ?_
  · rintro e ⟨s1, s2, s3, m, rfl, h1, h2, -⟩
    walk_at "V"
    refine ⟨hne, rfl, ?_⟩
    walk_at "V"
    exact h _
  · rintro d ds e N ⟨s1, s2, s3, m, rfl, h1, h2, hd⟩ hN
    obtain ⟨i, rfl, hi⟩ := hd _ (List.mem_cons_self ..)
    rw [List.length_cons] at h1
    unfold b1_law
    walk_at "V"
    refine ⟨_, _, rfl, by omega, by omega, h2, ?_⟩
    walk_at "V"
    refine ⟨⟨by decide, by decide⟩, ?_⟩
    refine lp_of (fun ds' e => ∃ s3 m', e = ⟨[.sq ns, .da (.int i), .ge, s3], m'⟩ ∧ ds.length * 200000 + ds'.length * 60000 ≤ m' ∧ m' ≤ 2 ^ 59) ?_ ?_ _ _ ?_
    · rintro e ⟨s3, m', rfl, h3, h4⟩
      walk_at "V"
      exact hN _ ⟨_, _, _, _, rfl, by simpa using h3, h4, fun d h => hd d (List.mem_cons_of_mem _ h)⟩
    · rintro d' ds' e N' ⟨s3, m', rfl, h3, h4⟩ hN'
      rw [List.length_cons] at h3
      walk_at "V"
      refine ⟨rfl, by omega, fun m2 h5 => ?_⟩
      walk_at "V"
      have g1 : ds.length * 200000 + ds'.length * 60000 ≤ m2 := fin_law (by decide) h3 h5.2
      have g2 : m2 ≤ 2 ^ 59 := Nat.le_trans h5.1 h4
      exact hN' _ ⟨_, _, rfl, g1, g2⟩
    · exact ⟨_, _, rfl, by simp [rng]; omega, h2⟩
  · exact ⟨_, _, _, _, rfl, by rw [rng, List.length_map, List.length_range]; exact (by decide +kernel : (4 : Nat) * 200000 ≤ 2 ^ 59), Nat.le_refl _, rng_ix⟩

theorem V_law (Z : Fax P w K mg base) {cdv : Value} {A : Around} {out : List Env} {s : Shared} {H : Hp} {E : XK} (hcv : CodeOf K (He.ga K "law") "law" cdv) (hr : Room 47 (A.deeper (envOfC "law" (defScope s_law) s.heap.objs.size (He.ga K "law") cdv))) (hg : (A.deeper (envOfC "law" (defScope s_law) s.heap.objs.size (He.ga K "law") cdv)).guards = some []) :
    ∃ ts, VSs (gx K) (cxOf (L2.CX P w) P w K mg base N_law "law" (defScope s_law) (He.ga K "law") cdv A out s H E) E (defBody s_law) ts (w_law K) := by
  have tk : Takes (cxOf (L2.CX P w) P w K mg base N_law "law" (defScope s_law) (He.ga K "law") cdv A out s H E) (fun c d _ H => E c d H) := takes_of rfl rfl rfl rfl
  exact ⟨_,
  (vss_cons
    (vs_for (by exact passes_of rfl) (vi_rng1 (va_cons ve_int va_nil) Z.n_range) (vg_n 1 nd_law) (vss_cons
    (vs_setX 2 nd_law (vx_call (ok__law_generator Z) (bn__law_generator Z) Z.g__law_generator Z.d__law_generator.kp (hr.mono (by decide)) hg tk (vr_cons (vx_n 0) (vr_cons (VE.vx (ve_n 1)) vr_nil))))
  (vss_one (vs_for (by exact passes_of rfl) (vi_rng1 (va_cons ve_int va_nil) Z.n_range) (vg_n 3 nd_law) (vss_one (vs_if (vt_not (vt_v (VX.ve (vx_call (ok__law_right Z) (bn__law_right Z) Z.g__law_right Z.d__law_right.kp (hr.mono (by decide)) hg tk (vr_cons (vx_n 2) vr_nil))))) (vss_one (vs_ret ve_bl)) vss_nil))))))
  (vss_one (vs_ret (VX.ve (vx_call0 (ok__law_refused_right Z) (bn__law_refused_right Z) Z.g__law_refused_right Z.d__law_refused_right.kp (hr.mono (by decide)) hg tk)))))⟩
theorem ok_law (Z : Fax P w K mg base) : FnG P w K mg base 48 (He.ga K "law") (fdOf K "law") ps_law (spV (gx K) (c_law K) 1) :=
  fn_V Z.d_law sc_law (by decide) (by decide) (l_law K) fun cdv A out s H E hcv hr hg => V_law Z hcv hr hg
end
end LX

end
section
set_option maxHeartbeats 0
set_option Elab.async false
set_option linter.all false
set_option maxRecDepth 100000
namespace LX
open PySem PySem.Spec PyProof.Rows L2 VL
theorem bind1 {K : PySem.W.Frag} {x qual : Str} {params : Arguments} {body : List Stmt} {scope : Scope} {f : Addr} {fd : FuncData} (F : FunD K x qual params body scope [] [] f fd)
    (h : ∀ (kV doc pm : Value) (an : Option Addr) (cdv ct u : Value), bindArgs (PySem.W.fnOf x qual params body scope .none kV doc pm an cdv ct) ⟨[u], []⟩ = pure [(("script" : Str), u)]) (s : Shared) (u : Value) : BindsTo s fd ⟨[u], []⟩ [(("script" : Str), u)] := by
  obtain ⟨oc, od, dV, kV, doc, pm, an, cdv, ct, osl, rfl, lk, hcd, hD, hK⟩ := F.ex
  rcases hD with ⟨_, rfl⟩ | ⟨e, _⟩
  · exact .of_eq (h kV doc pm an cdv ct u)
  · exact absurd rfl e
theorem c_law_start (K : PySem.W.Frag) (hne : nes K) (ns : List Int) : c_law K [.sq ns] (2 ^ 59) (fun r _ => r = .da (.bool true)) X00 := ⟨hne, ns, rfl, rfl, fun _ => rfl⟩
end LX

namespace LX
open PySem PySem.Spec PyProof.Rows L2 VL
theorem fax_of {w : World} {K : PySem.W.Frag} {mg : Str → Option Value} {base h : Heap} (X : K.In base) (N : base.Ns mainGlobals mg) (c : He.SaysX fa fn [] tf ex w h K) (TB : ∀ p ∈ tf.map (He.cT K), LamX.TabB base mg p.1 p.2) : Fax PySem.Challenge.pw_pictureheld_k49_whole_turns_of_told_rect w K mg base := by
  have hx : ∀ b ∈ exs K, b = true := fun b hb => List.all_eq_true.mp (show (exs K).all id = true from c.more) b hb
  exact {
    d_is_integer := (c.t.d.def_ 0 (d := d_is_integer) rfl).elim fun _ F => fdOf_eq F
    g_is_integer := He.glo_ok X N (c.t.d.fact 0 (f := .glo "is_integer") rfl)
    d_is_number := (c.t.d.def_ 1 (d := d_is_number) rfl).elim fun _ F => fdOf_eq F
    g_is_number := He.glo_ok X N (c.t.d.fact 1 (f := .glo "is_number") rfl)
    d_is_grid_place := (c.t.d.def_ 2 (d := d_is_grid_place) rfl).elim fun _ F => fdOf_eq F
    g_is_grid_place := He.glo_ok X N (c.t.d.fact 2 (f := .glo "is_grid_place") rfl)
    d_is_path := (c.t.d.def_ 3 (d := d_is_path) rfl).elim fun _ F => fdOf_eq F
    g_is_path := He.glo_ok X N (c.t.d.fact 3 (f := .glo "is_path") rfl)
    d_edges_of := (c.t.d.def_ 4 (d := d_edges_of) rfl).elim fun _ F => fdOf_eq F
    g_edges_of := He.glo_ok X N (c.t.d.fact 4 (f := .glo "edges_of") rfl)
    d_beside := (c.t.d.def_ 5 (d := d_beside) rfl).elim fun _ F => fdOf_eq F
    g_beside := He.glo_ok X N (c.t.d.fact 5 (f := .glo "beside") rfl)
    d_middle_of := (c.t.d.def_ 6 (d := d_middle_of) rfl).elim fun _ F => fdOf_eq F
    g_middle_of := He.glo_ok X N (c.t.d.fact 6 (f := .glo "middle_of") rfl)
    d_turns_round := (c.t.d.def_ 7 (d := d_turns_round) rfl).elim fun _ F => fdOf_eq F
    g_turns_round := He.glo_ok X N (c.t.d.fact 7 (f := .glo "turns_round") rfl)
    d_check_cell := (c.t.d.def_ 8 (d := d_check_cell) rfl).elim fun _ F => fdOf_eq F
    g_check_cell := He.glo_ok X N (c.t.d.fact 8 (f := .glo "check_cell") rfl)
    d_check_path := (c.t.d.def_ 9 (d := d_check_path) rfl).elim fun _ F => fdOf_eq F
    g_check_path := He.glo_ok X N (c.t.d.fact 9 (f := .glo "check_path") rfl)
    d_turns := (c.t.d.def_ 10 (d := d_turns) rfl).elim fun _ F => fdOf_eq F
    g_turns := He.glo_ok X N (c.t.d.fact 10 (f := .glo "turns") rfl)
    d_area_of := (c.t.d.def_ 11 (d := d_area_of) rfl).elim fun _ F => fdOf_eq F
    g_area_of := He.glo_ok X N (c.t.d.fact 11 (f := .glo "area_of") rfl)
    d_area := (c.t.d.def_ 12 (d := d_area) rfl).elim fun _ F => fdOf_eq F
    g_area := He.glo_ok X N (c.t.d.fact 12 (f := .glo "area") rfl)
    d__law_cell := (c.t.d.def_ 13 (d := d__law_cell) rfl).elim fun _ F => fdOf_eq F
    g__law_cell := He.glo_ok X N (c.t.d.fact 13 (f := .glo "_law_cell") rfl)
    d__law_hash := (c.t.d.def_ 14 (d := d__law_hash) rfl).elim fun _ F => fdOf_eq F
    g__law_hash := He.glo_ok X N (c.t.d.fact 14 (f := .glo "_law_hash") rfl)
    d__law_generator := (c.t.d.def_ 15 (d := d__law_generator) rfl).elim fun _ F => fdOf_eq F
    g__law_generator := He.glo_ok X N (c.t.d.fact 15 (f := .glo "_law_generator") rfl)
    d__law_random := (c.t.d.def_ 16 (d := d__law_random) rfl).elim fun _ F => fdOf_eq F
    g__law_random := He.glo_ok X N (c.t.d.fact 16 (f := .glo "_law_random") rfl)
    d__law_between := (c.t.d.def_ 17 (d := d__law_between) rfl).elim fun _ F => fdOf_eq F
    g__law_between := He.glo_ok X N (c.t.d.fact 17 (f := .glo "_law_between") rfl)
    d__law_pick := (c.t.d.def_ 18 (d := d__law_pick) rfl).elim fun _ F => fdOf_eq F
    g__law_pick := He.glo_ok X N (c.t.d.fact 18 (f := .glo "_law_pick") rfl)
    d__law_exact := (c.t.d.def_ 19 (d := d__law_exact) rfl).elim fun _ F => fdOf_eq F
    g__law_exact := He.glo_ok X N (c.t.d.fact 19 (f := .glo "_law_exact") rfl)
    d__law_refused := (c.t.d.def_ 20 (d := d__law_refused) rfl).elim fun _ F => fdOf_eq F
    g__law_refused := He.glo_ok X N (c.t.d.fact 20 (f := .glo "_law_refused") rfl)
    d__law_kind := (c.t.d.def_ 21 (d := d__law_kind) rfl).elim fun _ F => fdOf_eq F
    g__law_kind := He.glo_ok X N (c.t.d.fact 21 (f := .glo "_law_kind") rfl)
    d__law_side_at := (c.t.d.def_ 22 (d := d__law_side_at) rfl).elim fun _ F => fdOf_eq F
    g__law_side_at := He.glo_ok X N (c.t.d.fact 22 (f := .glo "_law_side_at") rfl)
    d__law_rectangles := (c.t.d.def_ 23 (d := d__law_rectangles) rfl).elim fun _ F => fdOf_eq F
    g__law_rectangles := He.glo_ok X N (c.t.d.fact 23 (f := .glo "_law_rectangles") rfl)
    d__law_round := (c.t.d.def_ 24 (d := d__law_round) rfl).elim fun _ F => fdOf_eq F
    g__law_round := He.glo_ok X N (c.t.d.fact 24 (f := .glo "_law_round") rfl)
    d__law_path := (c.t.d.def_ 25 (d := d__law_path) rfl).elim fun _ F => fdOf_eq F
    g__law_path := He.glo_ok X N (c.t.d.fact 25 (f := .glo "_law_path") rfl)
    d__law_due := (c.t.d.def_ 26 (d := d__law_due) rfl).elim fun _ F => fdOf_eq F
    g__law_due := He.glo_ok X N (c.t.d.fact 26 (f := .glo "_law_due") rfl)
    d__law_parted_right := (c.t.d.def_ 27 (d := d__law_parted_right) rfl).elim fun _ F => fdOf_eq F
    g__law_parted_right := He.glo_ok X N (c.t.d.fact 27 (f := .glo "_law_parted_right") rfl)
    d__law_right := (c.t.d.def_ 28 (d := d__law_right) rfl).elim fun _ F => fdOf_eq F
    g__law_right := He.glo_ok X N (c.t.d.fact 28 (f := .glo "_law_right") rfl)
    d__law_refused_right := (c.t.d.def_ 29 (d := d__law_refused_right) rfl).elim fun _ F => fdOf_eq F
    g__law_refused_right := He.glo_ok X N (c.t.d.fact 29 (f := .glo "_law_refused_right") rfl)
    d_law := (c.t.d.def_ 30 (d := d_law) rfl).elim fun _ F => fdOf_eq F
    g_law := He.glo_ok X N (c.t.d.fact 30 (f := .glo "law") rfl)
    n_abs := He.free_ok X N (c.t.d.fact 31 (f := .free "abs") rfl)
    n_all := He.free_ok X N (c.t.d.fact 32 (f := .free "all") rfl)
    n_bool := He.free_ok X N (c.t.d.fact 33 (f := .free "bool") rfl)
    n_enumerate := He.free_ok X N (c.t.d.fact 34 (f := .free "enumerate") rfl)
    n_int := He.free_ok X N (c.t.d.fact 35 (f := .free "int") rfl)
    n_isinstance := He.free_ok X N (c.t.d.fact 36 (f := .free "isinstance") rfl)
    n_len := He.free_ok X N (c.t.d.fact 37 (f := .free "len") rfl)
    n_list := He.free_ok X N (c.t.d.fact 38 (f := .free "list") rfl)
    n_max := He.free_ok X N (c.t.d.fact 39 (f := .free "max") rfl)
    n_range := He.free_ok X N (c.t.d.fact 40 (f := .free "range") rfl)
    n_repr := He.free_ok X N (c.t.d.fact 41 (f := .free "repr") rfl)
    n_sorted := He.free_ok X N (c.t.d.fact 42 (f := .free "sorted") rfl)
    n_str := He.free_ok X N (c.t.d.fact 43 (f := .free "str") rfl)
    n_sum := He.free_ok X N (c.t.d.fact 44 (f := .free "sum") rfl)
    n_tuple := He.free_ok X N (c.t.d.fact 45 (f := .free "tuple") rfl)
    c_LOWEST := He.int_ok X N (c.t.d.fact 46 (f := .int "LOWEST" (-2147483648)) rfl)
    c_HIGHEST := He.int_ok X N (c.t.d.fact 47 (f := .int "HIGHEST" 2147483647) rfl)
    c_CELL := He.int_ok X N (c.t.d.fact 48 (f := .int "CELL" 16) rfl)
    c_HALF := He.int_ok X N (c.t.d.fact 49 (f := .int "HALF" 8) rfl)
    c_MOST_PLACES := He.int_ok X N (c.t.d.fact 50 (f := .int "MOST_PLACES" 64) rfl)
    g_InvalidNumber := He.glo_ok X N (c.t.d.fact 51 (f := .glo "InvalidNumber") rfl)
    g_InvalidRow := He.glo_ok X N (c.t.d.fact 52 (f := .glo "InvalidRow") rfl)
    g_PictureError := He.glo_ok X N (c.t.d.fact 53 (f := .glo "PictureError") rfl)
    e_InvalidNumber := VX.errB_ok rfl (by kernel_rfl) (hx _ (List.mem_of_getElem? (i := 0) rfl))
    e_InvalidRow := VX.errB_ok rfl (by kernel_rfl) (hx _ (List.mem_of_getElem? (i := 1) rfl))
    x_InvalidNumber_PictureError := He.exm_ok (c.t.d.fact 54 (f := .exm "InvalidNumber" "PictureError" true) rfl)
    x_InvalidRow_PictureError := He.exm_ok (c.t.d.fact 55 (f := .exm "InvalidRow" "PictureError" true) rfl)
    k_InvalidNumber_InvalidNumber := of_decide_eq_true (hx _ (List.mem_of_getElem? (i := 2) rfl))
    k_InvalidNumber_InvalidRow := of_decide_eq_true (hx _ (List.mem_of_getElem? (i := 3) rfl))
    k_InvalidRow_InvalidNumber := of_decide_eq_true (hx _ (List.mem_of_getElem? (i := 4) rfl))
    k_InvalidRow_InvalidRow := of_decide_eq_true (hx _ (List.mem_of_getElem? (i := 5) rfl))
    ne_InvalidRow_InvalidNumber := of_decide_eq_true (hx _ (List.mem_of_getElem? (i := 6) rfl))
    sm := smB_ok (hx _ (List.mem_of_getElem? (i := 7) rfl))
    tb__law_refused_right := TB _ (List.mem_map.mpr ⟨("_law_refused_right", none), List.mem_of_getElem? (i := 0) rfl, rfl⟩)
  }
theorem tabs_in (K : PySem.W.Frag) : ∀ t ∈ (gx K).T, ∃ p ∈ tf.map (He.cT K), p.2 = t.1 := by
  intro t h
  have h' : t ∈ ([((He.cT K ("_law_refused_right", none)).2, "_law_refused_right" ++ ".<locals>." ++ "<lambda>")] : List (Addr × Str)) := h
  simp only [List.mem_cons, List.not_mem_nil, or_false] at h'
  rcases h' with rfl
  · exact ⟨_, List.mem_map.mpr ⟨("_law_refused_right", none), List.mem_of_getElem? (i := 0) rfl, rfl⟩, rfl⟩
theorem nes_of {w : World} {K : PySem.W.Frag} {h : Heap} (c : He.SaysX fa fn [] tf ex w h K) : nes K := by
  have hx : ∀ b ∈ exs K, b = true := fun b hb => List.all_eq_true.mp (show (exs K).all id = true from c.more) b hb
  exact ⟨of_decide_eq_true (hx _ (List.mem_of_getElem? (i := 6) rfl)), trivial⟩
end LX
open PySem PySem.W PySem.Calls PyProof.Rows in
theorem PySem.Challenge.cw_pictureheld_k49_whole_turns_of_told_rect_holds : PySem.Challenge.rw_pictureheld_k49_whole_turns_of_told_rect.Holds := by
  w_on; o_law
  refine HandSHeadRun.head_any (r := OpenLaw.row PySem.Challenge.rw_pictureheld_k49_whole_turns_of_told_rect) (q := view (OpenLaw.row PySem.Challenge.rw_pictureheld_k49_whole_turns_of_told_rect).prog [42]) (H := LX.hk) (ob := LX.ob) (M := 12000) (loose := LX.names) (d := HandSHeadRun.topDef (OpenLaw.row PySem.Challenge.rw_pictureheld_k49_whole_turns_of_told_rect).prog 42) (kwd := []) LX.ob_eq
    (by kernel_rfl) (fun s => by kernel_rfl) LX.run (by kernel_rfl) (by kernel_rfl) (by kernel_rfl) (by rfl) (by first | assumption | decide +kernel) (by decide +kernel) ⟨rfl, rfl, rfl, rfl, rfl, by decide +kernel⟩ ?hw ?hc
  case hw => w_witness2
  case hc =>
    refine VL.walk_ofG (l := PySem.Challenge.rw_pictureheld_k49_whole_turns_of_told_rect) (n := 63) (k := 48) (x := "script") rfl (by decide) (by kernel_rfl) ⟨rfl, by decide, by decide⟩ ?F
    intro w mg fa h Y G hmg0
    obtain ⟨K, KX, c⟩ := Y
    have hmg : mg ("law" : PySem.Str) = some (.ref fa) := by
      have e : (HandSHeadRun.topDef (OpenLaw.row PySem.Challenge.rw_pictureheld_k49_whole_turns_of_told_rect).prog 42).name = ("law" : PySem.Str) := by kernel_rfl
      rw [← e]
      exact hmg0
    have efa : fa = He.ga K "law" := by
      have z := He.glo_ok KX G (c.t.d.fact 30 (f := .glo "law") rfl)
      rw [hmg] at z
      exact Value.ref.inj (Option.some.inj z)
    subst efa
    refine ⟨K, VL.fdOf K "law", LX.tf.map (He.cT K), VL.spV (LX.gx K) (LX.c_law K) 1, KX, fun p hp => ?_, fun p hp => ?_, fun p hp => ?_, ?_, fun H a ns hn hb ht hs htb => ?_, fun base KB NB _ TB => LX.ok_law (LX.fax_of KB NB c TB)⟩
    · obtain ⟨d, hd, e⟩ := List.mem_map.mp hp
      rw [← e]; exact c.empty d hd
    · obtain ⟨d, hd, e⟩ := List.mem_map.mp hp
      rw [← e]; exact c.out d hd
    · obtain ⟨d, hd, e⟩ := List.mem_map.mp hp
      rw [← e]; exact PySem.W.codeHd_of_K KX (c.hd d hd)
    · obtain ⟨fd, F⟩ := c.t.d.def_ 30 (d := LX.d_law) rfl
      exact fun s u => LX.bind1 (VL.fdOf_eq F) (fun _ _ _ _ _ _ _ => rfl) s u
    · exact VL.law_start (cs := LX.tf.map (He.cT K)) (n := 2 ^ 59) (fun t h => LX.tabs_in K t h) ht hs (LX.c_law_start K (LX.nes_of c) ns)

end