import PyProof.Rows.All
import Wide.All
import OpenK.AllK
import Wide.FinOn
import HandS.ForMost
import HandS.Codes
import HandS.Wide
import HandS.IsInst
import HandS.Flow
import HandS.Style
import HandS.Star
import PySem.Challenge.RW_typeforge_k34_solids_of_a_paragraph
set_option Elab.async false
set_option linter.all false
set_option maxRecDepth 100000
/-! Data, worlds, slots: a layer over the readings in which a frame's slots hold data and lists of its own. -/
namespace Y
open PySem L2

/-- data: what never changes once it is made -/
inductive D where
  | non | bl (b : Bool) | int (i : Int) | str (s : Str)
  | tup (ds : List D) | lst (ds : List D)
  | obj (C : Addr) (ns : List Str) (ds : List D)
  | dct (ks : List Key) (ds : List D) | dtt (ks : List (List Key)) (ds : List D)

mutual
/-- v is the datum d, all of whose objects stand in F -/
inductive Tp (K : PySem.W.Frag) (F : Hp) : V → D → Prop where
  | non : Tp K F .non .non
  | bl (b : Bool) : Tp K F (.bl b) (.bl b)
  | int (i : Int) : Tp K F (.int i) (.int i)
  | str (s : Str) : Tp K F (.str s) (.str s)
  | tup {a : Addr} {xs : List V} {ds : List D} : SqT K F a xs → Tps K F xs ds → Tp K F (.ref a) (.tup ds)
  | lst {a : Addr} {xs : List V} {ds : List D} : Rd F a (.lst xs) → Tps K F xs ds → Tp K F (.ref a) (.lst ds)
  | obj {a C dx : Addr} {fs : List (Str × V)} {ns : List Str} {ds : List D} : F a = some (.ins C dx fs) → fs.map (·.1) = ns → Tps K F (fs.map (·.2)) ds → Tp K F (.ref a) (.obj C ns ds)
  | dct {a : Addr} {kvs : List (Key × V)} {ks : List Key} {ds : List D} : F a = some (.dK kvs) → kvs.map (·.1) = ks → Tps K F (kvs.map (·.2)) ds → Tp K F (.ref a) (.dct ks ds)
  | dtt {a : Addr} {kvs : List (List Key × V)} {ks : List (List Key)} {ds : List D} : F a = some (.dT kvs) → kvs.map (·.1) = ks → Tps K F (kvs.map (·.2)) ds → Tp K F (.ref a) (.dtt ks ds)
inductive Tps (K : PySem.W.Frag) (F : Hp) : List V → List D → Prop where
  | nil : Tps K F [] []
  | cons {v : V} {vs : List V} {d : D} {ds : List D} : Tp K F v d → Tps K F vs ds → Tps K F (v :: vs) (d :: ds)
end

section
variable {K : PySem.W.Frag} {F F' : Hp}
theorem Rd.mono {a : Addr} {u : HO} (e : Same F F') (h : Rd F a u) : Rd F' a u := by
  rcases h with h | ⟨o, h⟩
  · exact .inl (e a _ h)
  · exact .inr ⟨o, e a _ h⟩
theorem sqL_mono {a : Addr} {xs : List V} (e : Same F F') (h : SqL K F a xs) : SqL K F' a xs := h.imp (Rd.mono e) id
theorem sqT_mono {a : Addr} {xs : List V} (e : Same F F') (h : SqT K F a xs) : SqT K F' a xs := h.imp (Rd.mono e) id
theorem Tp.mono {v : V} {d : D} (e : Same F F') (h : Tp K F v d) : Tp K F' v d := by
  refine Tp.rec (motive_1 := fun v d _ => Tp K F' v d) (motive_2 := fun vs ds _ => Tps K F' vs ds) ?_ ?_ ?_ ?_ ?_ ?_ ?_ ?_ ?_ ?_ ?_ h
  · exact .non
  · exact fun b => .bl b
  · exact fun b => .int b
  · exact fun b => .str b
  · exact fun h _ ih => .tup (sqT_mono e h) ih
  · exact fun h _ ih => .lst (Rd.mono e h) ih
  · exact fun h n _ ih => .obj (e _ _ h) n ih
  · exact fun h n _ ih => .dct (e _ _ h) n ih
  · exact fun h n _ ih => .dtt (e _ _ h) n ih
  · exact .nil
  · exact fun _ _ a b => .cons a b
theorem Tps.mono {vs : List V} {ds : List D} (e : Same F F') (h : Tps K F vs ds) : Tps K F' vs ds := by
  induction ds generalizing vs with
  | nil => cases h; exact .nil
  | cons d ds ih => cases h with
    | cons a b => exact .cons (a.mono e) (ih b)
theorem Tps.length : ∀ {vs : List V} {ds : List D}, Tps K F vs ds → vs.length = ds.length
  | _, _, .nil => rfl
  | _, _, .cons _ t => congrArg (· + 1) t.length
theorem Tps.append : ∀ {vs ws : List V} {ds es : List D}, Tps K F vs ds → Tps K F ws es → Tps K F (vs ++ ws) (ds ++ es)
  | _, _, _, _, .nil, s => s
  | _, _, _, _, .cons a t, s => .cons a (t.append s)
theorem Tps.get : ∀ {vs : List V} {ds : List D} {i : Nat} {d : D}, Tps K F vs ds → ds[i]? = some d → ∃ v, vs[i]? = some v ∧ Tp K F v d
  | _, _, i, _, .nil, e => by simp at e
  | _, _, 0, _, .cons a t, e => by simp at e; subst e; exact ⟨_, rfl, a⟩
  | _, _, i + 1, d, .cons a t, e => by
    obtain ⟨v, h1, h2⟩ := t.get (i := i) (d := d) (by simpa using e)
    exact ⟨v, by simpa using h1, h2⟩
theorem Tps.get' : ∀ {vs : List V} {ds : List D} {i : Nat} {v : V}, Tps K F vs ds → vs[i]? = some v → ∃ d, ds[i]? = some d ∧ Tp K F v d
  | _, _, i, _, .nil, e => by simp at e
  | _, _, 0, _, .cons a t, e => by simp at e; subst e; exact ⟨_, rfl, a⟩
  | _, _, i + 1, d, .cons a t, e => by
    obtain ⟨v, h1, h2⟩ := t.get' (i := i) (v := d) (by simpa using e)
    exact ⟨v, by simpa using h1, h2⟩
theorem Tps.set {v : V} {d : D} (r : Tp K F v d) : ∀ {vs : List V} {ds : List D} (i : Nat), Tps K F vs ds → Tps K F (vs.set i v) (ds.set i d)
  | _, _, _, .nil => .nil
  | _, _, 0, .cons _ t => .cons r t
  | _, _, i + 1, .cons a t => .cons a (t.set r i)
theorem Tps.drop : ∀ {vs : List V} {ds : List D} (n : Nat), Tps K F vs ds → Tps K F (vs.drop n) (ds.drop n)
  | _, _, 0, r => r
  | _, _, _ + 1, .nil => .nil
  | _, _, n + 1, .cons _ t => t.drop n
theorem Tps.take : ∀ {vs : List V} {ds : List D} (n : Nat), Tps K F vs ds → Tps K F (vs.take n) (ds.take n)
  | _, _, 0, _ => .nil
  | _, _, _ + 1, .nil => .nil
  | _, _, n + 1, .cons a t => .cons a (t.take n)
theorem Tps.dropLast : ∀ {vs : List V} {ds : List D}, Tps K F vs ds → Tps K F vs.dropLast ds.dropLast
  | _, _, .nil => .nil
  | _, _, .cons _ .nil => .nil
  | _, _, .cons a (.cons b t) => .cons a (Tps.dropLast (.cons b t))
theorem Tps.reverse : ∀ {vs : List V} {ds : List D}, Tps K F vs ds → Tps K F vs.reverse ds.reverse
  | _, _, .nil => .nil
  | _, _, .cons a t => by rw [List.reverse_cons, List.reverse_cons]; exact t.reverse.append (.cons a .nil)
theorem Tps.rep {vs : List V} {ds : List D} (h : Tps K F vs ds) : ∀ n : Nat, Tps K F (List.replicate n vs).flatten (List.replicate n ds).flatten
  | 0 => .nil
  | n + 1 => by rw [List.replicate_succ, List.replicate_succ, List.flatten_cons, List.flatten_cons]; exact h.append (h.rep n)
end

/-! ### the pool -/
/-- the law's pool stands at q: its script's list is known to F -/
def Pool (K : PySem.W.Frag) (H F : Hp) (q : Addr) : Prop := ∃ (l : Addr) (ns : List Int) (i b n s : Int),
  H q = some (.lst [.ref l, .int i, .int b, .int n, .int s]) ∧ Rd F l (.lst (ns.map V.int)) ∧ 0 ≤ i

/-- F: what is known to stay. It is part of H, the pool is not in it -/
structure Ok (K : PySem.W.Frag) (p : Option Addr) (H F : Hp) : Prop where
  sub : Same F H
  pool : ∀ q, p = some q → Pool K H F q ∧ F q = none

/-- a step: all that stood stands but the pool; F has grown by new things alone -/
structure Nx (K : PySem.W.Frag) (p : Option Addr) (H F H' F' : Hp) : Prop where
  fr : ∀ a o, H a = some o → p ≠ some a → H' a = some o
  fz : Same F F'
  nw : ∀ a o, F' a = some o → H a = none ∨ F a = some o
  ok : Ok K p H' F'

section
variable {K : PySem.W.Frag} {p : Option Addr} {H F H1 F1 H2 F2 : Hp}
theorem Ok.ne (k : Ok K p H F) {a : Addr} (h : H a = none) : p ≠ some a := fun e => by
  obtain ⟨⟨l, ns, i, b, n, s, h1, _⟩, _⟩ := k.pool a e
  rw [h] at h1
  cases h1
theorem Ok.neF (k : Ok K p H F) {a : Addr} {o : HO} (h : F a = some o) : p ≠ some a := fun e => by
  obtain ⟨_, h1⟩ := k.pool a e
  rw [h] at h1
  cases h1
theorem Ok.ofF (k : Ok K p H F) {a : Addr} (h : H a = none) : F a = none := by
  cases q : F a with
  | none => rfl
  | some o => rw [k.sub a o q] at h; cases h
theorem Nx.refl (k : Ok K p H F) : Nx K p H F H F := ⟨fun _ _ h _ => h, Same.refl _, fun _ _ h => .inr h, k⟩
theorem Nx.back (n : Nx K p H F H1 F1) {a : Addr} (h : H1 a = none) : H a = none := by
  cases q : H a with
  | none => rfl
  | some o =>
    have := n.fr a o q (n.ok.ne h)
    rw [h] at this
    cases this
theorem Nx.trans (n : Nx K p H F H1 F1) (m : Nx K p H1 F1 H2 F2) : Nx K p H F H2 F2 where
  fr := fun a o h e => m.fr a o (n.fr a o h e) e
  fz := n.fz.trans m.fz
  nw := fun a o h => by
    rcases m.nw a o h with q | q
    · exact .inl (n.back q)
    · exact n.nw a o q
  ok := m.ok
theorem Nx.sqL (n : Nx K p H F H1 F1) {a : Addr} {xs : List V} (e : p ≠ some a) (h : SqL K H a xs) : SqL K H1 a xs := by
  rcases h with (h | ⟨o, h⟩) | h
  · exact .inl (.inl (n.fr _ _ h e))
  · exact .inl (.inr ⟨o, n.fr _ _ h e⟩)
  · exact .inr h
/-- a new object is laid, F knows it -/
theorem Nx.new (k : Ok K p H F) {a : Addr} {o : HO} (h : H a = none) : Nx K p H F (upd H a o) (upd F a o) where
  fr := fun b u e _ => by rw [upd_ne (ne_of_none e h)]; exact e
  fz := fun b u e => by rw [upd_ne (ne_of_none e (k.ofF h))]; exact e
  nw := fun b u e => by
    by_cases q : b = a
    · subst q; exact .inl h
    · rw [upd_ne q] at e; exact .inr e
  ok := ⟨fun b u e => by
    by_cases q : b = a
    · subst q; rw [upd_same] at e ⊢; exact e
    · rw [upd_ne q] at e ⊢; exact k.sub b u e, fun q e => by
    obtain ⟨⟨l, ns, i, b, n, s, h1, h2, h3⟩, h4⟩ := k.pool q e
    have hq : q ≠ a := ne_of_none h1 h
    exact ⟨⟨l, ns, i, b, n, s, by rw [upd_ne hq]; exact h1, Rd.mono (fun b u e => by rw [upd_ne (ne_of_none e (k.ofF h))]; exact e) h2, h3⟩, by rw [upd_ne hq]; exact h4⟩⟩
/-- a new object is laid, F does not know it -/
theorem Nx.mut (k : Ok K p H F) {a : Addr} {o : HO} (h : H a = none) : Nx K p H F (upd H a o) F where
  fr := fun b u e _ => by rw [upd_ne (ne_of_none e h)]; exact e
  fz := Same.refl _
  nw := fun b u e => .inr e
  ok := ⟨fun b u e => by rw [upd_ne (ne_of_none e (k.ofF h))]; exact k.sub b u e, fun q e => by
    obtain ⟨⟨l, ns, i, b, n, s, h1, h2, h3⟩, h4⟩ := k.pool q e
    exact ⟨⟨l, ns, i, b, n, s, by rw [upd_ne (ne_of_none h1 h)]; exact h1, h2, h3⟩, h4⟩⟩
/-- what is new is told to F -/
theorem Nx.frz (k : Ok K p H F) (n : Nx K p H F H1 F1) {a : Addr} {o : HO} (h : H a = none) (h1 : H1 a = some o) (hf : F1 a = none ∨ F1 a = some o) : Nx K p H F H1 (upd F1 a o) where
  fr := n.fr
  fz := fun b u e => by rw [upd_ne (ne_of_none e (k.ofF h))]; exact n.fz b u e
  nw := fun b u e => by
    by_cases q : b = a
    · subst q; exact .inl h
    · rw [upd_ne q] at e; exact n.nw b u e
  ok := ⟨fun b u e => by
    by_cases q : b = a
    · subst q; rw [upd_same] at e; cases e; exact h1
    · rw [upd_ne q] at e; exact n.ok.sub b u e, fun q e => by
    obtain ⟨⟨l, ns, i, b, m, s, g1, g2, g3⟩, g4⟩ := n.ok.pool q e
    have hq : q ≠ a := fun z => k.ne h (z ▸ e)
    refine ⟨⟨l, ns, i, b, m, s, g1, Rd.mono (fun b u e => ?_) g2, g3⟩, by rw [upd_ne hq]; exact g4⟩
    by_cases q : b = a
    · subst q
      rcases hf with z | z
      · rw [z] at e; cases e
      · rw [z] at e; cases e; exact upd_same
    · rw [upd_ne q]; exact e⟩
theorem same_upd {a : Addr} {o : HO} (h : F a = none ∨ F a = some o) : Same F (upd F a o) := fun b u e => by
  by_cases q : b = a
  · subst q
    rcases h with z | z
    · rw [z] at e; cases e
    · rw [z] at e; cases e; exact upd_same
  · rw [upd_ne q]; exact e
end
end Y

namespace Y
open PySem L2

/-- a thing that may change: a list, an instance, a dict -/
inductive Mo where
  | lst (ds : List D) | obj (C : Addr) (ns : List Str) (ds : List D) | dct (ks : List Key) (ds : List D) | dtt (ks : List (List Key)) (ds : List D)
/-- .. as a datum, from when on it changes no more -/
def Mo.dat : Mo → D
  | .lst ds => .lst ds | .obj C ns ds => .obj C ns ds | .dct ks ds => .dct ks ds | .dtt ks ds => .dtt ks ds
def MoOk (K : PySem.W.Frag) (F : Hp) : HO → Mo → Prop
  | .lst xs, .lst ds => Tps K F xs ds
  | .ins C' dx fs, .obj C ns ds => C' = C ∧ fs.map (·.1) = ns ∧ Tps K F (fs.map (·.2)) ds
  | .dK kvs, .dct ks ds => kvs.map (·.1) = ks ∧ Tps K F (kvs.map (·.2)) ds
  | .dT kvs, .dtt ks ds => kvs.map (·.1) = ks ∧ Tps K F (kvs.map (·.2)) ds
  | _, _ => False
theorem MoOk.mono {K : PySem.W.Frag} {F F' : Hp} (e : Same F F') {o : HO} {m : Mo} (h : MoOk K F o m) : MoOk K F' o m := by
  cases m <;> cases o <;> first | exact h.elim | exact Tps.mono e h | exact ⟨h.1, h.2.1, h.2.2.mono e⟩ | exact ⟨h.1, h.2.mono e⟩
theorem MoOk.tp {K : PySem.W.Frag} {F : Hp} {a : Addr} {o : HO} {m : Mo} (e : F a = some o) (h : MoOk K F o m) : Tp K F (.ref a) m.dat := by
  cases m <;> cases o <;> first | exact h.elim | exact .lst (.inl e) h | (obtain ⟨rfl, h2, h3⟩ := h; exact .obj e h2 h3) | exact .dct e h.1 h.2 | exact .dtt e h.1 h.2
theorem MoOk.lst {K : PySem.W.Frag} {F : Hp} {o : HO} {ds : List D} (h : MoOk K F o (.lst ds)) : ∃ xs, o = .lst xs ∧ Tps K F xs ds := by
  cases o <;> first | exact h.elim | exact ⟨_, rfl, h⟩
/-- what an expression comes to: a datum; a list handed in; a thing of one of the frame's slots; a new thing; a value as it stands -/
inductive Rv where
  | d (x : D) | l (ds : List D) | o (m : Mo) | n (m : Mo) | raw (v : V)
/-- what a slot holds: anything; a datum; a list handed in; a thing of its own; a value as it stands -/
inductive Sv where
  | any | d (x : D) | ro (ds : List D) | m (at_ : Option Addr) (m : Mo) | raw (v : V)
abbrev Rv.ol (ds : List D) : Rv := .o (.lst ds)
abbrev Rv.nl (ds : List D) : Rv := .n (.lst ds)
abbrev Sv.own (ds : List D) : Sv := .m none (.lst ds)

/-- H0: the heap at the def's entry; H, F: the world ahead of the expression; H2, F2: behind it -/
def RvOk (K : PySem.W.Frag) (p : Option Addr) (H0 H H2 F2 : Hp) (v : V) : Rv → Prop
  | .d x => Tp K F2 v x
  | .l ds => ∃ a xs, v = .ref a ∧ SqL K H0 a xs ∧ p ≠ some a ∧ Tps K F2 xs ds
  | .o m => ∃ a u, v = .ref a ∧ H2 a = some u ∧ p ≠ some a ∧ MoOk K F2 u m
  | .n m => ∃ a u, v = .ref a ∧ H a = none ∧ H2 a = some u ∧ F2 a = none ∧ MoOk K F2 u m
  | .raw u => v = u
def SvOk (K : PySem.W.Frag) (p : Option Addr) (H0 H F : Hp) (o : Option V) : Sv → Prop
  | .any => True
  | .d x => ∃ v, o = some v ∧ Tp K F v x
  | .ro ds => ∃ a xs, o = some (.ref a) ∧ SqL K H0 a xs ∧ p ≠ some a ∧ Tps K F xs ds
  | .m q m => ∃ a u, (∀ b, q = some b → a = b) ∧ o = some (.ref a) ∧ H a = some u ∧ H0 a = none ∧ F a = none ∧ MoOk K F u m
  | .raw u => o = some u

/-- the frame's state: sv tells of its slots -/
structure Rel (K : PySem.W.Frag) (p : Option Addr) (H0 F0 : Hp) (σ : L2.St) (H F : Hp) (sv : List Sv) : Prop where
  ok0 : Ok K p H0 F0
  nx : Nx K p H0 F0 H F
  len : sv.length = σ.length
  sl : ∀ (i : Nat) (s : Sv), sv[i]? = some s → ∃ o, σ[i]? = some o ∧ SvOk K p H0 H F o s
  sep : ∀ (i j : Nat) (a : Addr) (q r : Option Addr) (ds es : Mo), i ≠ j → sv[i]? = some (.m q ds) → sv[j]? = some (.m r es) → σ[i]? = some (some (.ref a)) → σ[j]? ≠ some (some (.ref a))

/-- an exception: its class, its own dict's fields -/
structure Xd where
  cls : Value
  ns : List Str
  ds : List D
def XOk (K : PySem.W.Frag) (H F : Hp) (cls : Value) (d : Option Addr) (e : Xd) : Prop :=
  cls = e.cls ∧ ((d = none ∧ e.ns = []) ∨ ∃ dx fs, d = some dx ∧ H dx = some (.xd fs) ∧ fs.map (·.1) = e.ns ∧ Tps K F (fs.map (·.2)) e.ds)
/-- what a body stands in: the written part, the pool's place, the wish of exceptions and its data form -/
structure G where
  K : PySem.W.Frag
  p : Option Addr
  W : Value → Option Addr → L2.St → Hp → Prop
  X : Xd → List Sv → Prop
def Exc (Γ : G) (H0 F0 : Hp) : Prop := ∀ (e : Xd) (cls : Value) (d : Option Addr) (σ : L2.St) (H F : Hp) (sv : List Sv), Γ.X e sv → Rel Γ.K Γ.p H0 F0 σ H F sv → XOk Γ.K H F cls d e → Γ.W cls d σ H

def WE (Γ : G) (te : TE) (sv : List Sv) (Φ : Rv → Prop) : Prop := ∀ (H0 F0 : Hp) (σ : L2.St) (H F : Hp), Rel Γ.K Γ.p H0 F0 σ H F sv → Exc Γ H0 F0 →
  ∀ Q : VK, (∀ v r H2 F2, Φ r → Nx Γ.K Γ.p H F H2 F2 → RvOk Γ.K Γ.p H0 H H2 F2 v r → Q v H2) → te σ H Q
def WA (Γ : G) (ta : TA) (sv : List Sv) (Φ : List Rv → Prop) : Prop := ∀ (H0 F0 : Hp) (σ : L2.St) (H F : Hp), Rel Γ.K Γ.p H0 F0 σ H F sv → Exc Γ H0 F0 →
  ∀ Q : List V → Hp → Prop, (∀ vs rs H2 F2, Φ rs → Nx Γ.K Γ.p H F H2 F2 → Paired (RvOk Γ.K Γ.p H0 H H2 F2) vs rs → Q vs H2) → ta σ H Q
def WT (Γ : G) (tt : TT) (sv : List Sv) (Φ : Bool → Prop) : Prop := ∀ (H0 F0 : Hp) (σ : L2.St) (H F : Hp), Rel Γ.K Γ.p H0 F0 σ H F sv → Exc Γ H0 F0 →
  ∀ Q : Bool → Hp → Prop, (∀ b H2 F2, Φ b → Nx Γ.K Γ.p H F H2 F2 → Q b H2) → tt σ H Q
/-- what may be handed back -/
def isRet : Rv → Bool
  | .d _ => true | .n _ => true | .raw _ => true | _ => false
structure En where
  nx : List Sv → Prop
  rt : Rv → List Sv → Prop
  bk : List Sv → Prop := fun _ => False
  ct : List Sv → Prop := fun _ => False
/-- D serves E, from the world F on -/
structure Serves (Γ : G) (H0 F0 F : Hp) (E : En) (D : Ends) : Prop where
  nx : ∀ σ' H' F' sv', E.nx sv' → Same F F' → Rel Γ.K Γ.p H0 F0 σ' H' F' sv' → D.nx σ' H'
  rt : ∀ v r σ' H' F' sv', E.rt r sv' → isRet r = true → Rel Γ.K Γ.p H0 F0 σ' H' F' sv' → RvOk Γ.K Γ.p H0 H0 H' F' v r → D.rt v H'
  bk : ∀ σ' H' F' sv', E.bk sv' → Same F F' → Rel Γ.K Γ.p H0 F0 σ' H' F' sv' → D.bk σ' H'
  ct : ∀ σ' H' F' sv', E.ct sv' → Same F F' → Rel Γ.K Γ.p H0 F0 σ' H' F' sv' → D.ct σ' H'
def WS (Γ : G) (t : TS) (sv : List Sv) (E : En) : Prop := ∀ (H0 F0 : Hp) (σ : L2.St) (H F : Hp), Rel Γ.K Γ.p H0 F0 σ H F sv → Exc Γ H0 F0 → ∀ D : Ends, Serves Γ H0 F0 F E D → t D σ H

section
variable {K : PySem.W.Frag} {p : Option Addr} {H0 F0 H F H1 F1 H2 F2 : Hp} {σ : L2.St} {sv : List Sv}
theorem Nx.none (m : Nx K p H F H1 F1) {a : Addr} {o : HO} (g : H a = some o) (f : F a = Option.none) : F1 a = Option.none := by
  cases q : F1 a with
  | none => rfl
  | some o =>
    rcases m.nw a o q with z | z
    · rw [g] at z; cases z
    · rw [f] at z; cases z
theorem RvOk.nx (k : Ok K p H F) (n : Nx K p H F H1 F1) (m : Nx K p H1 F1 H2 F2) {v : V} : ∀ {r : Rv}, RvOk K p H0 H H1 F1 v r → RvOk K p H0 H H2 F2 v r
  | .d x, h => Tp.mono m.fz h
  | .l ds, ⟨a, xs, e, h, q, t⟩ => ⟨a, xs, e, h, q, t.mono m.fz⟩
  | .o ds, ⟨a, xs, e, h, q, t⟩ => ⟨a, xs, e, m.fr _ _ h q, q, t.mono m.fz⟩
  | .n ds, ⟨a, xs, e, h, g, f, t⟩ => ⟨a, xs, e, h, m.fr _ _ g (k.ne h),
      m.none g f, t.mono m.fz⟩
  | .raw u, h => h
/-- the start moved back -/
theorem RvOk.back (n : Nx K p H F H1 F1) {v : V} : ∀ {r : Rv}, RvOk K p H0 H1 H2 F2 v r → RvOk K p H0 H H2 F2 v r
  | .d x, h => h
  | .l ds, h => h
  | .o ds, h => h
  | .n ds, ⟨a, xs, e, h, g⟩ => ⟨a, xs, e, n.back h, g⟩
  | .raw u, h => h
theorem SvOk.nx (n : Nx K p H F H1 F1) (k : Ok K p H0 F0) {o : Option V} : ∀ {s : Sv}, SvOk K p H0 H F o s → SvOk K p H0 H1 F1 o s
  | .any, _ => trivial
  | .d x, ⟨v, e, t⟩ => ⟨v, e, t.mono n.fz⟩
  | .ro ds, ⟨a, xs, e, h, q, t⟩ => ⟨a, xs, e, h, q, t.mono n.fz⟩
  | .m q ds, ⟨a, xs, hq, e, h, h0, f, t⟩ => ⟨a, xs, hq, e, n.fr _ _ h (k.ne h0), h0,
      n.none h f, t.mono n.fz⟩
  | .raw u, h => h
theorem Rel.ok (R : Rel K p H0 F0 σ H F sv) : Ok K p H F := R.nx.ok
theorem Rel.step (R : Rel K p H0 F0 σ H F sv) (n : Nx K p H F H1 F1) : Rel K p H0 F0 σ H1 F1 sv :=
  ⟨R.ok0, R.nx.trans n, R.len, fun i s e => by
    obtain ⟨o, h1, h2⟩ := R.sl i s e
    exact ⟨o, h1, h2.nx n R.ok0⟩, R.sep⟩
theorem Rel.get (R : Rel K p H0 F0 σ H F sv) {i : Nat} {s : Sv} (e : sv[i]? = some s) : ∃ o, σ[i]? = some o ∧ SvOk K p H0 H F o s := R.sl i s e
/-- a slot is stored: what it holds is no list of another slot's -/
theorem Rel.put (R : Rel K p H0 F0 σ H F sv) (i : Nat) {v : V} {s : Sv} (h : SvOk K p H0 H F (some v) s)
    (hs : ∀ q ds, s = .m q ds → ∀ (j : Nat) r es, j ≠ i → sv[j]? = some (.m r es) → σ[j]? ≠ some (some v)) : Rel K p H0 F0 (σ.set i (some v)) H F (sv.set i s) where
  ok0 := R.ok0
  nx := R.nx
  len := by rw [List.length_set, List.length_set]; exact R.len
  sl := fun j t e => by
    by_cases q : i = j
    · subst q
      by_cases z : i < sv.length
      · rw [List.getElem?_set_self z] at e
        cases e
        exact ⟨_, List.getElem?_set_self (by rw [← R.len]; exact z), h⟩
      · have : (sv.set i s)[i]? = none := List.getElem?_eq_none (by rw [List.length_set]; omega)
        rw [this] at e; cases e
    · rw [List.getElem?_set_ne q] at e ⊢
      exact R.sl j t e
  sep := fun j k a q r ds es ne e1 e2 s1 s2 => by
    by_cases qj : i = j
    · subst qj
      have hi : i < sv.length := by
        have := (List.getElem?_eq_some_iff.mp e1).1
        rw [List.length_set] at this; exact this
      rw [List.getElem?_set_self hi] at e1
      rw [List.getElem?_set_ne ne] at e2 s2
      rw [List.getElem?_set_self (by rw [← R.len]; exact hi)] at s1
      have e : v = .ref a := Option.some.inj (Option.some.inj s1)
      subst e
      exact hs q ds (Option.some.inj e1) k r es (Ne.symm ne) e2 s2
    · rw [List.getElem?_set_ne qj] at e1 s1
      by_cases qk : i = k
      · subst qk
        have hi : i < sv.length := by
          have := (List.getElem?_eq_some_iff.mp e2).1
          rw [List.length_set] at this; exact this
        rw [List.getElem?_set_self hi] at e2
        rw [List.getElem?_set_self (by rw [← R.len]; exact hi)] at s2
        have e : v = .ref a := Option.some.inj (Option.some.inj s2)
        subst e
        exact hs r es (Option.some.inj e2) j q ds ne e1 s1
      · rw [List.getElem?_set_ne qk] at e2 s2
        exact R.sep j k a q r ds es ne e1 e2 s1 s2
/-- a slot's value is forgotten or told weaker -/
theorem Rel.weak (R : Rel K p H0 F0 σ H F sv) (i : Nat) {s : Sv} (hs : ∀ q ds, s ≠ .m q ds) (h : ∀ o, σ[i]? = some o → SvOk K p H0 H F o s) : Rel K p H0 F0 σ H F (sv.set i s) where
  ok0 := R.ok0
  nx := R.nx
  len := by rw [List.length_set]; exact R.len
  sl := fun j t e => by
    by_cases q : i = j
    · subst q
      have hi : i < sv.length := by
        have := (List.getElem?_eq_some_iff.mp e).1
        rw [List.length_set] at this; exact this
      rw [List.getElem?_set_self hi] at e
      cases e
      have hj : i < σ.length := by rw [← R.len]; exact hi
      exact ⟨_, List.getElem?_eq_getElem hj, h _ (List.getElem?_eq_getElem hj)⟩
    · rw [List.getElem?_set_ne q] at e
      exact R.sl j t e
  sep := fun j k a q r ds es ne e1 e2 s1 s2 => by
    have nj : i ≠ j := by
      rintro rfl
      have hi : i < sv.length := by
        have := (List.getElem?_eq_some_iff.mp e1).1
        rw [List.length_set] at this; exact this
      rw [List.getElem?_set_self hi] at e1
      exact hs q ds (Option.some.inj e1)
    have nk : i ≠ k := by
      rintro rfl
      have hi : i < sv.length := by
        have := (List.getElem?_eq_some_iff.mp e2).1
        rw [List.length_set] at this; exact this
      rw [List.getElem?_set_self hi] at e2
      exact hs r es (Option.some.inj e2)
    rw [List.getElem?_set_ne nj] at e1
    rw [List.getElem?_set_ne nk] at e2
    exact R.sep j k a q r ds es ne e1 e2 s1 s2
/-- an own thing is written -/
theorem Rel.wr (R : Rel K p H0 F0 σ H F sv) {i : Nat} {a : Addr} {u u' : HO} {m m' : Mo} {q0 : Option Addr} (e : sv[i]? = some (.m q0 m)) (hσ : σ[i]? = some (some (.ref a))) (ha : H a = some u) (h0 : H0 a = none) (hf : F a = none)
    (t : MoOk K F u' m') : Rel K p H0 F0 σ (upd H a u') F (sv.set i (.m q0 m')) where
  ok0 := R.ok0
  nx := ⟨fun b o z q => by rw [upd_ne (ne_of_none z h0)]; exact R.nx.fr b o z q, R.nx.fz, R.nx.nw, ⟨fun b o z => by rw [upd_ne (ne_of_none z hf)]; exact R.nx.ok.sub b o z, fun q z => by
    obtain ⟨⟨l, ns, i, b, n, s, h1, h2⟩, h3⟩ := R.nx.ok.pool q z
    refine ⟨⟨l, ns, i, b, n, s, ?_, h2⟩, h3⟩
    rw [upd_ne]
    · exact h1
    · rintro rfl
      exact R.ok0.ne h0 z⟩⟩
  len := by rw [List.length_set]; exact R.len
  sl := fun j s q => by
    by_cases z : i = j
    · subst z
      have hi : i < sv.length := (List.getElem?_eq_some_iff.mp e).1
      rw [List.getElem?_set_self hi] at q
      cases q
      refine ⟨_, hσ, a, u', ?_, rfl, upd_same, h0, hf, t⟩
      obtain ⟨o2, g1, a2, _, hq2, e2, _⟩ := R.sl i _ e
      rw [hσ] at g1
      cases g1
      cases e2
      exact hq2
    · rw [List.getElem?_set_ne z] at q
      obtain ⟨o, g1, g2⟩ := R.sl j s q
      refine ⟨o, g1, ?_⟩
      cases s with
      | any => trivial
      | d x => exact g2
      | ro ds => exact g2
      | raw u => exact g2
      | m q' es' =>
        obtain ⟨b, zs, hq', e1, e2, e3⟩ := g2
        subst e1
        refine ⟨b, zs, hq', rfl, ?_, e3⟩
        rw [upd_ne]
        · exact e2
        · rintro rfl
          exact R.sep i j b _ _ m es' z e q hσ g1
  sep := fun j k b qj qk ds' es' ne e1 e2 s1 s2 => by
    have f : ∀ (j : Nat) (qj : Option Addr) (ds' : Mo), (sv.set i (Sv.m q0 m'))[j]? = some (.m qj ds') → ∃ q'' ds'', sv[j]? = some (.m q'' ds'') := fun j qj ds' q => by
      by_cases z : i = j
      · subst z; exact ⟨q0, m, e⟩
      · rw [List.getElem?_set_ne z] at q; exact ⟨qj, ds', q⟩
    obtain ⟨_, _, e1⟩ := f j _ _ e1
    obtain ⟨_, _, e2⟩ := f k _ _ e2
    exact R.sep j k b _ _ _ _ ne e1 e2 s1 s2
theorem Serves.mono {Γ : G} {E : En} {D : Ends} (S : Serves Γ H0 F0 F E D) (e : Same F F1) : Serves Γ H0 F0 F1 E D :=
  ⟨fun σ' H' F' sv' h s R => S.nx σ' H' F' sv' h (e.trans s) R, S.rt, fun σ' H' F' sv' h s R => S.bk σ' H' F' sv' h (e.trans s) R, fun σ' H' F' sv' h s R => S.ct σ' H' F' sv' h (e.trans s) R⟩

/-! ### lists among values -/
/-- as a datum: a new thing is told to F -/
def asD : Rv → Option D
  | .d x => some x
  | .n m => some m.dat
  | _ => none
def asL : Rv → Option (List D)
  | .d (.lst ds) => some ds
  | .l ds => some ds
  | .o (.lst ds) => some ds
  | .n (.lst ds) => some ds
  | _ => none
def asDs : List Rv → Option (List D)
  | [] => some []
  | r :: rs => match asD r, asDs rs with
    | some x, some xs => some (x :: xs)
    | _, _ => none
theorem RvOk.asD (k : Ok K p H F) (n : Nx K p H F H1 F1) {v : V} {x : D} {r : Rv} (h : RvOk K p H0 H H1 F1 v r) (e : asD r = some x) : ∃ F2, Nx K p H F H1 F2 ∧ Same F1 F2 ∧ Tp K F2 v x := by
  cases r with
  | d y => cases e; exact ⟨F1, n, Same.refl _, h⟩
  | n m =>
    obtain ⟨a, u, e1, h, g, f, t⟩ := h
    cases e
    subst e1
    exact ⟨upd F1 a u, n.frz k h g (.inl f), same_upd (.inl f), MoOk.tp upd_same (t.mono (same_upd (.inl f)))⟩
  | l ds => cases e
  | o m => cases e
  | raw u => cases e
theorem Paired.asDs (k : Ok K p H F) : ∀ {vs : List V} {rs : List Rv} {ds : List D} {F1 : Hp}, Nx K p H F H1 F1 → (∀ F2, Same F1 F2 → Paired (fun v r => RvOk K p H0 H H1 F2 v r ∨ ∃ a u m, r = .n m ∧ v = .ref a ∧ H a = none ∧ H1 a = some u ∧ (F2 a = none ∨ F2 a = some u) ∧ MoOk K F2 u m) vs rs ∨ ∃ a o, F2 a = some o ∧ F1 a = none ∧ H1 a ≠ some o) → asDs rs = some ds → ∃ F2, Nx K p H F H1 F2 ∧ Same F1 F2 ∧ Tps K F2 vs ds := by
  intro vs rs ds F1 n h e
  induction rs generalizing vs ds F1 with
  | nil =>
    cases e
    rcases h F1 (Same.refl _) with h | ⟨a, o, h1, h2, _⟩
    · cases h; exact ⟨F1, n, Same.refl _, .nil⟩
    · rw [h1] at h2; cases h2
  | cons r rs ih =>
    have key : ∃ x xs, Y.asD r = some x ∧ Y.asDs rs = some xs ∧ ds = x :: xs := by
      unfold Y.asDs at e
      split at e
      · rename_i x xs e1 e2; cases e; exact ⟨_, _, e1, e2, rfl⟩
      · cases e
    obtain ⟨x, xs, e1, e2, rfl⟩ := key
    rcases h F1 (Same.refl _) with hp | ⟨a, o, h1, h2, _⟩
    · cases hp with
      | cons a t =>
        rename_i v vs'
        have one : ∃ F2, Nx K p H F H1 F2 ∧ Same F1 F2 ∧ Tp K F2 v x := by
          rcases a with a | ⟨a, u, m, er, ev, ha, h1a, hf, tt⟩
          · exact a.asD k n e1
          · subst er ev
            cases e1
            exact ⟨upd F1 a u, n.frz k ha h1a hf, same_upd hf, MoOk.tp upd_same (tt.mono (same_upd hf))⟩
        obtain ⟨F2, n2, s2, t2⟩ := one
        obtain ⟨F3, n3, s3, t3⟩ := ih (vs := vs') (ds := xs) n2 (fun F3 s3 => by
          rcases h F3 (s2.trans s3) with z | ⟨b, o, z1, z2, z3⟩
          · cases z with
            | cons _ z => exact .inl z
          · cases q : F2 b with
            | none => exact .inr ⟨b, o, z1, q, z3⟩
            | some o' =>
              have := s3 b o' q
              rw [z1] at this
              cases this
              exact absurd (n2.ok.sub b o q) z3) e2
        exact ⟨F3, n3, s2.trans s3, .cons (t2.mono s3) t3⟩
    · rw [h1] at h2; cases h2
theorem asDs_ok (k : Ok K p H F) {vs : List V} {rs : List Rv} {ds : List D} (n : Nx K p H F H1 F1) (h : Paired (RvOk K p H0 H H1 F1) vs rs) (e : asDs rs = some ds) : ∃ F2, Nx K p H F H1 F2 ∧ Same F1 F2 ∧ Tps K F2 vs ds := by
  refine Paired.asDs (H0 := H0) k n (fun F2 s => ?_) e
  by_cases q : ∃ a o, F2 a = some o ∧ F1 a = none ∧ H1 a ≠ some o
  · exact .inr q
  · refine .inl (Paired.mapP h fun v r z => ?_)
    cases r with
    | d x => exact .inl (Tp.mono s z)
    | l ds => obtain ⟨a, xs, e1, h1, q, t⟩ := z; exact .inl ⟨a, xs, e1, h1, q, t.mono s⟩
    | o m => obtain ⟨a, xs, e1, h1, q, t⟩ := z; exact .inl ⟨a, xs, e1, h1, q, t.mono s⟩
    | raw u => exact .inl z
    | n m =>
      obtain ⟨a, u, e1, h1, g, f, t⟩ := z
      refine .inr ⟨a, u, m, rfl, e1, h1, g, ?_, t.mono s⟩
      cases c : F2 a with
      | none => exact .inl rfl
      | some o =>
        refine .inr ?_
        by_cases w : some o = H1 a
        · rw [w, g]
        · exact absurd ⟨a, o, c, f, fun z => w z.symm⟩ q
/-- a readable list -/
theorem RvOk.asL (k0 : Ok K p H0 F0) (m : Nx K p H0 F0 H1 F1) (n : Nx K p H F H1 F1) {v : V} {ds : List D} {r : Rv} (h : RvOk K p H0 H H1 F1 v r) (e : asL r = some ds) : ∃ a xs, v = .ref a ∧ SqL K H1 a xs ∧ Tps K F1 xs ds := by
  cases r with
  | d x =>
    cases x with
    | lst es =>
      cases e
      cases h with
      | lst h t => exact ⟨_, _, rfl, .inl (Rd.mono n.ok.sub h), t⟩
    | _ => cases e
  | l es => obtain ⟨a, xs, e1, h, q, t⟩ := h; cases e; exact ⟨a, xs, e1, m.sqL q h, t⟩
  | o mo =>
    cases mo with
    | lst es => obtain ⟨a, u, e1, h, q, t⟩ := h; cases e; obtain ⟨xs, rfl, t⟩ := t.lst; exact ⟨a, xs, e1, SqL.of h, t⟩
    | _ => cases e
  | n mo =>
    cases mo with
    | lst es => obtain ⟨a, u, e1, h, g, f, t⟩ := h; cases e; obtain ⟨xs, rfl, t⟩ := t.lst; exact ⟨a, xs, e1, SqL.of g, t⟩
    | _ => cases e
  | raw u => cases e
end
end Y

namespace Y
open PySem L2

/-- the worlds at an operation: at the def's entry, ahead of the expression, here -/
structure At (Γ : G) (H0 F0 H F H1 F1 : Hp) : Prop where
  ok0 : Ok Γ.K Γ.p H0 F0
  n0 : Nx Γ.K Γ.p H0 F0 H F
  n : Nx Γ.K Γ.p H F H1 F1
def Fin' (Γ : G) (H0 H F H1 F1 : Hp) (Φ : Rv → Prop) (Q : VK) : Prop := ∀ v r H2 F2, Φ r → Nx Γ.K Γ.p H F H2 F2 → RvOk Γ.K Γ.p H0 H H2 F2 v r → Q v H2
def RO (Γ : G) (r : R2) (x y : Rv) (Φ : Rv → Prop) : Prop := ∀ (H0 F0 H F H1 F1 : Hp) (u v : V), At Γ H0 F0 H F H1 F1 → RvOk Γ.K Γ.p H0 H H1 F1 u x → RvOk Γ.K Γ.p H0 H H1 F1 v y → ∀ Q : VK, Fin' Γ H0 H F H1 F1 Φ Q → r u v H1 Q
def RU (Γ : G) (r : V → Hp → VK → Prop) (x : Rv) (Φ : Rv → Prop) : Prop := ∀ (H0 F0 H F H1 F1 : Hp) (u : V), At Γ H0 F0 H F H1 F1 → RvOk Γ.K Γ.p H0 H H1 F1 u x → ∀ Q : VK, Fin' Γ H0 H F H1 F1 Φ Q → r u H1 Q
def RC (Γ : G) (r : List V → Hp → VK → Prop) (xs : List Rv) (Φ : Rv → Prop) : Prop := ∀ (H0 F0 H F H1 F1 : Hp) (us : List V), At Γ H0 F0 H F H1 F1 → Paired (RvOk Γ.K Γ.p H0 H H1 F1) us xs → ∀ Q : VK, Fin' Γ H0 H F H1 F1 Φ Q → r us H1 Q
def RM (Γ : G) (r : V → List V → Hp → VK → Prop) (x : Rv) (xs : List Rv) (Φ : Rv → Prop) : Prop := ∀ (H0 F0 H F H1 F1 : Hp) (u : V) (us : List V), At Γ H0 F0 H F H1 F1 → RvOk Γ.K Γ.p H0 H H1 F1 u x → Paired (RvOk Γ.K Γ.p H0 H H1 F1) us xs → ∀ Q : VK, Fin' Γ H0 H F H1 F1 Φ Q → r u us H1 Q

section
variable {Γ : G} {H0 F0 H F H1 F1 H2 F2 : Hp} {σ : L2.St} {sv : List Sv} {ta tb tc te : TE} {Φ Ψ : Rv → Prop} {x y : Rv} {r : R2}
theorem At.ok (A : At Γ H0 F0 H F H1 F1) : Ok Γ.K Γ.p H F := A.n0.ok
theorem At.ok1 (A : At Γ H0 F0 H F H1 F1) : Ok Γ.K Γ.p H1 F1 := A.n.ok
theorem At.asL (A : At Γ H0 F0 H F H1 F1) {v : V} {r : Rv} {ds : List D} (h : RvOk Γ.K Γ.p H0 H H1 F1 v r) (e : asL r = some ds) : ∃ a xs, v = .ref a ∧ SqL Γ.K H1 a xs ∧ Tps Γ.K F1 xs ds := h.asL A.ok0 (A.n0.trans A.n) A.n e
theorem At.tup (A : At Γ H0 F0 H F H1 F1) {v : V} {ds : List D} (h : RvOk Γ.K Γ.p H0 H H1 F1 v (.d (.tup ds))) : ∃ a xs, v = .ref a ∧ SqT Γ.K H1 a xs ∧ Tps Γ.K F1 xs ds := by
  cases h with
  | tup h t => exact ⟨_, _, rfl, sqT_mono A.n.ok.sub h, t⟩
theorem Fin'.val (A : At Γ H0 F0 H F H1 F1) {Q : VK} (f : Fin' Γ H0 H F H1 F1 Φ Q) {v : V} {r : Rv} (h : RvOk Γ.K Γ.p H0 H H1 F1 v r) (q : Φ r) : Q v H1 := f v r H1 F1 q A.n h
theorem Fin'.newT (A : At Γ H0 F0 H F H1 F1) {Q : VK} (f : Fin' Γ H0 H F H1 F1 Φ Q) {F2 : Hp} (n : Nx Γ.K Γ.p H F H1 F2) {xs : List V} {ds : List D} (t : Tps Γ.K F2 xs ds) (q : Φ (.d (.tup ds))) : ∀ a, H1 a = none → Q (.ref a) (upd H1 a (.tup xs)) := fun a ha => by
  have m := Nx.new (o := .tup xs) n.ok ha
  exact f _ _ _ _ q (n.trans m) (Tp.tup (SqT.of upd_same) (t.mono m.fz))
theorem Fin'.newL (A : At Γ H0 F0 H F H1 F1) {Q : VK} (f : Fin' Γ H0 H F H1 F1 Φ Q) {F2 : Hp} (n : Nx Γ.K Γ.p H F H1 F2) {xs : List V} {ds : List D} (t : Tps Γ.K F2 xs ds) (q : Φ (.nl ds)) : ∀ a, H1 a = none → Q (.ref a) (upd H1 a (.lst xs)) := fun a ha => by
  have m := Nx.mut (o := .lst xs) n.ok ha
  exact f _ _ _ _ q (n.trans m) ⟨a, .lst xs, rfl, n.back ha, upd_same, n.ok.ofF ha, t⟩

theorem WE.mono (h : WE Γ te sv Φ) (k : ∀ r, Φ r → Ψ r) : WE Γ te sv Ψ := fun H0 F0 σ H F R X Q f => h H0 F0 σ H F R X Q fun v r H2 F2 q n o => f v r H2 F2 (k r q) n o
theorem WT.mono {tt : TT} {Φ Ψ : Bool → Prop} (h : WT Γ tt sv Φ) (k : ∀ r, Φ r → Ψ r) : WT Γ tt sv Ψ := fun H0 F0 σ H F R X Q f => h H0 F0 σ H F R X Q fun v H2 F2 q n => f v H2 F2 (k v q) n
/-- a new list becomes a datum -/
theorem we_frz (h : WE Γ te sv fun r => ∃ x, asD r = some x ∧ Φ (.d x)) : WE Γ te sv Φ := fun H0 F0 σ H F R X Q f => h H0 F0 σ H F R X Q fun v r H2 F2 ⟨x, e, q⟩ n o => by
  obtain ⟨F3, n3, s3, t3⟩ := o.asD R.ok n e
  exact f v _ H2 F3 q n3 t3

/-! ### names, constants -/
theorem we_d {i : Nat} {x : D} (e : sv[i]? = some (.d x)) (q : Φ (.d x)) : WE Γ (tVar i) sv Φ := fun H0 F0 σ H F R X Q f => by
  obtain ⟨o, h1, v, rfl, t⟩ := R.get e
  exact ⟨v, h1, f v _ H F q (Nx.refl R.ok) t⟩
theorem we_ro {i : Nat} {ds : List D} (e : sv[i]? = some (.ro ds)) (q : Φ (.l ds)) : WE Γ (tVar i) sv Φ := fun H0 F0 σ H F R X Q f => by
  obtain ⟨o, h1, a, xs, rfl, t⟩ := R.get e
  exact ⟨.ref a, h1, f _ _ H F q (Nx.refl R.ok) ⟨a, xs, rfl, t⟩⟩
theorem we_m {i : Nat} {at_ : Option Addr} {m : Mo} (e : sv[i]? = some (.m at_ m)) (q : Φ (.o m)) : WE Γ (tVar i) sv Φ := fun H0 F0 σ H F R X Q f => by
  obtain ⟨o, h1, a, xs, _, rfl, g, g0, gf, t⟩ := R.get e
  exact ⟨.ref a, h1, f _ _ H F q (Nx.refl R.ok) ⟨a, xs, rfl, g, R.ok0.ne g0, t⟩⟩
theorem we_raw {i : Nat} {u : V} (e : sv[i]? = some (.raw u)) (q : Φ (.raw u)) : WE Γ (tVar i) sv Φ := fun H0 F0 σ H F R X Q f => by
  obtain ⟨o, h1, rfl⟩ := R.get e
  exact ⟨u, h1, f _ _ H F q (Nx.refl R.ok) rfl⟩
theorem we_cint {i : Int} (q : Φ (.d (.int i))) : WE Γ (tC (.int i)) sv Φ := fun H0 F0 σ H F R X Q f => f _ _ H F q (Nx.refl R.ok) (.int i)
theorem we_cstr {s : Str} (q : Φ (.d (.str s))) : WE Γ (tC (.str s)) sv Φ := fun H0 F0 σ H F R X Q f => f _ _ H F q (Nx.refl R.ok) (.str s)
theorem we_cbl {b : Bool} (q : Φ (.d (.bl b))) : WE Γ (tC (.bl b)) sv Φ := fun H0 F0 σ H F R X Q f => f _ _ H F q (Nx.refl R.ok) (.bl b)
theorem we_cnon (q : Φ (.d .non)) : WE Γ (tC .non) sv Φ := fun H0 F0 σ H F R X Q f => f _ _ H F q (Nx.refl R.ok) .non
theorem we_craw {u : V} (q : Φ (.raw u)) : WE Γ (tC u) sv Φ := fun H0 F0 σ H F R X Q f => f _ _ H F q (Nx.refl R.ok) rfl

/-! ### arguments, displays -/
theorem wa_nil {Φ : List Rv → Prop} (q : Φ []) : WA Γ tNil sv Φ := fun H0 F0 σ H F R X Q f => f _ _ H F q (Nx.refl R.ok) .nil
theorem wa_cons {tr : TA} {Φ : List Rv → Prop} (h : WE Γ ta sv fun r => WA Γ tr sv fun rs => Φ (r :: rs)) : WA Γ (tCons ta tr) sv Φ := fun H0 F0 σ H F R X Q f => h H0 F0 σ H F R X _ fun v r H1 F1 q n o =>
  q H0 F0 σ H1 F1 (R.step n) X _ fun vs rs H2 F2 q2 n2 os => f _ _ H2 F2 q2 (n.trans n2) (.cons (o.nx R.ok n n2) (Paired.mapP os fun _ _ z => z.back n))
theorem we_tup {t : TA} (h : WA Γ t sv fun rs => ∃ ds, asDs rs = some ds ∧ ds.length ≤ sizeLine ∧ Φ (.d (.tup ds))) : WE Γ (tTup t) sv Φ := fun H0 F0 σ H F R X Q f => h H0 F0 σ H F R X _ fun vs rs H1 F1 ⟨ds, e, l, q⟩ n os => by
  obtain ⟨F2, n2, s2, t2⟩ := asDs_ok R.ok n os e
  exact ⟨by rw [t2.length]; exact l, Fin'.newT (Φ := Φ) ⟨R.ok0, R.nx, n⟩ f n2 t2 q⟩
theorem we_lst {t : TA} (h : WA Γ t sv fun rs => ∃ ds, asDs rs = some ds ∧ ds.length ≤ sizeLine ∧ Φ (.nl ds)) : WE Γ (tLst t) sv Φ := fun H0 F0 σ H F R X Q f => h H0 F0 σ H F R X _ fun vs rs H1 F1 ⟨ds, e, l, q⟩ n os => by
  obtain ⟨F2, n2, s2, t2⟩ := asDs_ok R.ok n os e
  exact ⟨by rw [t2.length]; exact l, Fin'.newL (Φ := Φ) ⟨R.ok0, R.nx, n⟩ f n2 t2 q⟩

/-! ### operators -/
theorem we_op (h : WE Γ ta sv fun x => WE Γ tb sv fun y => RO Γ r x y Φ) : WE Γ (tOp r ta tb) sv Φ := fun H0 F0 σ H F R X Q f => h H0 F0 σ H F R X _ fun u x H1 F1 q n o =>
  q H0 F0 σ H1 F1 (R.step n) X _ fun v y H2 F2 q2 n2 o2 => q2 H0 F0 H F H2 F2 u v ⟨R.ok0, R.nx, n.trans n2⟩ (o.nx R.ok n n2) (o2.back n) Q f
theorem we_un {r : V → Hp → VK → Prop} (h : WE Γ ta sv fun x => RU Γ r x Φ) : WE Γ (tUn r ta) sv Φ := fun H0 F0 σ H F R X Q f => h H0 F0 σ H F R X _ fun u x H1 F1 q n o => q H0 F0 H F H1 F1 u ⟨R.ok0, R.nx, n⟩ o Q f
theorem we_cb {r : List V → Hp → VK → Prop} {t : TA} (h : WA Γ t sv fun xs => RC Γ r xs Φ) : WE Γ (tCB r t) sv Φ := fun H0 F0 σ H F R X Q f => h H0 F0 σ H F R X _ fun us xs H1 F1 q n os => q H0 F0 H F H1 F1 us ⟨R.ok0, R.nx, n⟩ os Q f
/-- what a value's built-in type must be -/
def tyR (T : String) : Rv → Prop
  | .d (.str _) => T = "str"
  | .d (.int _) => T = "int"
  | r => T = "list" ∧ (asL r).isSome = true
theorem tyR_ok (A : At Γ H0 F0 H F H1 F1) {T : String} {v : V} {r : Rv} (h : RvOk Γ.K Γ.p H0 H H1 F1 v r) (e : tyR T r) : tyV Γ.K T v H1 := by
  have lst : T = "list" ∧ (asL r).isSome = true → tyV Γ.K T v H1 := fun e => by
    obtain ⟨e1, e2⟩ := e
    cases q : asL r with
    | none => rw [q] at e2; cases e2
    | some ds =>
      obtain ⟨a, xs, rfl, s, _⟩ := A.asL h q
      exact .inl ⟨e1, xs, s⟩
  cases r with
  | d x => cases x <;> first | exact lst e | (cases h; exact e)
  | _ => exact lst e
theorem we_bm0 {T : String} {r : V → List V → Hp → VK → Prop} (h : WE Γ ta sv fun x => tyR T x ∧ RM Γ r x [] Φ) : WE Γ (tBM0 Γ.K T r ta) sv Φ := fun H0 F0 σ H F R X Q f => h H0 F0 σ H F R X _ fun u x H1 F1 ⟨ty, q⟩ n o => ⟨tyR_ok ⟨R.ok0, R.nx, n⟩ o ty, q H0 F0 H F H1 F1 u [] ⟨R.ok0, R.nx, n⟩ o .nil Q f⟩
theorem we_bm {T : String} {r : V → List V → Hp → VK → Prop} {t : TA} (h : WE Γ ta sv fun x => tyR T x ∧ WA Γ t sv fun xs => RM Γ r x xs Φ) : WE Γ (tBM Γ.K T r ta t) sv Φ := fun H0 F0 σ H F R X Q f => h H0 F0 σ H F R X _ fun u x H1 F1 ⟨ty, q⟩ n o =>
  ⟨tyR_ok ⟨R.ok0, R.nx, n⟩ o ty, q H0 F0 σ H1 F1 (R.step n) X _ fun us xs H2 F2 q2 n2 os => q2 H0 F0 H F H2 F2 u us ⟨R.ok0, R.nx, n.trans n2⟩ (o.nx R.ok n n2) (Paired.mapP os fun _ _ z => z.back n) Q f⟩
theorem we_m0 {r : V → List V → Hp → VK → Prop} (h : WE Γ ta sv fun x => ∃ s, x = .d (.str s) ∧ RM Γ r x [] Φ) : WE Γ (tM0 r ta) sv Φ := fun H0 F0 σ H F R X Q f => h H0 F0 σ H F R X _ fun u x H1 F1 ⟨s, e, q⟩ n o => by
  subst e
  exact ⟨by cases o; exact ⟨s, rfl⟩, q H0 F0 H F H1 F1 u [] ⟨R.ok0, R.nx, n⟩ o .nil Q f⟩
theorem we_m1 {r : V → List V → Hp → VK → Prop} (h : WE Γ ta sv fun x => ∃ s, x = .d (.str s) ∧ WE Γ tb sv fun y => RM Γ r x [y] Φ) : WE Γ (tM1 r ta tb) sv Φ := fun H0 F0 σ H F R X Q f => h H0 F0 σ H F R X _ fun u x H1 F1 ⟨s, e, q⟩ n o => by
  subst e
  exact ⟨by cases o; exact ⟨s, rfl⟩, q H0 F0 σ H1 F1 (R.step n) X _ fun v y H2 F2 q2 n2 o2 => q2 H0 F0 H F H2 F2 u [v] ⟨R.ok0, R.nx, n.trans n2⟩ (o.nx R.ok n n2) (.cons (o2.back n) .nil) Q f⟩

/-! ### tests -/
theorem wt_test {Φ : Bool → Prop} (h : WE Γ te sv fun r => ∃ b, r = .d (.bl b) ∧ Φ b) : WT Γ (tTest te) sv Φ := fun H0 F0 σ H F R X Q f => h H0 F0 σ H F R X _ fun v r H1 F1 ⟨b, e, q⟩ n o => by
  subst e
  cases o
  exact ⟨b, rfl, f b H1 F1 q n⟩
theorem wt_val {Φ : Bool → Prop} (h : WE Γ te sv fun r => ∃ b, r = .d (.bl b) ∧ Φ b) : WT Γ (tB te) sv Φ := fun H0 F0 σ H F R X Q f => h H0 F0 σ H F R X _ fun v r H1 F1 ⟨b, e, q⟩ n o => by
  subst e
  cases o
  exact ⟨b, rfl, f b H1 F1 q n⟩
theorem wt_and {t u : TT} {Φ : Bool → Prop} (h : WT Γ t sv fun b => if b = true then WT Γ u sv Φ else Φ false) : WT Γ (tAnd t u) sv Φ := fun H0 F0 σ H F R X Q f => h H0 F0 σ H F R X _ fun b H1 F1 q n => by
  cases b with
  | true => exact q H0 F0 σ H1 F1 (R.step n) X Q fun c H2 F2 q2 n2 => f c H2 F2 q2 (n.trans n2)
  | false => exact f false H1 F1 q n
theorem wt_or {t u : TT} {Φ : Bool → Prop} (h : WT Γ t sv fun b => if b = true then Φ true else WT Γ u sv Φ) : WT Γ (tOr t u) sv Φ := fun H0 F0 σ H F R X Q f => h H0 F0 σ H F R X _ fun b H1 F1 q n => by
  cases b with
  | false => exact q H0 F0 σ H1 F1 (R.step n) X Q fun c H2 F2 q2 n2 => f c H2 F2 q2 (n.trans n2)
  | true => exact f true H1 F1 q n
theorem wt_not {t : TT} {Φ : Bool → Prop} (h : WT Γ t sv fun b => Φ (!b)) : WT Γ (tNot t) sv Φ := fun H0 F0 σ H F R X Q f => h H0 F0 σ H F R X _ fun b H1 F1 q n => f _ H1 F1 q n
/-- a value's truth -/
def truR : Rv → Option Bool
  | .d .non => some false
  | .d (.bl b) => some b
  | .d (.int i) => some (i != 0)
  | .d (.tup ds) => some (!ds.isEmpty)
  | r => (asL r).map fun ds => !ds.isEmpty
theorem Tps.isEmpty {K : PySem.W.Frag} {F : Hp} : ∀ {xs : List V} {ds : List D}, Tps K F xs ds → xs.isEmpty = ds.isEmpty
  | _, _, .nil => rfl
  | _, _, .cons _ _ => rfl
theorem truR_ok (A : At Γ H0 F0 H F H1 F1) {v : V} {k : Bool} {r : Rv} (h : RvOk Γ.K Γ.p H0 H H1 F1 v r) (e : truR r = some k) : TruV Γ.K v H1 k := by
  have lst : (asL r).map (fun ds => !ds.isEmpty) = some k → TruV Γ.K v H1 k := fun e => by
    cases q : asL r with
    | none => rw [q] at e; cases e
    | some ds =>
      rw [q] at e
      cases e
      obtain ⟨a, xs, rfl, s, t⟩ := A.asL h q
      exact .inl ⟨xs, s, by rw [t.isEmpty]⟩
  cases r with
  | d x =>
    cases x with
    | non => cases h; cases e; rfl
    | bl b => cases h; cases e; rfl
    | int i => cases h; cases e; rfl
    | tup ds =>
      obtain ⟨a, xs, rfl, s, t⟩ := A.tup h
      cases e
      exact .inr (.inl ⟨xs, s, by rw [t.isEmpty]⟩)
    | _ => exact lst e
  | _ => exact lst e
theorem wt_truth {Φ : Bool → Prop} (h : WE Γ te sv fun r => ∃ b, truR r = some b ∧ Φ b) : WT Γ (fun σ H Q => te σ H fun x H' => ∃ k, TruV Γ.K x H' k ∧ Q k H') sv Φ := fun H0 F0 σ H F R X Q f => h H0 F0 σ H F R X _ fun v r H1 F1 ⟨b, e, q⟩ n o =>
  ⟨b, truR_ok ⟨R.ok0, R.nx, n⟩ o e, f b H1 F1 q n⟩
theorem we_andV (h : WE Γ ta sv fun r => ∃ b, r = .d (.bl b) ∧ if b = true then WE Γ tb sv Φ else Φ (.d (.bl false))) : WE Γ (tAndV ta tb) sv Φ := fun H0 F0 σ H F R X Q f => h H0 F0 σ H F R X _ fun v r H1 F1 ⟨b, e, q⟩ n o => by
  subst e
  cases o
  refine ⟨b, rfl, ?_⟩
  cases b with
  | true => exact q H0 F0 σ H1 F1 (R.step n) X Q fun c r2 H2 F2 q2 n2 o2 => f c r2 H2 F2 q2 (n.trans n2) (o2.back n)
  | false => exact f _ _ H1 F1 q n (Tp.bl false)
theorem we_orV (h : WE Γ ta sv fun r => ∃ b, r = .d (.bl b) ∧ if b = true then Φ (.d (.bl true)) else WE Γ tb sv Φ) : WE Γ (tOrV ta tb) sv Φ := fun H0 F0 σ H F R X Q f => h H0 F0 σ H F R X _ fun v r H1 F1 ⟨b, e, q⟩ n o => by
  subst e
  cases o
  refine ⟨b, rfl, ?_⟩
  cases b with
  | false => exact q H0 F0 σ H1 F1 (R.step n) X Q fun c r2 H2 F2 q2 n2 o2 => f c r2 H2 F2 q2 (n.trans n2) (o2.back n)
  | true => exact f _ _ H1 F1 q n (Tp.bl true)
theorem we_notV (h : WE Γ ta sv fun r => ∃ b, r = .d (.bl b) ∧ Φ (.d (.bl (!b)))) : WE Γ (tNotV ta) sv Φ := fun H0 F0 σ H F R X Q f => h H0 F0 σ H F R X _ fun v r H1 F1 ⟨b, e, q⟩ n o => by
  subst e
  cases o
  exact ⟨b, rfl, f _ _ H1 F1 q n (Tp.bl _)⟩
theorem we_if {t : TT} (h : WT Γ t sv fun b => if b = true then WE Γ ta sv Φ else WE Γ tb sv Φ) : WE Γ (tIf t ta tb) sv Φ := fun H0 F0 σ H F R X Q f => h H0 F0 σ H F R X _ fun b H1 F1 q n => by
  cases b with
  | true => exact q H0 F0 σ H1 F1 (R.step n) X Q fun c r2 H2 F2 q2 n2 o2 => f c r2 H2 F2 q2 (n.trans n2) (o2.back n)
  | false => exact q H0 F0 σ H1 F1 (R.step n) X Q fun c r2 H2 F2 q2 n2 o2 => f c r2 H2 F2 q2 (n.trans n2) (o2.back n)

/-! ### operations by values -/
/-- a scalar as a datum -/
def scD : V → Option D
  | .non => some .non | .bl b => some (.bl b) | .int i => some (.int i) | .str s => some (.str s) | _ => none
theorem scD_ok {K : PySem.W.Frag} {F : Hp} : ∀ {v : V} {d : D}, scD v = some d → Tp K F v d
  | .non, _, e => by cases e; exact .non
  | .bl _, _, e => by cases e; exact .bl _
  | .int _, _, e => by cases e; exact .int _
  | .str _, _, e => by cases e; exact .str _
  | .byt _, _, e => by cases e
  | .flt _, _, e => by cases e
  | .ref _, _, e => by cases e
  | .ty _, _, e => by cases e
theorem ro_I0 {g : Int → Int → V} {i j : Int} {d : D} (e : scD (g i j) = some d) (q : Φ (.d d)) : RO Γ (rI0 g) (.d (.int i)) (.d (.int j)) Φ := fun H0 F0 H F H1 F1 u v A hu hv Q f => by
  cases hu; cases hv
  exact ⟨i, j, rfl, rfl, f.val A (r := .d d) (scD_ok e) q⟩
theorem ro_I {C : Int → Int → Prop} {g : Int → Int → V} {i j : Int} {d : D} (c : C i j) (e : scD (g i j) = some d) (q : Φ (.d d)) : RO Γ (rI C g) (.d (.int i)) (.d (.int j)) Φ := fun H0 F0 H F H1 F1 u v A hu hv Q f => by
  cases hu; cases hv
  exact ⟨i, j, rfl, rfl, c, f.val A (r := .d d) (scD_ok e) q⟩
theorem ro_or1 {r r' : R2} (h : RO Γ r x y Φ) : RO Γ (fun x y H Q => r x y H Q ∨ r' x y H Q) x y Φ := fun H0 F0 H F H1 F1 u v A hu hv Q f => .inl (h H0 F0 H F H1 F1 u v A hu hv Q f)
theorem ro_or2 {r r' : R2} (h : RO Γ r' x y Φ) : RO Γ (fun x y H Q => r x y H Q ∨ r' x y H Q) x y Φ := fun H0 F0 H F H1 F1 u v A hu hv Q f => .inr (h H0 F0 H F H1 F1 u v A hu hv Q f)
theorem rc_or1 {r r' : List V → Hp → VK → Prop} {xs : List Rv} (h : RC Γ r xs Φ) : RC Γ (fun xs H Q => r xs H Q ∨ r' xs H Q) xs Φ := fun H0 F0 H F H1 F1 u A hu Q f => .inl (h H0 F0 H F H1 F1 u A hu Q f)
theorem rc_or2 {r r' : List V → Hp → VK → Prop} {xs : List Rv} (h : RC Γ r' xs Φ) : RC Γ (fun xs H Q => r xs H Q ∨ r' xs H Q) xs Φ := fun H0 F0 H F H1 F1 u A hu Q f => .inr (h H0 F0 H F H1 F1 u A hu Q f)
theorem ro_eqI {i j : Int} (q : Φ (.d (.bl (decide (i = j))))) : RO Γ rEq (.d (.int i)) (.d (.int j)) Φ := fun H0 F0 H F H1 F1 u v A hu hv Q f => by
  cases hu; cases hv
  refine ⟨rfl, f.val A (r := .d (.bl (decide (i = j)))) ?_ q⟩
  have : decide (V.int i = V.int j) = decide (i = j) := by simp
  rw [this]; exact .bl _
theorem ro_neI {i j : Int} (q : Φ (.d (.bl (!decide (i = j))))) : RO Γ rNe (.d (.int i)) (.d (.int j)) Φ := fun H0 F0 H F H1 F1 u v A hu hv Q f => by
  cases hu; cases hv
  refine ⟨rfl, f.val A (r := .d (.bl (!decide (i = j)))) ?_ q⟩
  have : decide (V.int i = V.int j) = decide (i = j) := by simp
  rw [this]; exact .bl _
theorem ro_eqS {i j : Str} (q : Φ (.d (.bl (decide (i = j))))) : RO Γ rEq (.d (.str i)) (.d (.str j)) Φ := fun H0 F0 H F H1 F1 u v A hu hv Q f => by
  cases hu; cases hv
  refine ⟨rfl, f.val A (r := .d (.bl (decide (i = j)))) ?_ q⟩
  have : decide (V.str i = V.str j) = decide (i = j) := by simp
  rw [this]; exact .bl _
theorem ro_neS {i j : Str} (q : Φ (.d (.bl (!decide (i = j))))) : RO Γ rNe (.d (.str i)) (.d (.str j)) Φ := fun H0 F0 H F H1 F1 u v A hu hv Q f => by
  cases hu; cases hv
  refine ⟨rfl, f.val A (r := .d (.bl (!decide (i = j)))) ?_ q⟩
  have : decide (V.str i = V.str j) = decide (i = j) := by simp
  rw [this]; exact .bl _
theorem ro_addS {i j : Str} (l : i.length + j.length ≤ sizeLine) (q : Φ (.d (.str (i ++ j)))) : RO Γ (fun x y H Q => ∃ i j, x = .str i ∧ y = .str j ∧ i.length + j.length ≤ sizeLine ∧ Q (.str (i ++ j)) H) (.d (.str i)) (.d (.str j)) Φ := fun H0 F0 H F H1 F1 u v A hu hv Q f => by
  cases hu; cases hv
  exact ⟨i, j, rfl, rfl, l, f.val A (r := .d _) (.str _) q⟩
theorem tps_nil {K : PySem.W.Frag} {F : Hp} {xs : List V} (t : Tps K F xs []) : xs = [] := by cases t; rfl
theorem tps_ne {K : PySem.W.Frag} {F : Hp} {xs : List V} {ds : List D} (t : Tps K F xs ds) (h : ds ≠ []) : xs ≠ [] := by cases t <;> simp_all
theorem ro_catT {ds es : List D} (h : ds ≠ []) (l : ds.length + es.length ≤ sizeLine) (q : Φ (.d (.tup (ds ++ es)))) : RO Γ (rCatT Γ.K) (.d (.tup ds)) (.d (.tup es)) Φ := fun H0 F0 H F H1 F1 u v A hu hv Q f => by
  obtain ⟨a, xs, rfl, s, t⟩ := A.tup hu
  obtain ⟨b, ys, rfl, s', t'⟩ := A.tup hv
  refine ⟨a, b, xs, ys, rfl, rfl, s, s', tps_ne t h, by rw [t.length, t'.length]; exact l, fun e => ?_, fun e => Fin'.newT A f A.n (t.append t') q⟩
  subst e
  have : es = [] := by cases t'; rfl
  subst this
  rw [List.append_nil] at q
  exact f.val A hu q
/-- a list that stands tracked -/
theorem ro_cat {ds es : List D} (hx : x = .ol ds ∨ x = .nl ds) (hy : y = .ol es ∨ y = .nl es) (l : ds.length + es.length ≤ sizeLine) (q : Φ (.nl (ds ++ es))) : RO Γ rCat x y Φ := fun H0 F0 H F H1 F1 u v A hu hv Q f => by
  have g : ∀ {x : Rv} {u : V} {ds : List D}, (x = .ol ds ∨ x = .nl ds) → RvOk Γ.K Γ.p H0 H H1 F1 u x → ∃ a xs, u = .ref a ∧ H1 a = some (.lst xs) ∧ Tps Γ.K F1 xs ds := by
    rintro x u ds (rfl | rfl) h
    · obtain ⟨a, xs, e, g, _, t⟩ := h; obtain ⟨xs, rfl, t⟩ := t.lst; exact ⟨a, xs, e, g, t⟩
    · obtain ⟨a, xs, e, _, g, _, t⟩ := h; obtain ⟨xs, rfl, t⟩ := t.lst; exact ⟨a, xs, e, g, t⟩
  obtain ⟨a, xs, rfl, s, t⟩ := g hx hu
  obtain ⟨b, ys, rfl, s', t'⟩ := g hy hv
  exact ⟨a, b, xs, ys, rfl, rfl, s, s', by rw [t.length, t'.length]; exact l, Fin'.newL A f A.n (t.append t') q⟩
theorem ro_rep {ds : List D} {k : Int} (hx : x = .ol ds ∨ x = .nl ds) (h1 : -(2 ^ 63) ≤ k) (h2 : k < 2 ^ 63) (l : ds.length * k.toNat ≤ sizeLine) (q : Φ (.nl (List.replicate k.toNat ds).flatten)) : RO Γ rRep x (.d (.int k)) Φ := fun H0 F0 H F H1 F1 u v A hu hv Q f => by
  have g : ∃ a xs, u = .ref a ∧ H1 a = some (.lst xs) ∧ Tps Γ.K F1 xs ds := by
    rcases hx with rfl | rfl
    · obtain ⟨a, xs, e, g, _, t⟩ := hu; obtain ⟨xs, rfl, t⟩ := t.lst; exact ⟨a, xs, e, g, t⟩
    · obtain ⟨a, xs, e, _, g, _, t⟩ := hu; obtain ⟨xs, rfl, t⟩ := t.lst; exact ⟨a, xs, e, g, t⟩
  obtain ⟨a, xs, rfl, s, t⟩ := g
  cases hv
  exact ⟨a, k, xs, rfl, rfl, s, h1, h2, by rw [t.length]; exact l, Fin'.newL A f A.n (t.rep _) q⟩
theorem atI_tps {K : PySem.W.Frag} {F : Hp} {xs : List V} {ds : List D} {i : Int} {d : D} (t : Tps K F xs ds) (h : atI ds i = some d) : ∃ v, atI xs i = some v ∧ Tp K F v d := by
  unfold atI at h ⊢
  rw [t.length]
  cases e : ixN ds.length i with
  | none => rw [e] at h; cases h
  | some j =>
    rw [e] at h
    exact t.get (show ds[j]? = some d from h)
theorem ro_ixL {ds : List D} {i : Int} {d : D} (hx : asL x = some ds) (h : atI ds i = some d) (q : Φ (.d d)) : RO Γ (rIxL Γ.K) x (.d (.int i)) Φ := fun H0 F0 H F H1 F1 u v A hu hv Q f => by
  obtain ⟨a, xs, rfl, s, t⟩ := A.asL hu hx
  cases hv
  obtain ⟨w, e, tw⟩ := atI_tps t h
  exact ⟨a, xs, i, w, rfl, rfl, s, e, f.val A (r := .d d) tw q⟩
theorem ro_ixT {ds : List D} {i : Int} {d : D} (h : atI ds i = some d) (q : Φ (.d d)) : RO Γ (rIxT Γ.K) (.d (.tup ds)) (.d (.int i)) Φ := fun H0 F0 H F H1 F1 u v A hu hv Q f => by
  obtain ⟨a, xs, rfl, s, t⟩ := A.tup hu
  cases hv
  obtain ⟨w, e, tw⟩ := atI_tps t h
  exact ⟨a, xs, i, w, rfl, rfl, s, e, f.val A (r := .d d) tw q⟩
theorem ro_ixS {z : Str} {i : Int} {c : Nat} (l : z.length ≤ sizeLine) (h : atI z.cps.toList i = some c) (q : Φ (.d (.str ⟨#[c]⟩))) : RO Γ rIxS (.d (.str z)) (.d (.int i)) Φ := fun H0 F0 H F H1 F1 u v A hu hv Q f => by
  cases hu; cases hv
  exact ⟨z, i, c, rfl, rfl, l, h, f.val A (r := .d _) (.str _) q⟩
theorem ro_isN {d : D} (q : Φ (.d (.bl (match d with | .non => true | _ => false)))) : RO Γ (fun x y H Q => y = .non ∧ Q (.bl (decide (x = .non))) H) (.d d) (.d .non) Φ := fun H0 F0 H F H1 F1 u v A hu hv Q f => by
  cases hv
  refine ⟨rfl, f.val A (r := .d _) ?_ q⟩
  cases hu <;> first | exact .bl true | (simp only [reduceCtorEq, decide_false]; exact .bl false)
theorem ro_isB {a b : Bool} (q : Φ (.d (.bl (decide (a = b))))) : RO Γ rIsB (.d (.bl a)) (.d (.bl b)) Φ := fun H0 F0 H F H1 F1 u v A hu hv Q f => by
  cases hu; cases hv
  exact ⟨a, b, rfl, rfl, f.val A (r := .d _) (.bl _) q⟩
/-- texts in a list or tuple of texts -/
theorem inV_strs {K : PySem.W.Frag} {F : Hp} {s : Str} : ∀ {ss : List Str} {xs : List V}, Tps K F xs (ss.map D.str) → xs.all flatV = true ∧ inV (.str s) xs = decide (s ∈ ss)
  | [], _, .nil => ⟨rfl, rfl⟩
  | z :: ss, _, .cons a t => by
    cases a
    obtain ⟨h1, h2⟩ := inV_strs (s := s) (ss := ss) t
    refine ⟨by rw [List.all_cons, h1] <;> rfl, ?_⟩
    unfold inV at h2 ⊢
    rw [List.any_cons, h2]
    have : eqV (.str z) (.str s) = decide (s = z) := by
      show decide _ = decide _
      by_cases e : s = z
      · subst e; simp
      · have e2 : ¬ z = s := fun q => e q.symm
        simp [e, e2]
    rw [this]
    by_cases e : s = z <;> simp [e]
theorem ro_inS {s : Str} {ss : List Str} (hy : asL y = some (ss.map D.str) ∨ y = .d (.tup (ss.map D.str))) (q : Φ (.d (.bl (decide (s ∈ ss))))) : RO Γ (rIn Γ.K false) (.d (.str s)) y Φ := fun H0 F0 H F H1 F1 u v A hu hv Q f => by
  cases hu
  have g : ∃ p xs, v = .ref p ∧ (SqL Γ.K H1 p xs ∨ SqT Γ.K H1 p xs) ∧ Tps Γ.K F1 xs (ss.map D.str) := by
    rcases hy with e | e
    · obtain ⟨a, xs, e1, g, t⟩ := A.asL hv e; exact ⟨a, xs, e1, .inl g, t⟩
    · subst e; obtain ⟨a, xs, e1, g, t⟩ := A.tup hv; exact ⟨a, xs, e1, .inr g, t⟩
  obtain ⟨p, xs, rfl, g, t⟩ := g
  obtain ⟨h1, h2⟩ := inV_strs (s := s) t
  refine ⟨p, xs, rfl, g, rfl, h1, ?_⟩
  show Q (.bl (inV (.str s) xs)) H1
  rw [h2]
  exact f.val A (r := .d _) (.bl _) q
/-! ### calls of built-ins -/
theorem p1 {R : V → Rv → Prop} {us : List V} {x : Rv} (h : Paired R us [x]) : ∃ u, us = [u] ∧ R u x := by
  cases h with
  | cons a t => cases t; exact ⟨_, rfl, a⟩
theorem p2 {R : V → Rv → Prop} {us : List V} {x y : Rv} (h : Paired R us [x, y]) : ∃ u v, us = [u, v] ∧ R u x ∧ R v y := by
  cases h with
  | cons a t => obtain ⟨v, rfl, b⟩ := p1 t; exact ⟨_, _, rfl, a, b⟩
theorem rc_len_seq {ds : List D} (hx : asL x = some ds ∨ x = .d (.tup ds)) (q : Φ (.d (.int ds.length))) : RC Γ (fun xs H Q => ∃ p ys, xs = [.ref p] ∧ (SqL Γ.K H p ys ∨ SqT Γ.K H p ys) ∧ Q (.int ys.length) H) [x] Φ := fun H0 F0 H F H1 F1 us A hus Q f => by
  obtain ⟨u, rfl, hu⟩ := p1 hus
  rcases hx with e | e
  · obtain ⟨a, xs, rfl, s, t⟩ := A.asL hu e
    exact ⟨a, xs, rfl, .inl s, by rw [t.length]; exact f.val A (r := .d _) (.int _) q⟩
  · subst e
    obtain ⟨a, xs, rfl, s, t⟩ := A.tup hu
    exact ⟨a, xs, rfl, .inr s, by rw [t.length]; exact f.val A (r := .d _) (.int _) q⟩
theorem rc_len_str {z : Str} (l : z.length ≤ sizeLine) (q : Φ (.d (.int z.length))) : RC Γ (fun xs H Q => ∃ z, xs = [.str z] ∧ z.length ≤ sizeLine ∧ Q (.int z.length) H) [.d (.str z)] Φ := fun H0 F0 H F H1 F1 us A hus Q f => by
  obtain ⟨u, rfl, hu⟩ := p1 hus
  cases hu
  exact ⟨z, rfl, l, f.val A (r := .d _) (.int _) q⟩
theorem rc_abs {i : Int} (q : Φ (.d (.int (if i < 0 then -i else i)))) : RC Γ (fun xs H Q => ∃ i, xs = [.int i] ∧ Q (.int (if i < 0 then -i else i)) H) [.d (.int i)] Φ := fun H0 F0 H F H1 F1 us A hus Q f => by
  obtain ⟨u, rfl, hu⟩ := p1 hus
  cases hu
  exact ⟨i, rfl, f.val A (r := .d _) (.int _) q⟩
theorem rc_max {i j : Int} (q : Φ (.d (.int (if j > i then j else i)))) : RC Γ (fun xs H Q => ∃ i j, xs = [.int i, .int j] ∧ Q (.int (if j > i then j else i)) H) [.d (.int i), .d (.int j)] Φ := fun H0 F0 H F H1 F1 us A hus Q f => by
  obtain ⟨u, v, rfl, hu, hv⟩ := p2 hus
  cases hu; cases hv
  exact ⟨i, j, rfl, f.val A (r := .d _) (.int _) q⟩
theorem rc_min {i j : Int} (q : Φ (.d (.int (if j < i then j else i)))) : RC Γ (fun xs H Q => ∃ i j, xs = [.int i, .int j] ∧ Q (.int (if j < i then j else i)) H) [.d (.int i), .d (.int j)] Φ := fun H0 F0 H F H1 F1 us A hus Q f => by
  obtain ⟨u, v, rfl, hu, hv⟩ := p2 hus
  cases hu; cases hv
  exact ⟨i, j, rfl, f.val A (r := .d _) (.int _) q⟩
theorem rc_intI {i : Int} (q : Φ (.d (.int i))) : RC Γ (fun xs H Q => (∃ i, xs = [.int i] ∧ Q (.int i) H) ∨ ∃ k, xs = [.bl k] ∧ Q (.int (if k then 1 else 0)) H) [.d (.int i)] Φ := fun H0 F0 H F H1 F1 us A hus Q f => by
  obtain ⟨u, rfl, hu⟩ := p1 hus
  cases hu
  exact .inl ⟨i, rfl, f.val A (r := .d _) (.int _) q⟩
theorem rc_intB {b : Bool} (q : Φ (.d (.int (if b then 1 else 0)))) : RC Γ (fun xs H Q => (∃ i, xs = [.int i] ∧ Q (.int i) H) ∨ ∃ k, xs = [.bl k] ∧ Q (.int (if k then 1 else 0)) H) [.d (.bl b)] Φ := fun H0 F0 H F H1 F1 us A hus Q f => by
  obtain ⟨u, rfl, hu⟩ := p1 hus
  cases hu
  exact .inr ⟨b, rfl, f.val A (r := .d _) (.int _) q⟩
theorem rc_strI {i : Int} (l : i.natAbs.log2 < 1920) (q : Φ (.d (.str (toString i)))) : RC Γ (fun xs H Q => ∃ i, xs = [.int i] ∧ i.natAbs.log2 < 1920 ∧ Q (.str (toString i)) H) [.d (.int i)] Φ := fun H0 F0 H F H1 F1 us A hus Q f => by
  obtain ⟨u, rfl, hu⟩ := p1 hus
  cases hu
  exact ⟨i, rfl, l, f.val A (r := .d _) (.str _) q⟩
theorem rc_list {ds : List D} (hx : asL x = some ds ∨ x = .d (.tup ds)) (q : Φ (.nl ds)) : RC Γ (fun xs H Q => ∃ p ys, xs = [.ref p] ∧ (SqL Γ.K H p ys ∨ SqT Γ.K H p ys) ∧ ∀ l, H l = none → Q (.ref l) (upd H l (.lst ys))) [x] Φ := fun H0 F0 H F H1 F1 us A hus Q f => by
  obtain ⟨u, rfl, hu⟩ := p1 hus
  rcases hx with e | e
  · obtain ⟨a, xs, rfl, s, t⟩ := A.asL hu e
    exact ⟨a, xs, rfl, .inl s, Fin'.newL A f A.n t q⟩
  · subst e
    obtain ⟨a, xs, rfl, s, t⟩ := A.tup hu
    exact ⟨a, xs, rfl, .inr s, Fin'.newL A f A.n t q⟩
theorem rc_tuple {ds : List D} (hx : asL x = some ds ∨ x = .d (.tup ds)) (q : Φ (.d (.tup ds))) : RC Γ (fun xs H Q => ∃ p ys, xs = [.ref p] ∧ ((SqL Γ.K H p ys ∧ ∀ l, H l = none → Q (.ref l) (upd H l (.tup ys))) ∨ (SqT Γ.K H p ys ∧ Q (.ref p) H))) [x] Φ := fun H0 F0 H F H1 F1 us A hus Q f => by
  obtain ⟨u, rfl, hu⟩ := p1 hus
  rcases hx with e | e
  · obtain ⟨a, xs, rfl, s, t⟩ := A.asL hu e
    exact ⟨a, xs, rfl, .inl ⟨s, Fin'.newT A f A.n t q⟩⟩
  · subst e
    obtain ⟨a, xs, e, s, t⟩ := A.tup hu
    subst e
    exact ⟨a, xs, rfl, .inr ⟨s, f.val A hu q⟩⟩
/-- the built-in type of a value -/
def tyD : Rv → Option String
  | .d .non => some "NoneType"
  | .d (.bl _) => some "bool"
  | .d (.int _) => some "int"
  | .d (.str _) => some "str"
  | .d (.tup _) => some "tuple"
  | r => (asL r).map fun _ => "list"
theorem sqL_ty {K : PySem.W.Frag} {H : Hp} {a : Addr} {xs : List V} (s : SqL K H a xs) : TyX K H (.ref a) (.type "list") := by
  rcases s with (s | ⟨o, s⟩) | ⟨o, its, n, h, c, _⟩
  · exact .base (.lst s)
  · exact .base (.frz s)
  · exact .kList h c
theorem tyD_ok (A : At Γ H0 F0 H F H1 F1) {v : V} {T : String} {r : Rv} (h : RvOk Γ.K Γ.p H0 H H1 F1 v r) (e : tyD r = some T) : TyX Γ.K H1 v (.type T) := by
  have lst : (asL r).map (fun _ => "list") = some T → TyX Γ.K H1 v (.type T) := fun e => by
    cases q : asL r with
    | none => rw [q] at e; cases e
    | some ds =>
      rw [q] at e
      cases e
      obtain ⟨a, xs, rfl, s, t⟩ := A.asL h q
      exact sqL_ty s
  cases r with
  | d x =>
    cases x with
    | non => cases h; cases e; exact .base .non
    | bl b => cases h; cases e; exact .base (.bl _)
    | int i => cases h; cases e; exact .base (.int _)
    | str s => cases h; cases e; exact .base (.str _)
    | tup ds =>
      obtain ⟨a, xs, rfl, s, t⟩ := A.tup h
      cases e
      rcases s with (s | ⟨o, s⟩) | ⟨o, its, n, h, c, _⟩
      · exact .base (.tup s)
      · exact .fTuple s
      · exact .kTuple h c
    | _ => exact lst e
  | _ => exact lst e
theorem rc_isi {n T : String} {b : Bool} (e : tyD x = some T) (h : kitB T n = some b) (q : Φ (.d (.bl b))) : RC Γ (rIsi Γ.K) [x, .raw (.ty n)] Φ := fun H0 F0 H F H1 F1 us A hus Q f => by
  obtain ⟨u, v, rfl, hu, hv⟩ := p2 hus
  cases (show v = .ty n from hv)
  exact ⟨u, .ty n, .type T, .type n, b, rfl, .ty n, tyD_ok A hu e, kit_ty h, f.val A (r := .d _) (.bl _) q⟩
/-! ### methods -/
theorem join_tps {K : PySem.W.Frag} {F : Hp} : ∀ {ss : List Str} {xs : List V}, Tps K F xs (ss.map D.str) → xs = ss.map V.str
  | [], _, .nil => rfl
  | _ :: _, _, .cons a t => by cases a; rw [List.map_cons, join_tps t]
theorem rm_join {z : Str} {ss : List Str} (hy : asL y = some (ss.map D.str) ∨ y = .d (.tup (ss.map D.str))) (l : (ss.map (·.length)).sum + ss.length * z.length ≤ 16777216) (q : Φ (.d (.str (Txt.join z ss)))) :
    RM Γ (fun x xs H Q => ∃ a p, ∃ ys : List Str, x = .str a ∧ xs = [.ref p] ∧ (SqL Γ.K H p (ys.map V.str) ∨ SqT Γ.K H p (ys.map V.str)) ∧ (ys.map (·.length)).sum + ys.length * a.length ≤ 16777216 ∧ Q (.str (Txt.join a ys)) H) (.d (.str z)) [y] Φ := fun H0 F0 H F H1 F1 u us A hu hus Q f => by
  obtain ⟨v, rfl, hv⟩ := p1 hus
  cases hu
  rcases hy with e | e
  · obtain ⟨a, xs, rfl, s, t⟩ := A.asL hv e
    have := join_tps t
    subst this
    exact ⟨z, a, ss, rfl, rfl, .inl s, l, f.val A (r := .d _) (.str _) q⟩
  · subst e
    obtain ⟨a, xs, rfl, s, t⟩ := A.tup hv
    have := join_tps t
    subst this
    exact ⟨z, a, ss, rfl, rfl, .inr s, l, f.val A (r := .d _) (.str _) q⟩
/-! ### slices -/
def RS (Γ : G) (r : V → Option Int → Option Int → Hp → VK → Prop) (x : Rv) (lo hi : Option Int) (Φ : Rv → Prop) : Prop := ∀ (H0 F0 H F H1 F1 : Hp) (u : V), At Γ H0 F0 H F H1 F1 → RvOk Γ.K Γ.p H0 H H1 F1 u x → ∀ Q : VK, Fin' Γ H0 H F H1 F1 Φ Q → r u lo hi H1 Q
def WO (Γ : G) (to : TO) (sv : List Sv) (Φ : Option Int → Prop) : Prop := ∀ (H0 F0 : Hp) (σ : L2.St) (H F : Hp), Rel Γ.K Γ.p H0 F0 σ H F sv → Exc Γ H0 F0 → ∀ Q : Option Int → Hp → Prop, (∀ o H2 F2, Φ o → Nx Γ.K Γ.p H F H2 F2 → Q o H2) → to σ H Q
theorem wo_none {Φ : Option Int → Prop} (q : Φ none) : WO Γ tNoPart sv Φ := fun H0 F0 σ H F R X Q f => f _ H F q (Nx.refl R.ok)
theorem wo_some {Φ : Option Int → Prop} (h : WE Γ te sv fun r => ∃ i, r = .d (.int i) ∧ Φ (some i)) : WO Γ (tPart te) sv Φ := fun H0 F0 σ H F R X Q f => h H0 F0 σ H F R X _ fun v r H1 F1 ⟨i, e, q⟩ n o => by
  subst e
  cases o
  exact ⟨i, rfl, f _ H1 F1 q n⟩
theorem we_sl {r : V → Option Int → Option Int → Hp → VK → Prop} {tl th : TO} (h : WE Γ te sv fun x => WO Γ tl sv fun lo => WO Γ th sv fun hi => RS Γ r x lo hi Φ) : WE Γ (tSl r te tl th) sv Φ := fun H0 F0 σ H F R X Q f => h H0 F0 σ H F R X _ fun v x H1 F1 q n o =>
  q H0 F0 σ H1 F1 (R.step n) X _ fun lo H2 F2 q2 n2 => q2 H0 F0 σ H2 F2 (R.step (n.trans n2)) X _ fun hi H3 F3 q3 n3 => q3 H0 F0 H F H3 F3 v ⟨R.ok0, R.nx, (n.trans n2).trans n3⟩ (o.nx R.ok n (n2.trans n3)) Q f
def cutD (ds : List D) (lo hi : Option Int) : List D := (ds.drop (HT.sIx ds.length 0 lo)).take (HT.sIx ds.length ds.length hi - HT.sIx ds.length 0 lo)
theorem cut_tps {K : PySem.W.Frag} {F : Hp} {xs : List V} {ds : List D} (t : Tps K F xs ds) (lo hi : Option Int) : Tps K F (cutV xs lo hi) (cutD ds lo hi) := by
  unfold cutV cutD
  rw [t.length]
  exact (t.drop _).take _
theorem rs_list {ds : List D} {lo hi : Option Int} (hx : asL x = some ds) (q : Φ (.nl (cutD ds lo hi))) : RS Γ (rSlL Γ.K) x lo hi Φ := fun H0 F0 H F H1 F1 u A hu Q f => by
  obtain ⟨a, xs, rfl, s, t⟩ := A.asL hu hx
  exact ⟨a, xs, rfl, s, Fin'.newL A f A.n (cut_tps t lo hi) q⟩
end
end Y

namespace Y
open PySem L2

section
variable {Γ : G} {H0 F0 H F H1 F1 H2 F2 : Hp} {σ : L2.St} {sv : List Sv} {ta tb tc te : TE} {Φ Ψ : Rv → Prop} {x y : Rv} {t u : TS} {E : En}

/-! ### statements -/
theorem ws_seq (h : WS Γ t sv { E with nx := fun sv' => WS Γ u sv' E }) : WS Γ (tSeq t u) sv E := fun H0 F0 σ H F R X D S => h H0 F0 σ H F R X _
  ⟨fun σ' H' F' sv' q s R' => q H0 F0 σ' H' F' R' X D (S.mono s), S.rt, S.bk, S.ct⟩
theorem ws_next (q : E.nx sv) : WS Γ tNext sv E := fun H0 F0 σ H F R X D S => S.nx σ H F sv q (Same.refl _) R
theorem ws_brk (q : E.bk sv) : WS Γ tBreak sv E := fun H0 F0 σ H F R X D S => S.bk σ H F sv q (Same.refl _) R
theorem ws_cont (q : E.ct sv) : WS Γ tCont sv E := fun H0 F0 σ H F R X D S => S.ct σ H F sv q (Same.refl _) R
theorem ws_mono {E' : En} (h : WS Γ t sv E) (hn : ∀ s, E.nx s → E'.nx s) (hr : ∀ s t, E.rt s t → E'.rt s t) (hb : ∀ s, E.bk s → E'.bk s) (hc : ∀ s, E.ct s → E'.ct s) : WS Γ t sv E' := fun H0 F0 σ H F R X D S =>
  h H0 F0 σ H F R X D ⟨fun σ' H' F' sv' q => S.nx σ' H' F' sv' (hn _ q), fun v r σ' H' F' sv' q => S.rt v r σ' H' F' sv' (hr _ _ q), fun σ' H' F' sv' q => S.bk σ' H' F' sv' (hb _ q), fun σ' H' F' sv' q => S.ct σ' H' F' sv' (hc _ q)⟩
/-- the slot that a value is stored into -/
def toS : Rv → Option Sv
  | .d x => some (.d x) | .n m => some (.m none m) | .l ds => some (.ro ds) | .raw u => some (.raw u) | .o _ => none
theorem Rel.store (R : Rel Γ.K Γ.p H0 F0 σ H F sv) (n : Nx Γ.K Γ.p H F H1 F1) {v : V} {r : Rv} {s : Sv} (o : RvOk Γ.K Γ.p H0 H H1 F1 v r) (e : toS r = some s) (i : Nat) : Rel Γ.K Γ.p H0 F0 (σ.set i (some v)) H1 F1 (sv.set i s) := by
  refine (R.step n).put i ?_ ?_
  · cases r with
    | d x => cases e; exact ⟨v, rfl, o⟩
    | l ds => cases e; obtain ⟨a, xs, rfl, h, q, t⟩ := o; exact ⟨a, xs, rfl, h, q, t⟩
    | o ds => cases e
    | n ds => cases e; obtain ⟨a, xs, rfl, h, g, f, t⟩ := o; exact ⟨a, xs, (fun _ z => nomatch z), rfl, g, R.nx.back h, f, t⟩
    | raw u => cases e; exact congrArg some o
  · intro q0 ds es j q1 es' ne ej hj
    cases r with
    | d x => cases e; cases es
    | l ds => cases e; cases es
    | o ds => cases e
    | raw u => cases e; cases es
    | n ds' =>
      obtain ⟨a, xs, rfl, h, g, f, t⟩ := o
      obtain ⟨o2, e1, b, ys, _, rfl, hb, _⟩ := R.sl j _ ej
      rw [e1] at hj
      cases hj
      rw [h] at hb
      cases hb
theorem ws_asg {i : Nat} (h : WE Γ te sv fun r => ∃ s, toS r = some s ∧ E.nx (sv.set i s)) : WS Γ (tAsg te (gName i)) sv E := fun H0 F0 σ H F R X D S => h H0 F0 σ H F R X _ fun v r H1 F1 ⟨s, e, q⟩ n o =>
  S.nx _ H1 F1 _ q n.fz (R.store n o e i)
theorem ws_ret (h : WE Γ te sv fun r => isRet r = true ∧ E.rt r sv) : WS Γ (tRet te) sv E := fun H0 F0 σ H F R X D S => h H0 F0 σ H F R X _ fun v r H1 F1 ⟨e, q⟩ n o => by
  refine S.rt v r σ H1 F1 sv q e (R.step n) ?_
  cases r with
  | d x => exact o
  | l ds => cases e
  | o ds => cases e
  | raw u => exact o
  | n ds => obtain ⟨a, xs, e1, h1, g⟩ := o; exact ⟨a, xs, e1, R.nx.back h1, g⟩
theorem ws_retOwn {i : Nat} {at_ : Option Addr} {m : Mo} (e : sv[i]? = some (.m at_ m)) (q : E.rt (.n m) sv) : WS Γ (tRet (tVar i)) sv E := fun H0 F0 σ H F R X D S => by
  obtain ⟨o, h1, a, xs, _, rfl, g, g0, gf, t⟩ := R.get e
  exact ⟨.ref a, h1, S.rt _ _ σ H F sv q rfl R ⟨a, xs, rfl, g0, g, gf, t⟩⟩
theorem ws_retN (q : E.rt (.d .non) sv) : WS Γ tRetN sv E := fun H0 F0 σ H F R X D S => S.rt .non (.d .non) σ H F sv q rfl R .non
theorem ws_if {c : TT} (h : WT Γ c sv fun b => if b = true then WS Γ t sv E else WS Γ u sv E) : WS Γ (tIfS c t u) sv E := fun H0 F0 σ H F R X D S => h H0 F0 σ H F R X _ fun b H1 F1 q n => by
  cases b with
  | true => exact q H0 F0 σ H1 F1 (R.step n) X D (S.mono n.fz)
  | false => exact q H0 F0 σ H1 F1 (R.step n) X D (S.mono n.fz)
theorem ws_drop (h : WE Γ te sv fun _ => E.nx sv) : WS Γ (tDrop te) sv E := fun H0 F0 σ H F R X D S => h H0 F0 σ H F R X _ fun v r H1 F1 q n o => S.nx σ H1 F1 sv q n.fz (R.step n)
theorem ws_app {i : Nat} {at_ : Option Addr} {ds : List D} (e : sv[i]? = some (.m at_ (.lst ds))) (h : WE Γ te sv fun r => ∃ x, asD r = some x ∧ ds.length < sizeLine ∧ E.nx (sv.set i (.m at_ (.lst (ds ++ [x]))))) : WS Γ (tDrop (tBM Γ.K "list" rAppend (tVar i) (tCons te tNil))) sv E := fun H0 F0 σ H F R X D S => by
  obtain ⟨o, h1, a, u, _, rfl, g, g0, gf, t⟩ := R.get e
  obtain ⟨xs, rfl, t⟩ := t.lst
  refine ⟨.ref a, h1, .inl ⟨rfl, xs, SqL.of g⟩, h H0 F0 σ H F R X _ fun v r H1 F1 ⟨x, ex, l, q⟩ n o => ?_⟩
  obtain ⟨F2, n2, s2, t2⟩ := o.asD R.ok n ex
  have R2 := R.step n2
  obtain ⟨o', h1', b, u, _, e2, g', g0', gf', t'⟩ := R2.get e
  obtain ⟨ys, rfl, t'⟩ := t'.lst
  rw [h1] at h1'
  cases h1'
  cases e2
  rw [n2.fr a _ g (R.ok0.ne g0)] at g'
  cases g'
  exact ⟨a, xs, v, rfl, rfl, n2.fr a _ g (R.ok0.ne g0), by rw [t.length]; exact l, S.nx σ _ F2 _ q n2.fz (R2.wr (m' := .lst (ds ++ [x])) e h1 (n2.fr a _ g (R.ok0.ne g0)) g0 gf' (t'.append (.cons t2 .nil)))⟩
theorem ws_ext {i : Nat} {at_ : Option Addr} {ds : List D} (e : sv[i]? = some (.m at_ (.lst ds))) (h : WE Γ te sv fun r => ∃ es, (r = .ol es ∨ r = .nl es) ∧ ds.length + es.length ≤ sizeLine ∧ E.nx (sv.set i (.m at_ (.lst (ds ++ es))))) : WS Γ (tDrop (tBM Γ.K "list" rExtend (tVar i) (tCons te tNil))) sv E := fun H0 F0 σ H F R X D S => by
  obtain ⟨o, h1, a, u, _, rfl, g, g0, gf, t⟩ := R.get e
  obtain ⟨xs, rfl, t⟩ := t.lst
  refine ⟨.ref a, h1, .inl ⟨rfl, xs, SqL.of g⟩, h H0 F0 σ H F R X _ fun v r H1 F1 ⟨es, ex, l, q⟩ n o => ?_⟩
  have g2 : ∃ b zs, v = .ref b ∧ H1 b = some (.lst zs) ∧ Tps Γ.K F1 zs es := by
    rcases ex with rfl | rfl
    · obtain ⟨b, zs, e, g, _, t⟩ := o; obtain ⟨zs, rfl, t⟩ := t.lst; exact ⟨b, zs, e, g, t⟩
    · obtain ⟨b, zs, e, _, g, _, t⟩ := o; obtain ⟨zs, rfl, t⟩ := t.lst; exact ⟨b, zs, e, g, t⟩
  obtain ⟨b, zs, rfl, gb, tb⟩ := g2
  have R2 := R.step n
  obtain ⟨o', h1', c, u, _, e2, g', g0', gf', t'⟩ := R2.get e
  obtain ⟨ys, rfl, t'⟩ := t'.lst
  rw [h1] at h1'
  cases h1'
  cases e2
  rw [n.fr a _ g (R.ok0.ne g0)] at g'
  cases g'
  exact ⟨a, b, xs, zs, rfl, rfl, n.fr a _ g (R.ok0.ne g0), gb, by rw [t.length, tb.length]; exact l, S.nx σ _ F1 _ q n.fz (R2.wr (m' := .lst (ds ++ es)) e h1 (n.fr a _ g (R.ok0.ne g0)) g0 gf' (t'.append tb))⟩
/-- xs[k] = e -/
theorem ws_setL {i : Nat} {at_ : Option Addr} {ds : List D} {ti : TE} (e : sv[i]? = some (.m at_ (.lst ds))) (h : WE Γ te sv fun r => ∃ x, asD r = some x ∧ WE Γ ti sv fun k => ∃ n j, k = .d (.int n) ∧ ixN ds.length n = some j ∧ E.nx (sv.set i (.m at_ (.lst (ds.set j x))))) : WS Γ (tAsg te (gSub (tVar i) ti rSetL)) sv E := fun H0 F0 σ H F R X D S => h H0 F0 σ H F R X _ fun v r H1 F1 ⟨x, ex, q⟩ n o => by
  obtain ⟨F2, n2, s2, t2⟩ := o.asD R.ok n ex
  have R2 := R.step n2
  obtain ⟨o', h1', a, ys, _, rfl, g', g0', gf', t'⟩ := R2.get e
  refine ⟨.ref a, h1', q H0 F0 σ H1 F2 R2 X _ fun w k H3 F3 ⟨m, j, ek, ix, q3⟩ n3 o3 => ?_⟩
  subst ek
  cases o3
  have R3 := R2.step n3
  obtain ⟨o4, h4, b, u4, _, e4, g4, g04, gf4, t4⟩ := R3.get e
  obtain ⟨zs, rfl, t4⟩ := t4.lst
  rw [h1'] at h4
  cases h4
  cases e4
  refine ⟨a, zs, m, j, rfl, rfl, g4, by rw [t4.length]; exact ix, ?_⟩
  exact S.nx σ _ F3 _ q3 (n2.fz.trans n3.fz) (R3.wr (m' := .lst (ds.set j x)) e h1' g4 g04 gf4 (t4.set (t2.mono n3.fz) j))
theorem ws_aug {i : Nat} {f : Int → Int → Int} {a : Int} (e : sv[i]? = some (.d (.int a))) (h : WE Γ te sv fun r => ∃ b, r = .d (.int b) ∧ E.nx (sv.set i (.d (.int (f a b))))) : WS Γ (tAug i te (ipI f)) sv E := fun H0 F0 σ H F R X D S => by
  obtain ⟨o, h1, v, rfl, t⟩ := R.get e
  cases t
  refine ⟨.int a, h1, h H0 F0 σ H F R X _ fun v r H1 F1 ⟨b, eb, q⟩ n o => ?_⟩
  subst eb
  cases o
  exact ⟨a, b, rfl, rfl, S.nx _ H1 F1 _ q n.fz (R.store n (r := .d (.int (f a b))) (Tp.int _) rfl i)⟩
/-- a slot's own thing becomes a datum: it is not written any more -/
theorem ws_frz {i : Nat} {at_ : Option Addr} {mo : Mo} (e : sv[i]? = some (.m at_ mo)) (h : WS Γ t (sv.set i (.d mo.dat)) E) : WS Γ t sv E := fun H0 F0 σ H F R X D S => by
  obtain ⟨o, h1, a, u, _, rfl, g, g0, gf, tt⟩ := R.get e
  have s1 : Same F (upd F a u) := same_upd (.inl gf)
  have hi : i < sv.length := (List.getElem?_eq_some_iff.mp e).1
  refine h H0 F0 σ H (upd F a u) ⟨R.ok0, R.nx.frz R.ok0 g0 g (.inl gf), by rw [List.length_set]; exact R.len, fun j s q => ?_, fun j k b qj qk ds' es' ne e1 e2 => ?_⟩ X D (S.mono s1)
  · by_cases z : i = j
    · subst z
      rw [List.getElem?_set_self hi] at q
      cases q
      exact ⟨_, h1, _, rfl, MoOk.tp upd_same (tt.mono s1)⟩
    · rw [List.getElem?_set_ne z] at q
      obtain ⟨o, g1, g2⟩ := R.sl j s q
      refine ⟨o, g1, ?_⟩
      cases s with
      | any => trivial
      | d x => obtain ⟨v, e, t⟩ := g2; exact ⟨v, e, t.mono s1⟩
      | ro ds => obtain ⟨b, zs, e, h, p, t⟩ := g2; exact ⟨b, zs, e, h, p, t.mono s1⟩
      | raw u => exact g2
      | m qe es =>
        obtain ⟨b, zs, hqe, e', h, p, f, t⟩ := g2
        refine ⟨b, zs, hqe, e', h, p, ?_, t.mono s1⟩
        rw [upd_ne]
        · exact f
        · rintro rfl
          subst e'
          exact R.sep i j b _ _ mo es z e q h1 g1
  · have f : ∀ (j : Nat) (qj : Option Addr) (ds' : Mo), (sv.set i (Sv.d mo.dat))[j]? = some (.m qj ds') → sv[j]? = some (.m qj ds') := fun j qj ds' q => by
      by_cases z : i = j
      · subst z
        rw [List.getElem?_set_self hi] at q
        cases q
      · rw [List.getElem?_set_ne z] at q; exact q
    exact R.sep j k b _ _ ds' es' ne (f j _ _ e1) (f k _ _ e2)
/-- less is known of a slot -/
theorem ws_any (i : Nat) (h : WS Γ t (sv.set i .any) E) : WS Γ t sv E := fun H0 F0 σ H F R X D S => h H0 F0 σ H F (R.weak i (fun _ _ z => nomatch z) fun _ _ => trivial) X D S

/-! ### targets -/
def WG (Γ : G) (g : TG) (js : List Nat) (x : D) (sv : List Sv) (Φ : List Sv → Prop) : Prop := ∀ (H0 F0 : Hp) (σ : L2.St) (H F : Hp), Rel Γ.K Γ.p H0 F0 σ H F sv → ∀ v : V, Tp Γ.K F v x → ∀ Q : L2.St → Hp → Prop,
  (∀ σ' sv', Φ sv' → Rel Γ.K Γ.p H0 F0 σ' H F sv' → (∀ k, k ∉ js → σ'[k]? = σ[k]?) → σ'.length = σ.length → Q σ' H) → g v σ H Q
def WGs (Γ : G) (g : TGs) (js : List Nat) (xs : List D) (sv : List Sv) (Φ : List Sv → Prop) : Prop := ∀ (H0 F0 : Hp) (σ : L2.St) (H F : Hp), Rel Γ.K Γ.p H0 F0 σ H F sv → ∀ vs : List V, Tps Γ.K F vs xs → ∀ Q : L2.St → Hp → Prop,
  (∀ σ' sv', Φ sv' → Rel Γ.K Γ.p H0 F0 σ' H F sv' → (∀ k, k ∉ js → σ'[k]? = σ[k]?) → σ'.length = σ.length → Q σ' H) → g vs σ H Q
theorem wg_name {i : Nat} {x : D} {Φ : List Sv → Prop} (q : Φ (sv.set i (.d x))) : WG Γ (gName i) [i] x sv Φ := fun H0 F0 σ H F R v h Q f =>
  f _ _ q (R.put i (s := .d x) ⟨v, rfl, h⟩ fun _ _ e => nomatch e) (fun k hk => by
    rw [List.getElem?_set_ne]
    rintro rfl
    exact hk (by simp)) (List.length_set ..)
theorem wgs_nil {Φ : List Sv → Prop} (q : Φ sv) : WGs Γ gNil [] [] sv Φ := fun H0 F0 σ H F R vs h Q f => by
  cases h
  exact ⟨rfl, f σ sv q R (fun _ _ => rfl) rfl⟩
theorem wgs_cons {g : TG} {gs : TGs} {js ks : List Nat} {x : D} {xs : List D} {Φ : List Sv → Prop} (h : WG Γ g js x sv fun sv' => WGs Γ gs ks xs sv' Φ) : WGs Γ (gCons g gs) (js ++ ks) (x :: xs) sv Φ := fun H0 F0 σ H F R vs hv Q f => by
  cases hv with
  | cons a t =>
    refine ⟨_, _, rfl, h H0 F0 σ H F R _ a _ fun σ' sv' q R' k' l' => q H0 F0 σ' H F R' _ t _ fun σ2 sv2 q2 R2 k2 l2 => f σ2 sv2 q2 R2 (fun k hk => ?_) (l2.trans l')⟩
    rw [List.mem_append] at hk
    exact (k2 k fun z => hk (.inr z)).trans (k' k fun z => hk (.inl z))
theorem wg_tup {n : Nat} {gs : TGs} {js : List Nat} {ds : List D} {Φ : List Sv → Prop} (l : ds.length = n) (h : WGs Γ gs js ds sv Φ) : WG Γ (gTup Γ.K n gs) js (.tup ds) sv Φ := fun H0 F0 σ H F R v hv Q f => by
  cases hv with
  | tup s t => exact ⟨_, _, rfl, sqT_mono R.ok.sub s, t.length.trans l, h H0 F0 σ H F R _ t Q f⟩
theorem ws_asgG {g : TG} {js : List Nat} (h : WE Γ te sv fun r => ∃ x, asD r = some x ∧ WG Γ g js x sv E.nx) : WS Γ (tAsg te g) sv E := fun H0 F0 σ H F R X D S => h H0 F0 σ H F R X _ fun v r H1 F1 ⟨x, e, q⟩ n o => by
  obtain ⟨F2, n2, s2, t2⟩ := o.asD R.ok n e
  exact q H0 F0 σ H1 F2 (R.step n2) v t2 _ fun σ' sv' q' R' _ _ => S.nx σ' H1 F2 sv' q' n2.fz R'

/-! ### what is walked -/
def Walk (Γ : G) (J : It) (ds : List D) (H F : Hp) : Prop := (∀ i, ds.length ≤ i → J.stop i H) ∧ ∀ i x, ds[i]? = some x → J.go i H ∧ ∀ v H', J.yld i H v H' → ∃ F', Nx Γ.K Γ.p H F H' F' ∧ Tp Γ.K F' v x
def WI (Γ : G) (wi : TI) (sv : List Sv) (Φ : List D → Prop) : Prop := ∀ (H0 F0 : Hp) (σ : L2.St) (H F : Hp), Rel Γ.K Γ.p H0 F0 σ H F sv → Exc Γ H0 F0 → ∀ R : It → Hp → Prop,
  (∀ J ds H1 F1, Φ ds → Nx Γ.K Γ.p H F H1 F1 → (∀ H' F', Same F1 F' → Nx Γ.K Γ.p H0 F0 H' F' → Walk Γ J ds H' F') → R J H1) → wi σ H R
theorem walk_list {J : It} {K : PySem.W.Frag} {a : Addr} {xs : List V} {ds : List D} (e : J = Itl Γ.K a) (k : Ok Γ.K Γ.p H F) (s : SqL Γ.K H a xs) (t : Tps Γ.K F xs ds) : Walk Γ J ds H F := by
  subst e
  refine ⟨fun i l => ⟨xs, s, by rw [t.length]; exact l⟩, fun i x e => ?_⟩
  obtain ⟨v, e1, tv⟩ := t.get e
  refine ⟨⟨xs, v, s, e1⟩, fun w H' y => ?_⟩
  obtain ⟨rfl, y⟩ := y
  have := (y xs s).symm.trans e1
  cases this
  exact ⟨F, Nx.refl k, tv⟩
theorem walk_tup {J : It} {K : PySem.W.Frag} {a : Addr} {xs : List V} {ds : List D} (e : J = Itt Γ.K a) (k : Ok Γ.K Γ.p H F) (s : SqT Γ.K H a xs) (t : Tps Γ.K F xs ds) : Walk Γ J ds H F := by
  subst e
  refine ⟨fun i l => ⟨xs, s, by rw [t.length]; exact l⟩, fun i x e => ?_⟩
  obtain ⟨v, e1, tv⟩ := t.get e
  refine ⟨⟨xs, v, s, e1⟩, fun w H' y => ?_⟩
  obtain ⟨rfl, y⟩ := y
  have := (y xs s).symm.trans e1
  cases this
  exact ⟨F, Nx.refl k, tv⟩
/-- a list that stays: handed in, new, or a datum -/
def stL : Rv → Option (List D)
  | .d (.lst ds) => some ds | .l ds => some ds | .n (.lst ds) => some ds | _ => none
theorem wi_list {Φ : List D → Prop} (h : WE Γ te sv fun r => ∃ ds, stL r = some ds ∧ Φ ds) : WI Γ (iList Γ.K te) sv Φ := fun H0 F0 σ H F R X Q f => h H0 F0 σ H F R X _ fun v r H1 F1 ⟨ds, e, q⟩ n o => by
  have dat : ∀ {F2 : Hp}, Nx Γ.K Γ.p H F H1 F2 → Tp Γ.K F2 v (.lst ds) → ∃ a, v = .ref a ∧ (∃ xs, SqL Γ.K H1 a xs) ∧ Q (Itl Γ.K a) H1 := fun {F2} n2 t2 => by
    cases t2 with
    | lst s t =>
      refine ⟨_, rfl, ⟨_, .inl (Rd.mono n2.ok.sub s)⟩, f _ ds H1 F2 q n2 fun H' F' e' n' => ?_⟩
      exact walk_list (K := Γ.K) rfl n'.ok (.inl (Rd.mono n'.ok.sub (Rd.mono e' s))) (t.mono e')
  cases r with
  | d x =>
    cases x with
    | lst es => cases e; exact dat n o
    | _ => cases e
  | l es =>
    cases e
    obtain ⟨a, xs, rfl, s, p, t⟩ := o
    refine ⟨a, rfl, ⟨xs, (R.nx.trans n).sqL p s⟩, f _ ds H1 F1 q n fun H' F' e' n' => ?_⟩
    exact walk_list (K := Γ.K) rfl n'.ok (n'.sqL p s) (t.mono e')
  | n mo =>
    cases mo with
    | lst es =>
      cases e
      obtain ⟨F2, n2, s2, t2⟩ := o.asD R.ok n rfl
      exact dat n2 t2
    | _ => cases e
  | o es => cases e
  | raw u => cases e
theorem wi_tup {Φ : List D → Prop} (h : WE Γ te sv fun r => ∃ ds, r = .d (.tup ds) ∧ Φ ds) : WI Γ (iTup Γ.K te) sv Φ := fun H0 F0 σ H F R X Q f => h H0 F0 σ H F R X _ fun v r H1 F1 ⟨ds, e, q⟩ n o => by
  subst e
  cases o with
  | tup s t =>
    refine ⟨_, rfl, ⟨_, sqT_mono n.ok.sub s⟩, f _ ds H1 F1 q n fun H' F' e' n' => ?_⟩
    exact walk_tup (K := Γ.K) rfl n'.ok (sqT_mono n'.ok.sub (sqT_mono e' s)) (t.mono e')
def rangeD (lo : Int) (n : Nat) : List D := (List.range n).map fun (k : Nat) => D.int (lo + k)
theorem walk_range (k : Ok Γ.K Γ.p H F) (lo : Int) (n : Nat) : Walk Γ (Itr lo n) (rangeD lo n) H F := by
  refine ⟨fun i l => by show n ≤ i; simpa [rangeD] using l, fun i x e => ?_⟩
  unfold rangeD at e
  rw [List.getElem?_map] at e
  cases q : (List.range n)[i]? with
  | none => rw [q] at e; cases e
  | some j =>
    rw [q] at e
    have hi : i < n := by have := (List.getElem?_eq_some_iff.mp q).1; rwa [List.length_range] at this
    have hj : j = i := by have := List.getElem?_range (n := n) (i := i) hi; rw [this] at q; exact (Option.some.inj q).symm
    subst hj
    cases e
    refine ⟨hi, fun v H' y => ?_⟩
    obtain ⟨rfl, rfl⟩ := y
    exact ⟨F, Nx.refl k, .int _⟩
theorem wi_range1 {t : TA} {Φ : List D → Prop} (h : WA Γ t sv fun rs => ∃ n : Int, rs = [.d (.int n)] ∧ -(2 ^ 62) ≤ n ∧ n < 2 ^ 62 ∧ Φ (rangeD 0 n.toNat)) : WI Γ (iRng1 t) sv Φ := fun H0 F0 σ H F R X Q f => h H0 F0 σ H F R X _ fun vs rs H1 F1 ⟨m, e, l1, l2, q⟩ n o => by
  subst e
  obtain ⟨u, rfl, hu⟩ := p1 o
  cases hu
  exact ⟨m, rfl, l1, l2, f _ _ H1 F1 q n fun H' F' _ n' => walk_range n'.ok 0 _⟩
theorem wi_range2 {t : TA} {Φ : List D → Prop} (h : WA Γ t sv fun rs => ∃ i j : Int, rs = [.d (.int i), .d (.int j)] ∧ (-(2 ^ 62) ≤ i ∧ i < 2 ^ 62 ∧ -(2 ^ 62) ≤ j ∧ j < 2 ^ 62) ∧ Φ (rangeD i (j - i).toNat)) : WI Γ (iRng2 t) sv Φ := fun H0 F0 σ H F R X Q f => h H0 F0 σ H F R X _ fun vs rs H1 F1 ⟨i, j, e, l, q⟩ n o => by
  subst e
  obtain ⟨u, w, rfl, hu, hw⟩ := p2 o
  cases hu
  cases hw
  exact ⟨i, j, rfl, l, f _ _ H1 F1 q n fun H' F' _ n' => walk_range n'.ok i _⟩
def signsD (s : Str) : List D := s.cps.toList.map fun c => D.str ⟨#[c]⟩
theorem wi_str {Φ : List D → Prop} (h : WE Γ te sv fun r => ∃ s, r = .d (.str s) ∧ Φ (signsD s)) : WI Γ (iStr te) sv Φ := fun H0 F0 σ H F R X Q f => h H0 F0 σ H F R X _ fun v r H1 F1 ⟨s, e, q⟩ n o => by
  subst e
  cases o
  refine ⟨s, rfl, f _ _ H1 F1 q n fun H' F' _ n' => ⟨fun i l => ?_, fun i x e => ?_⟩⟩
  · have : (signsD s).length = s.cps.toList.length := by simp [signsD]
    rw [this] at l
    simpa [Its] using l
  · unfold signsD at e
    rw [List.getElem?_map] at e
    cases g : s.cps.toList[i]? with
    | none => rw [g] at e; cases e
    | some c =>
      rw [g] at e
      cases e
      have hi : i < s.cps.size := by have := (List.getElem?_eq_some_iff.mp g).1; simpa using this
      refine ⟨by simpa [Its] using hi, fun v H'' y => ?_⟩
      simp only [Its] at y
      obtain ⟨rfl, y⟩ := y
      refine ⟨F', Nx.refl n'.ok, ?_⟩
      have : v = .str ⟨#[c]⟩ := by simp_all
      subst this
      exact .str _
end
end Y

namespace Y
open PySem L2

section
variable {Γ : G} {H0 F0 H F H1 F1 H2 F2 : Hp} {σ : L2.St} {sv : List Sv} {ta tb tc te : TE} {Φ Ψ : Rv → Prop} {x y : Rv} {t u : TS} {E : En}

/-! ### loops -/
theorem ws_for {wi : TI} {g : TG} {body : TS} (h : WI Γ wi sv fun ds => ∃ I : Nat → List Sv → Prop, I 0 sv ∧ (∀ i x sv', ds[i]? = some x → I i sv' → ∃ js, WG Γ g js x sv' fun sv2 => WS Γ body sv2 { E with nx := I (i + 1), ct := I (i + 1), bk := E.nx }) ∧ (∀ sv', I ds.length sv' → E.nx sv')) :
    WS Γ (tFor wi g body) sv E := fun H0 F0 σ H F R X Dd S => h H0 F0 σ H F R X _ fun J ds H1 F1 ⟨I, i0, turn, done⟩ n W => by
  refine ⟨fun i m σ' H' => m = ds.length - i ∧ i ≤ ds.length ∧ ∃ F' sv', Same F1 F' ∧ Rel Γ.K Γ.p H0 F0 σ' H' F' sv' ∧ I i sv', ⟨ds.length, by simp, Nat.zero_le _, F1, sv, Same.refl _, R.step n, i0⟩, ?_⟩
  rintro i m σ' H' ⟨rfl, hi, F', sv', s', R', inv⟩
  have w := W H' F' s' R'.nx
  by_cases hlt : i < ds.length
  · obtain ⟨go, yl⟩ := w.2 i ds[i] (List.getElem?_eq_getElem hlt)
    refine .inr ⟨go, fun σ2 H2 => ∃ F2 sv2, Same F1 F2 ∧ Rel Γ.K Γ.p H0 F0 σ2 H2 F2 sv2 ∧ I (i + 1) sv2, fun σ2 H2 z => ⟨ds.length - (i + 1), by omega, rfl, hlt, z⟩, fun v H'' y => ?_⟩
    obtain ⟨F'', n'', tv⟩ := yl v H'' y
    obtain ⟨js, tg⟩ := turn i ds[i] sv' (List.getElem?_eq_getElem hlt) inv
    refine tg H0 F0 σ' H'' F'' (R'.step n'') v tv _ fun σ2 sv2 q2 R2 _ _ => ?_
    refine q2 H0 F0 σ2 H'' F'' R2 X _ ⟨fun σ3 H3 F3 sv3 q3 s3 R3 => ⟨F3, sv3, (s'.trans n''.fz).trans s3, R3, q3⟩, S.rt, fun σ3 H3 F3 sv3 q3 s3 R3 => ?_, fun σ3 H3 F3 sv3 q3 s3 R3 => ⟨F3, sv3, (s'.trans n''.fz).trans s3, R3, q3⟩⟩
    exact S.nx σ3 H3 F3 sv3 q3 (n.fz.trans ((s'.trans n''.fz).trans s3)) R3
  · have e : i = ds.length := by omega
    subst e
    exact .inl ⟨w.1 _ (Nat.le_refl _), S.nx σ' H' F' sv' (done sv' inv) (n.fz.trans s') R'⟩
theorem ws_while {c : TT} {body : TS} (I : Nat → List Sv → Prop) (i0 : ∃ m, I m sv) (turn : ∀ m sv', I m sv' → WT Γ c sv' fun b => if b = true then WS Γ body sv' { E with nx := fun s => ∃ m', m' < m ∧ I m' s, ct := fun s => ∃ m', m' < m ∧ I m' s, bk := E.nx } else E.nx sv') :
    WS Γ (tWhile c body) sv E := fun H0 F0 σ H F R X Dd S => by
  obtain ⟨m0, i0⟩ := i0
  refine ⟨fun m σ' H' => ∃ F' sv', Same F F' ∧ Rel Γ.K Γ.p H0 F0 σ' H' F' sv' ∧ I m sv', ⟨m0, F, sv, Same.refl _, R, i0⟩, ?_⟩
  rintro m σ' H' ⟨F', sv', s', R', inv⟩
  refine turn m sv' inv H0 F0 σ' H' F' R' X _ fun b H1 F1 q n => ?_
  cases b with
  | true =>
    refine ⟨fun σ2 H2 => ∃ m', m' < m ∧ ∃ F2 sv2, Same F F2 ∧ Rel Γ.K Γ.p H0 F0 σ2 H2 F2 sv2 ∧ I m' sv2, fun σ2 H2 z => z, ?_⟩
    refine q H0 F0 σ' H1 F1 (R'.step n) X _ ⟨fun σ3 H3 F3 sv3 q3 s3 R3 => ?_, S.rt, fun σ3 H3 F3 sv3 q3 s3 R3 => S.nx σ3 H3 F3 sv3 q3 ((s'.trans n.fz).trans s3) R3, fun σ3 H3 F3 sv3 q3 s3 R3 => ?_⟩
    · obtain ⟨m', l, z⟩ := q3
      exact ⟨m', l, F3, sv3, (s'.trans n.fz).trans s3, R3, z⟩
    · obtain ⟨m', l, z⟩ := q3
      exact ⟨m', l, F3, sv3, (s'.trans n.fz).trans s3, R3, z⟩
  | false => exact S.nx σ' H1 F1 sv' q (s'.trans n.fz) (R'.step n)

/-! ### comprehensions -/
def wipeS (sv : List Sv) : List Nat → List Sv
  | [] => sv
  | v :: vs => (wipeS sv vs).set v .any
theorem Rel.none1 (R : Rel Γ.K Γ.p H0 F0 σ H F sv) (i : Nat) : Rel Γ.K Γ.p H0 F0 (σ.set i none) H F (sv.set i .any) where
  ok0 := R.ok0
  nx := R.nx
  len := by rw [List.length_set, List.length_set]; exact R.len
  sl := fun j t e => by
    by_cases q : i = j
    · subst q
      by_cases z : i < sv.length
      · rw [List.getElem?_set_self z] at e
        cases e
        exact ⟨_, List.getElem?_set_self (by rw [← R.len]; exact z), trivial⟩
      · have : (sv.set i Sv.any)[i]? = none := List.getElem?_eq_none (by rw [List.length_set]; omega)
        rw [this] at e; cases e
    · rw [List.getElem?_set_ne q] at e ⊢
      exact R.sl j t e
  sep := fun j k a qj qk ds es ne e1 e2 s1 s2 => by
    have f : ∀ (j : Nat) (qj : Option Addr) (ds' : Mo), (sv.set i Sv.any)[j]? = some (.m qj ds') → i ≠ j ∧ sv[j]? = some (.m qj ds') := fun j qj ds' q => by
      by_cases z : i = j
      · subst z
        have hi : i < sv.length := by
          have := (List.getElem?_eq_some_iff.mp q).1
          rw [List.length_set] at this; exact this
        rw [List.getElem?_set_self hi] at q
        cases q
      · rw [List.getElem?_set_ne z] at q; exact ⟨z, q⟩
    obtain ⟨n1, e1⟩ := f j _ _ e1
    obtain ⟨n2, e2⟩ := f k _ _ e2
    rw [List.getElem?_set_ne n1] at s1
    rw [List.getElem?_set_ne n2] at s2
    exact R.sep j k a _ _ ds es ne e1 e2 s1 s2
theorem Rel.wipe (R : Rel Γ.K Γ.p H0 F0 σ H F sv) : ∀ vs : List Nat, Rel Γ.K Γ.p H0 F0 (wipe σ vs) H F (wipeS sv vs)
  | [] => R
  | v :: vs => (R.wipe vs).none1 v
theorem wipe_get (σ : L2.St) (i : Nat) : ∀ vs : List Nat, (wipe σ vs)[i]? = if i ∈ vs then (if i < σ.length then some none else none) else σ[i]?
  | [] => by simp [wipe]
  | v :: vs => by
    unfold wipe
    rw [List.getElem?_set, wipe_get σ i vs, wipe_length]
    by_cases e : v = i
    · subst e; simp
    · have : ¬ i = v := fun z => e z.symm
      simp [e, this]
theorem wipe_eq {σ τ : L2.St} {vs : List Nat} (l : τ.length = σ.length) (h : ∀ k, k ∉ vs → τ[k]? = σ[k]?) : wipe τ vs = wipe σ vs := by
  refine List.ext_getElem? fun i => ?_
  rw [wipe_get, wipe_get, l]
  by_cases q : i ∈ vs
  · simp [q]
  · simp only [q, if_false]; exact h i q
theorem wipe_wipe (σ : L2.St) (vs : List Nat) : wipe (wipe σ vs) vs = wipe σ vs := wipe_eq (wipe_length _ _) fun k hk => by rw [wipe_get]; simp [hk]
theorem Nx.wr {K : PySem.W.Frag} {p : Option Addr} (k : Ok K p H F) (n : Nx K p H F H1 F1) {a : Addr} {o : HO} (h : H a = Option.none) (hf : F1 a = Option.none) : Nx K p H F (upd H1 a o) F1 where
  fr := fun b u e q => by rw [upd_ne (ne_of_none e h)]; exact n.fr b u e q
  fz := n.fz
  nw := n.nw
  ok := ⟨fun b u e => by rw [upd_ne (ne_of_none e hf)]; exact n.ok.sub b u e, fun q e => by
    obtain ⟨⟨l, ns, i, b, m, s, g1, g2⟩, g3⟩ := n.ok.pool q e
    refine ⟨⟨l, ns, i, b, m, s, ?_, g2⟩, g3⟩
    rw [upd_ne]
    · exact g1
    · rintro rfl
      exact k.ne h e⟩
theorem we_lc {wi : TI} {g : TG} {tt : TT} {vs : List Nat} (h : WI Γ wi sv fun ds => ds.length ≤ sizeLine ∧ ∃ I : Nat → List D → Prop, I 0 [] ∧ (∀ i x acc, ds[i]? = some x → I i acc → ∃ js, (∀ j ∈ js, j ∈ vs) ∧ WG Γ g js x (wipeS sv vs) fun sv2 =>
      WT Γ tt sv2 fun b => if b = true then WE Γ te sv2 fun r => ∃ y, asD r = some y ∧ I (i + 1) (acc ++ [y]) else I (i + 1) acc) ∧ (∀ acc, I ds.length acc → Φ (.nl acc))) :
    WE Γ (tLc wi g tt te vs) sv Φ := fun H0 F0 σ H F R X Q f => h H0 F0 σ H F R X _ fun J ds H1 F1 ⟨lz, I, i0, turn, done⟩ n W A hA => by
  have hA0 : H A = none := n.back hA
  have fA : F1 A = none := n.ok.ofF hA
  refine ⟨fun i m H' => m = ds.length - i ∧ i ≤ ds.length ∧ ∃ F' acc xs, Same F1 F' ∧ Nx Γ.K Γ.p H F H' F' ∧ H' A = some (.lst xs) ∧ F' A = none ∧ Tps Γ.K F' xs acc ∧ acc.length ≤ i ∧ I i acc,
    ⟨ds.length, by simp, Nat.zero_le _, F1, [], [], Same.refl _, n.wr R.ok hA0 fA, upd_same, fA, .nil, Nat.le_refl _, i0⟩, ?_⟩
  rintro i m H' ⟨rfl, hi, F', acc, xs, s', n', hx, hf, tx, hl, inv⟩
  have w := W H' F' s' (R.nx.trans n')
  by_cases hlt : i < ds.length
  · obtain ⟨go, yl⟩ := w.2 i ds[i] (List.getElem?_eq_getElem hlt)
    refine .inr ⟨go, fun H2 => ∃ F2 acc2 xs2, Same F1 F2 ∧ Nx Γ.K Γ.p H F H2 F2 ∧ H2 A = some (.lst xs2) ∧ F2 A = none ∧ Tps Γ.K F2 xs2 acc2 ∧ acc2.length ≤ i + 1 ∧ I (i + 1) acc2, fun H2 z => ⟨ds.length - (i + 1), by omega, rfl, hlt, z⟩, fun v H'' y => ?_⟩
    obtain ⟨F'', n'', tv⟩ := yl v H'' y
    obtain ⟨js, hjs, tg⟩ := turn i ds[i] acc (List.getElem?_eq_getElem hlt) inv
    have R'' := ((R.step n').step n'').wipe vs
    have pA : Γ.p ≠ some A := R.ok.ne hA0
    refine tg H0 F0 _ H'' F'' R'' v tv _ fun σ2 sv2 q2 R2 k2 l2 => ⟨?_, ?_⟩
    · have e : wipe σ2 vs = wipe (wipe σ vs) vs := by
        refine wipe_eq l2 fun k hk => k2 k fun z => hk (hjs k z)
      rw [e, wipe_wipe]
    · refine q2 H0 F0 σ2 H'' F'' R2 X _ fun b H3 F3 q3 n3 => ?_
      cases b with
      | true =>
        refine q3 H0 F0 σ2 H3 F3 (R2.step n3) X _ fun w r H4 F4 ⟨y, ey, q4⟩ n4 o4 => ?_
        obtain ⟨F5, n5, s5, t5⟩ := o4.asD (R2.step n3).ok n4 ey
        have m := (n''.trans n3).trans n5
        have hA4 : H4 A = some (.lst xs) := m.fr A _ hx pA
        exact ⟨xs, hA4, by rw [tx.length]; omega, F5, acc ++ [y], xs ++ [w], s'.trans m.fz, (n'.trans m).wr R.ok hA0 (m.none hx hf), upd_same, m.none hx hf, (tx.mono m.fz).append (.cons t5 .nil), by rw [List.length_append]; exact Nat.add_le_add hl (Nat.le_refl 1), q4⟩
      | false =>
        have m := n''.trans n3
        exact ⟨F3, acc, xs, s'.trans m.fz, n'.trans m, m.fr A _ hx pA, m.none hx hf, tx.mono m.fz, Nat.le_succ_of_le hl, q3⟩
  · have e : i = ds.length := by omega
    subst e
    exact .inl ⟨w.1 _ (Nat.le_refl _), f _ _ H' F' (done acc inv) n' ⟨A, .lst xs, rfl, hA0, hx, hf, tx⟩⟩
end
end Y

namespace Y
open PySem L2 PySem.Spec PyProof.Rows

/-! ### what a def promises, in data -/
/-- the callers' values as a callee takes them -/
inductive Pas : Rv → Rv → Prop where
  | d (x : D) : Pas (.d x) (.d x)
  | l (ds : List D) : Pas (.l ds) (.l ds)
  | ol (ds : List D) : Pas (.ol ds) (.l ds)
  | nl (ds : List D) : Pas (.nl ds) (.l ds)
  | dl (ds : List D) : Pas (.d (.lst ds)) (.l ds)
  | raw (u : V) : Pas (.raw u) (.raw u)
abbrev DSp := Option Addr → List Rv → (Rv → Prop) → Prop
def FSp (K : PySem.W.Frag) (sp : DSp) : Sp := fun vs H Q _ => ∃ (p : Option Addr) (F : Hp) (rs : List Rv) (Φ : Rv → Prop), Ok K p H F ∧ Paired (RvOk K p H H H F) vs rs ∧ sp p rs Φ ∧
  ∀ v r H' F', Φ r → isRet r = true → Nx K p H F H' F' → RvOk K p H H H' F' v r → Q v H'
/-- of an __init__: the new instance's attributes -/
abbrev ISpD := Option Addr → List Rv → (List Str → List D → Prop) → Prop
def ISp (K : PySem.W.Frag) (C : Addr) (sp : ISpD) : Sp := fun vs H Q _ => ∃ (p : Option Addr) (F H1 : Hp) (x dx : Addr) (vs' : List V) (rs : List Rv) (Φ : List Str → List D → Prop),
  vs = .ref x :: vs' ∧ H = upd (upd H1 dx (.own x)) x (.ins C dx []) ∧ H1 x = none ∧ H1 dx = none ∧ dx ≠ x ∧ Ok K p H1 F ∧ Paired (RvOk K p H1 H1 H1 F) vs' rs ∧ sp p rs Φ ∧
  ∀ ns ds H' F' u, Φ ns ds → Nx K p H1 F H' F' → H' x = some u → F' x = none → MoOk K F' u (.obj C ns ds) → Q .non H'
section
variable {Γ : G} {H0 F0 H F H1 F1 H2 F2 : Hp} {σ : L2.St} {sv : List Sv} {ta tb tc te : TE} {Φ Ψ : Rv → Prop} {x y : Rv} {t u : TS} {E : En}
theorem RvOk.pas (k0 : Ok Γ.K Γ.p H0 F0) (k1 : Ok Γ.K Γ.p H F) (m : Nx Γ.K Γ.p H0 F0 H1 F1) (n : Nx Γ.K Γ.p H F H1 F1) {v : V} {r r' : Rv} (h : RvOk Γ.K Γ.p H0 H H1 F1 v r) (e : Pas r r') : RvOk Γ.K Γ.p H1 H1 H1 F1 v r' := by
  cases e with
  | d x => exact h
  | l ds => obtain ⟨a, xs, e1, h, q, t⟩ := h; exact ⟨a, xs, e1, m.sqL q h, q, t⟩
  | ol ds => obtain ⟨a, u, e1, h, q, t⟩ := h; obtain ⟨xs, rfl, t⟩ := t.lst; exact ⟨a, xs, e1, SqL.of h, q, t⟩
  | nl ds => obtain ⟨a, u, e1, h, g, f, t⟩ := h; obtain ⟨xs, rfl, t⟩ := t.lst; exact ⟨a, xs, e1, SqL.of g, k1.ne h, t⟩
  | dl ds =>
    cases h with
    | @lst a xs _ s t =>
      refine ⟨a, xs, rfl, .inl (Rd.mono n.ok.sub s), ?_, t⟩
      intro e
      obtain ⟨_, h4⟩ := n.ok.pool a e
      rcases s with s | ⟨o, s⟩ <;> (rw [s] at h4; cases h4)
  | raw u => exact h
theorem Paired.pas (k0 : Ok Γ.K Γ.p H0 F0) (k1 : Ok Γ.K Γ.p H F) (m : Nx Γ.K Γ.p H0 F0 H1 F1) (n : Nx Γ.K Γ.p H F H1 F1) : ∀ {vs : List V} {rs rs' : List Rv}, Paired (RvOk Γ.K Γ.p H0 H H1 F1) vs rs → Paired Pas rs rs' → Paired (RvOk Γ.K Γ.p H1 H1 H1 F1) vs rs'
  | _, _, _, .nil, .nil => .nil
  | _, _, _, .cons a t, .cons b s => .cons (a.pas k0 k1 m n b) (Paired.pas k0 k1 m n t s)
theorem we_call {sp : DSp} {E : XK} {t : TA} (h : WA Γ t sv fun rs => ∃ rs', Paired Pas rs rs' ∧ sp Γ.p rs' Φ) : WE Γ (tCall (FSp Γ.K sp) [] E t) sv Φ := fun H0 F0 σ H F R X Q f => h H0 F0 σ H F R X _ fun vs rs H1 F1 ⟨rs', pp, q⟩ n os => by
  show FSp Γ.K sp (vs ++ []) H1 Q E
  rw [List.append_nil]
  refine ⟨Γ.p, F1, rs', Φ, n.ok, Paired.pas R.ok0 R.ok (R.nx.trans n) n os pp, q, fun v r H' F' q' e n' o => f v r H' F' q' (n.trans n') ?_⟩
  cases r with
  | d x => exact o
  | l ds => cases e
  | o m => cases e
  | n m => obtain ⟨a, u, e1, h1, g⟩ := o; exact ⟨a, u, e1, n.back h1, g⟩
  | raw u => exact o
/-- C(..), C's __init__ by its promise -/
theorem we_mk {C : Addr} {sp : ISpD} {E : XK} {t : TA} (h : WA Γ t sv fun rs => ∃ rs', Paired Pas rs rs' ∧ sp Γ.p rs' fun ns ds => Φ (.n (.obj C ns ds))) : WE Γ (tMake C (ISp Γ.K C sp) [] E t) sv Φ := fun H0 F0 σ H F R X Q f => h H0 F0 σ H F R X _ fun vs rs H1 F1 ⟨rs', pp, q⟩ n os => by
  intro x dx hx hdx ne
  show ISp Γ.K C sp (.ref x :: (vs ++ [])) _ _ E
  rw [List.append_nil]
  exact ⟨Γ.p, F1, H1, x, dx, vs, rs', _, rfl, rfl, hx, hdx, ne, n.ok, Paired.pas R.ok0 R.ok (R.nx.trans n) n os pp, q, fun ns ds H' F' u q' n' hu hf mo => ⟨rfl, f _ _ H' F' q' (n.trans n') ⟨x, u, rfl, n.back hx, hu, hf, mo⟩⟩⟩
/-- C(*e) -/
def tMakeS (K : PySem.W.Frag) (C : Addr) (sp : Sp) (E : XK) (te : TE) : TE := fun σ H Q => te σ H fun y H1 => ∃ a xs, y = V.ref a ∧ (SqT K H1 a xs ∨ SqL K H1 a xs) ∧ ∀ x dx, H1 x = none → H1 dx = none → dx ≠ x →
  sp (.ref x :: xs) (upd (upd H1 dx (.own x)) x (.ins C dx [])) (fun v H2 => v = .non ∧ Q (.ref x) H2) E
theorem pe_makeS {X : Cx} {k j : Nat} {C : Addr} {x : Str} {sp : Sp} {p pos sp_ : Pos} {e : Expr} {te : TE} (c : C8.Mak X.prog X.w X.K X.mg X.base k x C sp []) (hr : Room j X.A) (hk : k + 1 ≤ j) (hg : Gl X x) (he : PE X e te) (hdb : (x == ("__debug__" : Str)) = false := by decide)
    (hst : starEach [.Starred e sp_] X.env = [(true, eval e X.env)] := by rfl) : PE X (.Call (.Name x p) [.Starred e sp_] [] pos) (tMakeS X.K C sp C8.E0 te) := by
  obtain ⟨f, fd, ps, ds, M, F, hm, b, d⟩ := c.ex
  refine ⟨fun pins s σ H Q I h => ?_⟩
  refine wpAny_Call_Name_kw (ld_glob I hg hm ?_ hdb)
  refine PySem.W.callWith_S (h₀ := X.base) I.ok.mod.kin M.kp (thn (he.run pins s σ H _ I h) fun v s1 ⟨y, H1, I1, ry, a, xs, ey, hxs, q⟩ => ?_) hst
  subst ey
  obtain rfl : v = Value.ref a := ry
  refine StX.star_any I1 hxs fun us s2 I2 rv => ⟨I2.kIn, ?_⟩
  cases d
  exact run_make M F (hr.mono hk) b .nil C8.pass0 I2 rv (by rw [List.append_nil]; exact q)
theorem tps_pair {K : PySem.W.Frag} {p : Option Addr} {H0 H1 H2 F : Hp} : ∀ {xs : List V} {ds : List D}, Tps K F xs ds → Paired (RvOk K p H0 H1 H2 F) xs (ds.map Rv.d)
  | _, _, .nil => .nil
  | _, _, .cons a t => .cons a (tps_pair t)
theorem we_mkS {C : Addr} {sp : ISpD} {E : XK} (h : WE Γ te sv fun r => ∃ ds, r = .d (.tup ds) ∧ sp Γ.p (ds.map Rv.d) fun ns ds => Φ (.n (.obj C ns ds))) : WE Γ (tMakeS Γ.K C (ISp Γ.K C sp) E te) sv Φ := fun H0 F0 σ H F R X Q f => h H0 F0 σ H F R X _ fun v r H1 F1 ⟨ds, e, q⟩ n o => by
  subst e
  cases o with
  | tup s t =>
    refine ⟨_, _, rfl, .inl (sqT_mono n.ok.sub s), fun x dx hx hdx ne => ?_⟩
    exact ⟨Γ.p, F1, H1, x, dx, _, _, _, rfl, rfl, hx, hdx, ne, n.ok, tps_pair t, q, fun ns ds H' F' u q' n' hu hf mo => ⟨rfl, f _ _ H' F' q' (n.trans n') ⟨x, u, rfl, n.back hx, hu, hf, mo⟩⟩⟩
/-! ### attributes -/
def asO : Rv → Option (Addr × List Str × List D)
  | .d (.obj C ns ds) => some (C, ns, ds)
  | .o (.obj C ns ds) => some (C, ns, ds)
  | .n (.obj C ns ds) => some (C, ns, ds)
  | _ => none
theorem lookup_tps {K : PySem.W.Frag} {F : Hp} {f : Str} {d : D} : ∀ {fs : List (Str × V)} {ns : List Str} {ds : List D}, fs.map (·.1) = ns → Tps K F (fs.map (·.2)) ds → (ns.zip ds).lookup f = some d → ∃ v, fs.lookup f = some v ∧ Tp K F v d
  | [], _, _, e, t, h => by subst e; cases h
  | (g, v) :: r, _, _, e, t, h => by
    subst e
    cases t with
    | cons a t =>
      rw [List.map_cons, List.zip_cons_cons, List.lookup_cons] at h
      rw [List.lookup_cons]
      cases q : f == g with
      | true => rw [q] at h; cases h; exact ⟨v, rfl, a⟩
      | false => rw [q] at h; exact lookup_tps rfl t h
theorem we_fld {f : Str} (h : WE Γ ta sv fun r => ∃ C ns ds d, asO r = some (C, ns, ds) ∧ Cls Γ.K C ∧ NoAttr Γ.K C f ∧ (ns.zip ds).lookup f = some d ∧ Φ (.d d)) : WE Γ (tFld Γ.K ta f) sv Φ := fun H0 F0 σ H F R X Q k => h H0 F0 σ H F R X _ fun v r H1 F1 ⟨C, ns, ds, d, e, c, na, l, q⟩ n o => by
  have fin : ∀ {a : Addr} {u : HO}, v = .ref a → H1 a = some u → MoOk Γ.K F1 u (.obj C ns ds) → ∃ a C' dx fs w, v = .ref a ∧ H1 a = some (.ins C' dx fs) ∧ Cls Γ.K C' ∧ NoAttr Γ.K C' f ∧ fs.lookup f = some w ∧ Q w H1 := fun {a u} ev ha mo => by
    cases u <;> first | exact mo.elim | skip
    obtain ⟨rfl, m1, m2⟩ := mo
    obtain ⟨w, lw, tw⟩ := lookup_tps m1 m2 l
    exact ⟨a, _, _, _, w, ev, ha, c, na, lw, k _ _ H1 F1 q n tw⟩
  cases r with
  | d x =>
    cases x with
    | obj C' ns' ds' =>
      cases e
      cases o with
      | obj g1 g2 g3 => exact fin rfl (n.ok.sub _ _ g1) ⟨rfl, g2, g3⟩
    | _ => cases e
  | o m =>
    cases m with
    | obj C' ns' ds' => cases e; obtain ⟨a, u, ev, ha, _, mo⟩ := o; exact fin ev ha mo
    | _ => cases e
  | n m =>
    cases m with
    | obj C' ns' ds' => cases e; obtain ⟨a, u, ev, _, ha, _, mo⟩ := o; exact fin ev ha mo
    | _ => cases e
  | l ds' => cases e
  | raw u => cases e
theorem putF_new {f : Str} {v : V} : ∀ {fs : List (Str × V)}, f ∉ fs.map (·.1) → putF f v fs = fs ++ [(f, v)]
  | [], _ => rfl
  | (g, x) :: r, h => by
    rw [List.map_cons, List.mem_cons, not_or] at h
    show (if g = f then _ else _) = _
    rw [if_neg (fun e => h.1 e.symm), putF_new h.2]
    rfl
/-- self.f = e, f a new attribute -/
theorem ws_fld {i : Nat} {at_ : Option Addr} {C : Addr} {ns : List Str} {ds : List D} {f : Str} (e : sv[i]? = some (.m at_ (.obj C ns ds))) (c : Cls Γ.K C) (na : NoAttr Γ.K C f) (nf : f ∉ ns) (l : ns.length < 1000)
    (h : WE Γ te sv fun r => ∃ x, asD r = some x ∧ E.nx (sv.set i (.m at_ (.obj C (ns ++ [f]) (ds ++ [x]))))) : WS Γ (sFld Γ.K (tVar i) te f) sv E := fun H0 F0 σ H F R X Dd S => h H0 F0 σ H F R X _ fun v r H1 F1 ⟨x, ex, q⟩ n o => by
  obtain ⟨F2, n2, s2, t2⟩ := o.asD R.ok n ex
  have R2 := R.step n2
  obtain ⟨o', h1, a, u, _, rfl, g, g0, gf, mo⟩ := R2.get e
  cases u <;> first | exact mo.elim | skip
  rename_i C' dx fs
  obtain ⟨rfl, m1, m2⟩ := mo
  refine ⟨.ref a, h1, a, _, dx, fs, rfl, g, c, na, by rw [← m1, List.length_map] at l; exact l, ?_⟩
  have pf : putF f v fs = fs ++ [(f, v)] := putF_new (by rw [m1]; exact nf)
  rw [pf]
  refine S.nx σ _ F2 _ q n2.fz (R2.wr (m' := .obj _ (ns ++ [f]) (ds ++ [x])) e h1 g g0 gf ⟨rfl, ?_, ?_⟩)
  · rw [List.map_append, m1]; rfl
  · rw [List.map_append]; exact m2.append (.cons t2 .nil)

/-! ### a def by its body -/
def toSv : Rv → Sv
  | .d x => .d x | .l ds => .ro ds | .raw u => .raw u | _ => .any
def startS (N : List Str) (rs : List Rv) : List Sv := rs.map toSv ++ List.replicate (N.length - rs.length) .any
theorem pair_get {R : V → Rv → Prop} : ∀ {vs : List V} {rs : List Rv}, Paired R vs rs → ∀ {i : Nat} {r : Rv}, rs[i]? = some r → ∃ v, vs[i]? = some v ∧ R v r
  | _, _, .nil, i, r, e => by simp at e
  | _, _, .cons a t, 0, r, e => by simp at e; subst e; exact ⟨_, rfl, a⟩
  | _, _, .cons a t, i + 1, r, e => by
    obtain ⟨v, h1, h2⟩ := pair_get t (i := i) (r := r) (by simpa using e)
    exact ⟨v, by simpa using h1, h2⟩
theorem pair_len {R : V → Rv → Prop} {vs : List V} {rs : List Rv} (h : Paired R vs rs) : vs.length = rs.length := Paired.length h
theorem noM (r : Rv) (q : Option Addr) (m : Mo) : toSv r ≠ .m q m := by cases r <;> intro h <;> cases h
theorem start_rel {K : PySem.W.Frag} {p : Option Addr} (k : Ok K p H F) {N : List Str} {vs : List V} {rs : List Rv} (h : Paired (RvOk K p H H H F) vs rs) : Rel K p H F (L2.start N vs) H F (startS N rs) where
  ok0 := k
  nx := Nx.refl k
  len := by unfold L2.start startS; rw [List.length_append, List.length_append, List.length_map, List.length_map, List.length_replicate, List.length_replicate, pair_len h]
  sl := fun i s e => by
    unfold startS at e
    unfold L2.start
    have lv := pair_len h
    by_cases hi : i < rs.length
    · rw [List.getElem?_append_left (by rw [List.length_map]; exact hi), List.getElem?_map] at e
      rw [List.getElem?_append_left (by rw [List.length_map, lv]; exact hi), List.getElem?_map]
      obtain ⟨v, e1, o⟩ := pair_get h (List.getElem?_eq_getElem hi)
      rw [List.getElem?_eq_getElem hi] at e
      cases e
      rw [e1]
      refine ⟨some v, rfl, ?_⟩
      generalize rs[i] = ri at o ⊢
      cases ri with
      | d x => exact ⟨v, rfl, o⟩
      | l ds => obtain ⟨a, xs, rfl, z⟩ := o; exact ⟨a, xs, rfl, z⟩
      | raw u => exact congrArg some o
      | o m => trivial
      | n m => trivial
    · rw [List.getElem?_append_right (by rw [List.length_map]; omega), List.getElem?_replicate] at e
      split at e
      · rename_i hl
        cases e
        refine ⟨none, ?_, trivial⟩
        rw [List.getElem?_append_right (by rw [List.length_map]; omega), List.getElem?_replicate]
        rw [List.length_map] at hl ⊢
        rw [lv, if_pos hl]
      · cases e
  sep := fun i j a q1 q2 ds es ne e1 => by
    unfold startS at e1
    have : Sv.m q1 ds ∈ rs.map toSv ++ List.replicate (N.length - rs.length) .any := List.mem_of_getElem? e1
    rw [List.mem_append] at this
    rcases this with z | z
    · obtain ⟨r, _, q⟩ := List.mem_map.mp z
      exact absurd q (noM r q1 ds)
    · have := List.eq_of_mem_replicate z
      cases this
theorem exc0 {K : PySem.W.Frag} {p : Option Addr} : Exc ⟨K, p, fun _ _ _ _ => False, fun _ _ => False⟩ H0 F0 := fun _ _ _ _ _ _ _ h => h.elim
/-- no exception -/
abbrev g0 (K : PySem.W.Frag) (p : Option Addr) : G := ⟨K, p, fun _ _ _ _ => False, fun _ _ => False⟩
end
section
variable {P : Program} {w : World} {K : PySem.W.Frag} {mg : Str → Option Value} {base : Heap}
theorem cal_ws {x : Str} {st : Stmt} {f : Addr} {fd : FuncData} {N ps : List Str} {k : Nat} {sp : DSp} (F : C8.Def K mg x st f fd) (b : Binds K fd ps []) (S : FnScope N ps (C8.fnScope st)) (len : ∀ p rs Φ, sp p rs Φ → rs.length = ps.length)
    (hbody : ∀ (cdv : Value) (A : Around) (outer : List Env) (s : Shared) (H : Hp) (E : XK), Room k (A.deeper (envOfC x (C8.fnScope st) s.heap.objs.size f cdv)) → ∀ (p : Option Addr) (rs : List Rv) (Φ : Rv → Prop), sp p rs Φ →
      ∃ t, PSs (cxOf C8.CX0 P w K mg base N x (C8.fnScope st) f cdv A outer s H E).nox (C8.fnBody st) t ∧ WS (g0 K p) t (startS N rs) { nx := fun _ => Φ (.d .non), rt := fun r _ => Φ r }) : C8.Cal P w K mg base (k + 1) x (FSp K sp) [] := by
  refine C8.cal0 F b .nil S (fun vs H Q E h => ?_) fun cdv A outer s H vs Q E hr h => ?_
  · obtain ⟨p, F, rs, Φ, k, pp, q, _⟩ := h
    rw [pair_len pp]; exact len p rs Φ q
  · obtain ⟨p, F, rs, Φ, k, pp, q, fin⟩ := h
    obtain ⟨t, h1, h2⟩ := hbody cdv A outer s H E hr p rs Φ q
    refine ⟨t, h1, h2 H F _ H F (start_rel k pp) exc0 _ ⟨fun σ' H' F' sv' q' s' R' => fin .non (.d .non) H' F' q' rfl R'.nx .non, fun v r σ' H' F' sv' q' e n o => fin v r H' F' q' e n.nx o, fun _ _ _ _ z => z.elim, fun _ _ _ _ z => z.elim⟩⟩
end
end Y

namespace Y
open PySem L2 PySem.Spec PyProof.Rows
/-! ### operators for every kind -/
def rAddS2 : R2 := fun x y H Q => ∃ i j, x = .str i ∧ y = .str j ∧ i.length + j.length ≤ sizeLine ∧ Q (.str (i ++ j)) H
def rPlus (K : PySem.W.Frag) : R2 := fun x y H Q => rI0 (fun i j => .int (i + j)) x y H Q ∨ rAddS2 x y H Q ∨ rCatT K x y H Q ∨ rCat x y H Q
/-- x is True, whatever x is -/
def rIsA : R2 := fun x y H Q => ∃ b : Bool, y = .bl b ∧ Q (.bl (decide (x = .bl b))) H
section
variable {X : Cx}
theorem op_plus : OpR X (binaryOp .Add) (rPlus X.K) := op_add.or (op_add_str.or (op_catT.or op_cat))
theorem op_isA : OpR X (compareOp .Is) rIsA := by
  intro pins s σ H x y v u Q I rx ry h
  obtain ⟨b, rfl, q⟩ := h
  cases (show u = Value.bool b from ry)
  by_cases e : x = .bl b
  · subst e
    cases (show v = Value.bool b from rx)
    exact wpAny_is_self rfl ⟨.bl true, H, I, rfl, by simpa using q⟩
  · refine wpAny_is_other ?_ (fun z => ?_) ⟨.bl false, H, I, rfl, by simpa [e] using q⟩
    · cases x <;> first | (cases rx; rfl) | (obtain ⟨t, rfl⟩ := rx; rfl)
    · subst z
      exact e (by have := rx.abs; exact (Option.some.inj this).symm)
end
section
variable {Γ : G} {x y : Rv} {Φ : Rv → Prop}
theorem ro_plusI {i j : Int} (q : Φ (.d (.int (i + j)))) : RO Γ (rPlus Γ.K) (.d (.int i)) (.d (.int j)) Φ := ro_or1 (ro_I0 rfl q)
theorem ro_plusS {i j : Str} (l : i.length + j.length ≤ sizeLine) (q : Φ (.d (.str (i ++ j)))) : RO Γ (rPlus Γ.K) (.d (.str i)) (.d (.str j)) Φ := ro_or2 (ro_or1 (ro_addS l q))
theorem ro_plusT {ds es : List D} (h : ds ≠ []) (l : ds.length + es.length ≤ sizeLine) (q : Φ (.d (.tup (ds ++ es)))) : RO Γ (rPlus Γ.K) (.d (.tup ds)) (.d (.tup es)) Φ := ro_or2 (ro_or2 (ro_or1 (ro_catT h l q)))
theorem ro_plusL {ds es : List D} (hx : x = .ol ds ∨ x = .nl ds) (hy : y = .ol es ∨ y = .nl es) (l : ds.length + es.length ≤ sizeLine) (q : Φ (.nl (ds ++ es))) : RO Γ (rPlus Γ.K) x y Φ := ro_or2 (ro_or2 (ro_or2 (ro_cat hx hy l q)))
def isBlD (b : Bool) : D → Bool
  | .bl c => decide (c = b) | _ => false
theorem ro_isA {d : D} {b : Bool} (q : Φ (.d (.bl (isBlD b d)))) : RO Γ rIsA (.d d) (.d (.bl b)) Φ := fun H0 F0 H F H1 F1 u v A hu hv Q f => by
  cases hv
  refine ⟨b, rfl, f.val A (r := .d _) ?_ q⟩
  cases hu <;> first | (simp only [reduceCtorEq, decide_false]; exact .bl false) | skip
  rename_i c
  show Tp _ _ (.bl (decide (V.bl c = V.bl b))) (.bl (decide (c = b)))
  have : decide (V.bl c = V.bl b) = decide (c = b) := by simp
  rw [this]; exact .bl _
theorem ro_ix1 {ds : List D} {i : Int} {d : D} (hx : asL x = some ds) (h : atI ds i = some d) (q : Φ (.d d)) : RO Γ (rIx Γ.K) x (.d (.int i)) Φ := ro_or1 (ro_ixL hx h q)
theorem ro_ix2 {ds : List D} {i : Int} {d : D} (h : atI ds i = some d) (q : Φ (.d d)) : RO Γ (rIx Γ.K) (.d (.tup ds)) (.d (.int i)) Φ := ro_or2 (ro_or1 (ro_ixT h q))
theorem ro_ix3 {z : Str} {i : Int} {c : Nat} (l : z.length ≤ sizeLine) (h : atI z.cps.toList i = some c) (q : Φ (.d (.str ⟨#[c]⟩))) : RO Γ (rIx Γ.K) (.d (.str z)) (.d (.int i)) Φ := ro_or2 (ro_or2 (ro_ixS l h q))
end
/-- len of anything -/
def rLenA (K : PySem.W.Frag) : List V → Hp → VK → Prop := fun xs H Q => (∃ p ys, xs = [.ref p] ∧ (SqL K H p ys ∨ SqT K H p ys) ∧ Q (.int ys.length) H) ∨ (∃ z, xs = [.str z] ∧ z.length ≤ sizeLine ∧ Q (.int z.length) H)
theorem call_lenA {X : Cx} : CallR X (.builtin "len") (rLenA X.K) := call_len_seq.or call_len_str
theorem rc_len1 {Γ : G} {x : Rv} {Φ : Rv → Prop} {ds : List D} (hx : asL x = some ds ∨ x = .d (.tup ds)) (q : Φ (.d (.int ds.length))) : RC Γ (rLenA Γ.K) [x] Φ := rc_or1 (rc_len_seq hx q)
theorem rc_len2 {Γ : G} {Φ : Rv → Prop} {z : Str} (l : z.length ≤ sizeLine) (q : Φ (.d (.int z.length))) : RC Γ (rLenA Γ.K) [.d (.str z)] Φ := rc_or2 (rc_len_str l q)
def rAbs : List V → Hp → VK → Prop := fun xs H Q => ∃ i, xs = [.int i] ∧ Q (.int (if i < 0 then -i else i)) H
def rMax2 : List V → Hp → VK → Prop := fun xs H Q => ∃ i j, xs = [.int i, .int j] ∧ Q (.int (if j > i then j else i)) H
def rMin2 : List V → Hp → VK → Prop := fun xs H Q => ∃ i j, xs = [.int i, .int j] ∧ Q (.int (if j < i then j else i)) H
def rIntA : List V → Hp → VK → Prop := fun xs H Q => (∃ i, xs = [.int i] ∧ Q (.int i) H) ∨ ∃ k, xs = [.bl k] ∧ Q (.int (if k then 1 else 0)) H
def rStrI : List V → Hp → VK → Prop := fun xs H Q => ∃ i, xs = [.int i] ∧ i.natAbs.log2 < 1920 ∧ Q (.str (toString i)) H
def rListA (K : PySem.W.Frag) : List V → Hp → VK → Prop := fun xs H Q => ∃ p ys, xs = [.ref p] ∧ (SqL K H p ys ∨ SqT K H p ys) ∧ ∀ l, H l = none → Q (.ref l) (upd H l (.lst ys))
def rTupA (K : PySem.W.Frag) : List V → Hp → VK → Prop := fun xs H Q => ∃ p ys, xs = [.ref p] ∧ ((SqL K H p ys ∧ ∀ l, H l = none → Q (.ref l) (upd H l (.tup ys))) ∨ (SqT K H p ys ∧ Q (.ref p) H))
def rJoinA (K : PySem.W.Frag) : V → List V → Hp → VK → Prop := fun x xs H Q => ∃ a p, ∃ ys : List Str, x = .str a ∧ xs = [.ref p] ∧ (SqL K H p (ys.map V.str) ∨ SqT K H p (ys.map V.str)) ∧ (ys.map (·.length)).sum + ys.length * a.length ≤ 16777216 ∧ Q (.str (Txt.join a ys)) H
section
variable {X : Cx}
theorem call_absA : CallR X (.builtin "abs") rAbs := call_abs
theorem call_maxA (hc : X.calm = true) : CallR X (.builtin "max") rMax2 := call_max2 hc
theorem call_minA (hc : X.calm = true) : CallR X (.builtin "min") rMin2 := call_min2 hc
theorem call_intA : CallR X (.type "int") rIntA := call_int1
theorem call_strA : CallR X (.type "str") rStrI := call_str_int
theorem call_listA : CallR X (.type "list") (rListA X.K) := call_list_of
theorem call_tupleA : CallR X (.type "tuple") (rTupA X.K) := call_tuple_of
theorem pe_joinA {o e : Expr} {to te : TE} {apos pos : Pos} (ho : PE X o to) (he : PE X e te)
    (hbase : attributeBase o "join" X.env (eval o X.env) = eval o X.env := by rfl) (hline : (apos.endLine == pos.line) = true := by rfl) (hs : starEach [e] X.env = [(false, eval e X.env)] := by rfl) :
    PE X (.Call (.Attribute o "join" apos) [e] [] pos) (tM1 (rJoinA X.K) to te) := pe_join ho he hs hbase hline
end
section
variable {Γ : G} {x y : Rv} {Φ : Rv → Prop}
theorem rcA_abs {i : Int} (q : Φ (.d (.int (if i < 0 then -i else i)))) : RC Γ rAbs [.d (.int i)] Φ := rc_abs q
theorem rcA_max {i j : Int} (q : Φ (.d (.int (if j > i then j else i)))) : RC Γ rMax2 [.d (.int i), .d (.int j)] Φ := rc_max q
theorem rcA_min {i j : Int} (q : Φ (.d (.int (if j < i then j else i)))) : RC Γ rMin2 [.d (.int i), .d (.int j)] Φ := rc_min q
theorem rcA_intI {i : Int} (q : Φ (.d (.int i))) : RC Γ rIntA [.d (.int i)] Φ := rc_intI q
theorem rcA_intB {b : Bool} (q : Φ (.d (.int (if b then 1 else 0)))) : RC Γ rIntA [.d (.bl b)] Φ := rc_intB q
theorem rcA_str {i : Int} (l : i.natAbs.log2 < 1920) (q : Φ (.d (.str (toString i)))) : RC Γ rStrI [.d (.int i)] Φ := rc_strI l q
theorem rcA_list {ds : List D} (hx : asL x = some ds ∨ x = .d (.tup ds)) (q : Φ (.nl ds)) : RC Γ (rListA Γ.K) [x] Φ := rc_list hx q
theorem rcA_tuple {ds : List D} (hx : asL x = some ds ∨ x = .d (.tup ds)) (q : Φ (.d (.tup ds))) : RC Γ (rTupA Γ.K) [x] Φ := rc_tuple hx q
theorem rmA_join {z : Str} {ss : List Str} (hy : asL y = some (ss.map D.str) ∨ y = .d (.tup (ss.map D.str))) (l : (ss.map (·.length)).sum + ss.length * z.length ≤ 16777216) (q : Φ (.d (.str (Txt.join z ss)))) : RM Γ (rJoinA Γ.K) (.d (.str z)) [y] Φ := rm_join hy l q
end
/-- the built-ins that no module hides -/
structure Blt (mg : Str → Option Value) : Prop where
  len : mg "len" = none
  int : mg "int" = none
  str : mg "str" = none
  abs : mg "abs" = none
  max : mg "max" = none
  min : mg "min" = none
  list : mg "list" = none
  tuple : mg "tuple" = none
  range : mg "range" = none
  isinstance : mg "isinstance" = none
  bool : mg "bool" = none
/-- a def of the text, which may be called by its name -/
structure Dn (K : PySem.W.Frag) (mg : Str → Option Value) (x : Str) (st : Stmt) (ps : List Str) : Prop where
  ex : ∃ (f : Addr) (fd : FuncData), C8.Def K mg x st f fd ∧ Binds K fd ps []
section
variable {P : Program} {w : World} {K : PySem.W.Frag} {mg : Str → Option Value} {base : Heap}
theorem Dn.cal {x : Str} {st : Stmt} {N ps : List Str} {k : Nat} {sp : DSp} (F : Dn K mg x st ps) (S : FnScope N ps (C8.fnScope st)) (len : ∀ p rs Φ, sp p rs Φ → rs.length = ps.length)
    (hbody : ∀ (f : Addr) (cdv : Value) (A : Around) (outer : List Env) (s : Shared) (H : Hp) (E : XK), Room k (A.deeper (envOfC x (C8.fnScope st) s.heap.objs.size f cdv)) → ∀ (p : Option Addr) (rs : List Rv) (Φ : Rv → Prop), sp p rs Φ →
      ∃ t, PSs (cxOf C8.CX0 P w K mg base N x (C8.fnScope st) f cdv A outer s H E).nox (C8.fnBody st) t ∧ WS (g0 K p) t (startS N rs) { nx := fun _ => Φ (.d .non), rt := fun r _ => Φ r }) : C8.Cal P w K mg base (k + 1) x (FSp K sp) [] := by
  obtain ⟨f, fd, D, b⟩ := F.ex
  exact cal_ws D b S len (hbody f)
end
end Y

namespace Y
open PySem L2 PySem.Spec PyProof.Rows
/-! ### a list that is handed in to be changed: the pool -/
def del (H : Hp) (q : Addr) : Hp := fun a => if a = q then none else H a
theorem del_ne {H : Hp} {a q : Addr} (h : a ≠ q) : del H q a = H a := if_neg h
theorem del_same {H : Hp} {q : Addr} : del H q q = none := if_pos rfl
def poolD (ns : List Int) (i b n s : Int) : List D := [.lst (ns.map D.int), .int i, .int b, .int n, .int s]
section
variable {K : PySem.W.Frag} {q : Addr} {H F H' F' : Hp}
theorem ints_tps {K : PySem.W.Frag} {F : Hp} : ∀ ns : List Int, Tps K F (ns.map V.int) (ns.map D.int)
  | [] => .nil
  | n :: ns => .cons (.int n) (ints_tps ns)
theorem tps_ints {K : PySem.W.Frag} {F : Hp} : ∀ {ns : List Int} {xs : List V}, Tps K F xs (ns.map D.int) → xs = ns.map V.int
  | [], _, .nil => rfl
  | n :: ns, _, .cons a t => by cases a; rw [List.map_cons, tps_ints t]
theorem pool_tps {l : Addr} {ns : List Int} {i b n s : Int} (h : Rd F l (.lst (ns.map V.int))) : Tps K F [.ref l, .int i, .int b, .int n, .int s] (poolD ns i b n s) :=
  .cons (.lst h (ints_tps ns)) (.cons (.int i) (.cons (.int b) (.cons (.int n) (.cons (.int s) .nil))))
theorem tps_pool {xs : List V} {ns : List Int} {i b n s : Int} (h : Tps K F xs (poolD ns i b n s)) : ∃ l, xs = [.ref l, .int i, .int b, .int n, .int s] ∧ Rd F l (.lst (ns.map V.int)) := by
  unfold poolD at h
  cases h with
  | cons a t =>
    cases a with
    | lst r t1 =>
      cases t with
      | cons a2 t2 => cases a2; cases t2 with
        | cons a3 t3 => cases a3; cases t3 with
          | cons a4 t4 => cases a4; cases t4 with
            | cons a5 t5 => cases a5; cases t5; have := tps_ints t1; subst this; exact ⟨_, rfl, r⟩
/-- the def's body sees the pool as a list of its own at q -/
theorem pool_start (k : Ok K (some q) H F) (N : List Str) (vs : List V) (rs : List Rv) (h : Paired (fun v r => ∃ x, r = .d x ∧ Tp K F v x) vs rs) : ∃ ns i b n s, (0 : Int) ≤ i ∧
    Rel K none (del H q) F (L2.start N (.ref q :: vs)) H F (.m (some q) (.lst (poolD ns i b n s)) :: (rs.map toSv ++ List.replicate (N.length - (rs.length + 1)) .any)) := by
  obtain ⟨⟨l, ns, i, b, n, s, hq, hl, i0⟩, hf⟩ := k.pool q rfl
  have sub : Same F (del H q) := fun a o e => by
    rw [del_ne]
    · exact k.sub a o e
    · rintro rfl
      rw [hf] at e
      cases e
  have ok0 : Ok K none (del H q) F := ⟨sub, fun _ z => nomatch z⟩
  have rest : Rel K none (del H q) F (L2.start (N.drop 1) vs) (del H q) F (startS (N.drop 1) rs) := start_rel ok0 (by
    refine Paired.mapP h fun v r z => ?_
    obtain ⟨x, rfl, t⟩ := z
    exact t)
  have lv : vs.length = rs.length := Paired.length h
  refine ⟨ns, i, b, n, s, i0, ?_⟩
  have e1 : L2.start N (.ref q :: vs) = some (.ref q) :: L2.start (N.drop 1) vs := by
    unfold L2.start
    rw [List.map_cons, List.length_cons, List.length_drop, List.cons_append]
    congr 3
    omega
  have e2 : rs.map toSv ++ List.replicate (N.length - (rs.length + 1)) Sv.any = startS (N.drop 1) rs := by
    unfold startS
    rw [List.length_drop]
    congr 2
    omega
  rw [e1, e2]
  have nx : Nx K none (del H q) F H F := ⟨fun a o e _ => by
    by_cases z : a = q
    · subst z; rw [del_same] at e; cases e
    · rw [del_ne z] at e; exact e, Same.refl _, fun _ _ e => .inr e, ⟨k.sub, fun _ z => nomatch z⟩⟩
  have st : ∀ (i : Nat) (s : Sv), (startS (N.drop 1) rs)[i]? = some s → ∀ a m, s ≠ .m a m := fun i s e a m z => by
    subst z
    have : Sv.m a m ∈ startS (N.drop 1) rs := List.mem_of_getElem? e
    unfold startS at this
    rw [List.mem_append] at this
    rcases this with z | z
    · obtain ⟨r, _, q⟩ := List.mem_map.mp z
      exact absurd q (noM r _ m)
    · have := List.eq_of_mem_replicate z
      cases this
  refine ⟨ok0, nx, by rw [List.length_cons, List.length_cons, rest.len], fun j s e => ?_, fun j k' a q1 q2 m1 m2 ne e1 e2 => ?_⟩
  · cases j with
    | zero => cases e; exact ⟨_, rfl, q, _, fun b z => (Option.some.inj z), rfl, hq, del_same, hf, pool_tps hl⟩
    | succ j =>
      obtain ⟨o, g1, g2⟩ := rest.sl j s e
      refine ⟨o, g1, ?_⟩
      have := st j s e
      cases s with
      | m a m => exact absurd rfl (this a m)
      | any => trivial
      | d x => exact g2
      | ro ds => exact g2
      | raw u => exact g2
  · cases j with
    | zero =>
      cases k' with
      | zero => exact absurd rfl ne
      | succ k' => exact absurd rfl (st k' _ e2 _ _)
    | succ j => exact absurd rfl (st j _ e1 _ _)
theorem pool_end (k : Ok K (some q) H F) {σ : L2.St} {m : Mo} {sv : List Sv} (R : Rel K none (del H q) F σ H' F' (.m (some q) m :: sv)) {ns : List Int} {i b n s : Int} (e : m = .lst (poolD ns i b n s)) (i0 : 0 ≤ i) : Nx K (some q) H F H' F' := by
  subst e
  obtain ⟨o, h1, a, u, hq, rfl, g, g0, gf, t⟩ := R.sl 0 _ rfl
  have := hq q rfl
  subst this
  obtain ⟨xs, rfl, t⟩ := t.lst
  obtain ⟨l, rfl, r⟩ := tps_pool t
  refine ⟨fun b o e ne => R.nx.fr b o (by rw [del_ne (fun z => ne (by rw [z]))]; exact e) (fun z => nomatch z), R.nx.fz, fun b o e => ?_, ⟨R.nx.ok.sub, fun q' e => ?_⟩⟩
  · rcases R.nx.nw b o e with z | z
    · by_cases y : b = a
      · subst y; rw [gf] at e; cases e
      · rw [del_ne y] at z; exact .inl z
    · exact .inr z
  · cases e
    exact ⟨⟨l, ns, i, _, n, s, g, r, i0⟩, gf⟩
end
end Y
namespace Y
open PySem L2
theorem ws_run {Γ : G} {H0 F0 H F : Hp} {σ : L2.St} {sv : List Sv} {t : TS} {E : En} {D : Ends} (go : WS Γ t sv E) (R : Rel Γ.K Γ.p H0 F0 σ H F sv) (X : Exc Γ H0 F0) (S : Serves Γ H0 F0 F E D) : t D σ H := go H0 F0 σ H F R X D S
theorem ws_cut {Γ : G} {sv : List Sv} {t u : TS} {E : En} (M : List Sv → Prop) (h : WS Γ t sv { E with nx := M }) (k : ∀ sv', M sv' → WS Γ u sv' E) : WS Γ (tSeq t u) sv E :=
  ws_seq (ws_mono h (fun s q => k s q) (fun _ _ q => q) (fun _ q => q) fun _ q => q)
theorem ifD {p A B : Prop} [Decidable p] (h1 : p → A) (h2 : ¬ p → B) : if decide p = true then A else B := by
  by_cases h : p
  · rw [decide_eq_true h]; exact iteT (h1 h)
  · rw [decide_eq_false h]; exact iteF (h2 h)
theorem ifDn {p A B : Prop} [Decidable p] (h1 : ¬ p → A) (h2 : p → B) : if (!decide p) = true then A else B := by
  by_cases h : p
  · rw [decide_eq_true h]; exact iteF (h2 h)
  · rw [decide_eq_false h]; exact iteT (h1 h)
theorem at_nat {α : Type} {xs : List α} {z : Int} {j : Nat} {v : α} (e : z = (j : Int)) (h : xs[j]? = some v) : atI xs z = some v := by
  rw [e]; exact atI_nat h
theorem ints_at {ns : List Int} {i : Int} (h0 : 0 ≤ i) (h : i < ((ns.map D.int).length : Int)) : ∃ c, atI (ns.map D.int) i = some (.int c) := by
  rw [List.length_map] at h
  have h2 : i.toNat < ns.length := by omega
  exact ⟨ns[i.toNat], at_nat (j := i.toNat) (by omega) (by rw [List.getElem?_map, List.getElem?_eq_getElem h2]; rfl)⟩
theorem rangeD_get {lo : Int} {n i : Nat} {x : D} (h : (rangeD lo n)[i]? = some x) : x = .int (lo + i) ∧ i < n := by
  unfold rangeD at h
  rw [List.getElem?_map] at h
  cases q : (List.range n)[i]? with
  | none => rw [q] at h; cases h
  | some j =>
    rw [q] at h
    have hi : i < n := by have := (List.getElem?_eq_some_iff.mp q).1; rwa [List.length_range] at this
    rw [List.getElem?_range hi] at q
    cases q
    cases h
    exact ⟨rfl, hi⟩
theorem rangeD_len (lo : Int) (n : Nat) : (rangeD lo n).length = n := by simp [rangeD]
theorem Dn.none {P : Program} {w : World} {K : PySem.W.Frag} {mg : Str → Option Value} {base : Heap} {x : Str} {st : Stmt} {ps : List Str} (F : Dn K mg x st ps) (k : Nat) : C8.Cal P w K mg base k x (FSp K fun _ _ _ => False) [] := by
  obtain ⟨f, fd, D, b⟩ := F.ex
  exact ⟨f, fd, ps, [], ⟨fun vs H Q E h => (by obtain ⟨p, F, rs, Φ, k, pp, q, _⟩ := h; exact q.elim), fun A outer s H args us vs Q E _ _ _ _ h => (by obtain ⟨p, F, rs, Φ, k, pp, q, _⟩ := h; exact q.elim)⟩, D.mgf, D.kp, b, .nil⟩
theorem kit_NoneType_int : kitB "NoneType" "int" = some false := by decide +kernel
theorem kit_NoneType_bool : kitB "NoneType" "bool" = some false := by decide +kernel
theorem kit_NoneType_str : kitB "NoneType" "str" = some false := by decide +kernel
theorem kit_NoneType_tuple : kitB "NoneType" "tuple" = some false := by decide +kernel
theorem kit_NoneType_list : kitB "NoneType" "list" = some false := by decide +kernel
theorem kit_bool_int : kitB "bool" "int" = some true := by decide +kernel
theorem kit_bool_bool : kitB "bool" "bool" = some true := by decide +kernel
theorem kit_bool_str : kitB "bool" "str" = some false := by decide +kernel
theorem kit_bool_tuple : kitB "bool" "tuple" = some false := by decide +kernel
theorem kit_bool_list : kitB "bool" "list" = some false := by decide +kernel
theorem kit_int_int : kitB "int" "int" = some true := by decide +kernel
theorem kit_int_bool : kitB "int" "bool" = some false := by decide +kernel
theorem kit_int_str : kitB "int" "str" = some false := by decide +kernel
theorem kit_int_tuple : kitB "int" "tuple" = some false := by decide +kernel
theorem kit_int_list : kitB "int" "list" = some false := by decide +kernel
theorem kit_str_int : kitB "str" "int" = some false := by decide +kernel
theorem kit_str_bool : kitB "str" "bool" = some false := by decide +kernel
theorem kit_str_str : kitB "str" "str" = some true := by decide +kernel
theorem kit_str_tuple : kitB "str" "tuple" = some false := by decide +kernel
theorem kit_str_list : kitB "str" "list" = some false := by decide +kernel
theorem kit_tuple_int : kitB "tuple" "int" = some false := by decide +kernel
theorem kit_tuple_bool : kitB "tuple" "bool" = some false := by decide +kernel
theorem kit_tuple_str : kitB "tuple" "str" = some false := by decide +kernel
theorem kit_tuple_tuple : kitB "tuple" "tuple" = some true := by decide +kernel
theorem kit_tuple_list : kitB "tuple" "list" = some false := by decide +kernel
theorem kit_list_int : kitB "list" "int" = some false := by decide +kernel
theorem kit_list_bool : kitB "list" "bool" = some false := by decide +kernel
theorem kit_list_str : kitB "list" "str" = some false := by decide +kernel
theorem kit_list_tuple : kitB "list" "tuple" = some false := by decide +kernel
theorem kit_list_list : kitB "list" "list" = some true := by decide +kernel
theorem ite_t {b : Bool} {A B : Prop} (e : b = true) (h : A) : if b = true then A else B := by subst e; exact iteT h
theorem ite_f {b : Bool} {A B : Prop} (e : b = false) (h : B) : if b = true then A else B := by subst e; exact iteF h
theorem at0 {α : Type} {x : α} {xs : List α} : atI (x :: xs) 0 = some x := at_nat (j := 0) rfl rfl
theorem at_last {α : Type} {x : α} {xs : List α} (h : xs.getLast? = some x) : atI xs (-1) = some x := by
  obtain ⟨ys, rfl⟩ := List.getLast?_eq_some_iff.mp h
  exact atI_last ys x
theorem small_str : ∀ n : Nat, n < 1001 → ((toString (n : Int) : String).length ≤ 4) := by decide +kernel
theorem wt_yes {Γ : G} {sv : List Sv} {Φ : Bool → Prop} (q : Φ true) : WT Γ tYes sv Φ := fun H0 F0 σ H F R X Q f => f true H F q (Nx.refl R.ok)
/-- [h x for x in ds if q x] -/
theorem we_lcF {Γ : G} {sv : List Sv} {Φ : Rv → Prop} {wi : TI} {g : TG} {tt : TT} {te : TE} {vs : List Nat} (q : D → Bool) (h : D → D) (k : WI Γ wi sv fun ds => ds.length ≤ sizeLine ∧ (∀ (i : Nat) (x : D), ds[i]? = some x → ∃ js, (∀ j ∈ js, j ∈ vs) ∧ WG Γ g js x (wipeS sv vs) fun sv2 =>
    WT Γ tt sv2 fun b => b = q x ∧ (b = true → WE Γ te sv2 fun r => ∃ y, asD r = some y ∧ y = h x)) ∧ Φ (.nl ((ds.filter q).map h))) : WE Γ (tLc wi g tt te vs) sv Φ := by
  refine we_lc fun H0 F0 σ H F R X Q f => k H0 F0 σ H F R X Q fun J ds H1 F1 ⟨l, turn, post⟩ n W => f J ds H1 F1 ⟨l, fun i acc => acc = ((ds.take i).filter q).map h, rfl, fun i x acc hx e => ?_, fun acc e => ?_⟩ n W
  · obtain ⟨js, hj, tg⟩ := turn i x hx
    refine ⟨js, hj, fun H0 F0 σ H F R v hv Q f => tg H0 F0 σ H F R v hv Q fun σ' sv' z R' k' l' => f σ' sv' (WT.mono z fun b ⟨e1, e2⟩ => ?_) R' k' l'⟩
    obtain ⟨hi, ex⟩ := List.getElem?_eq_some_iff.mp hx
    have et : ds.take (i + 1) = ds.take i ++ [x] := by rw [List.take_succ_eq_append_getElem hi, ex]
    cases b with
    | true =>
      refine iteT (WE.mono (e2 rfl) fun r ⟨y, a1, a2⟩ => ⟨y, a1, ?_⟩)
      show acc ++ [y] = ((ds.take (i + 1)).filter q).map h
      have e : acc = ((ds.take i).filter q).map h := e
      rw [et, List.filter_append, List.map_append, e, a2]
      congr 1
      rw [List.filter_cons, if_pos e1.symm]; rfl
    | false =>
      refine iteF ?_
      show acc = ((ds.take (i + 1)).filter q).map h
      have e : acc = ((ds.take i).filter q).map h := e
      rw [et, List.filter_append, List.map_append, e, List.filter_cons, if_neg (by rw [← e1]; exact Bool.false_ne_true)]
      simp
  · have e : acc = ((ds.take ds.length).filter q).map h := e
    rw [e, List.take_length]; exact post
theorem we_lcM {Γ : G} {sv : List Sv} {Φ : Rv → Prop} {wi : TI} {g : TG} {te : TE} {vs : List Nat} (h : D → D) (k : WI Γ wi sv fun ds => ds.length ≤ sizeLine ∧ (∀ (i : Nat) (x : D), ds[i]? = some x → ∃ js, (∀ j ∈ js, j ∈ vs) ∧ WG Γ g js x (wipeS sv vs) fun sv2 =>
    WE Γ te sv2 fun r => ∃ y, asD r = some y ∧ y = h x) ∧ Φ (.nl (ds.map h))) : WE Γ (tLc wi g tYes te vs) sv Φ := by
  refine we_lcF (fun _ => true) h fun H0 F0 σ H F R X Q f => k H0 F0 σ H F R X Q fun J ds H1 F1 ⟨l, turn, post⟩ n W => f J ds H1 F1 ⟨l, fun i x hx => ?_, ?_⟩ n W
  · obtain ⟨js, hj, tg⟩ := turn i x hx
    exact ⟨js, hj, fun H0 F0 σ H F R v hv Q f => tg H0 F0 σ H F R v hv Q fun σ' sv' z R' k' l' => f σ' sv' (wt_yes ⟨rfl, fun _ => z⟩) R' k' l'⟩
  · rw [List.filter_eq_self.mpr fun _ _ => rfl]; exact post
end Y
namespace Y
open PySem L2
/-- [e for x in ds], each e with the look Pd -/
theorem we_lcP {Γ : G} {sv : List Sv} {Φ : Rv → Prop} {wi : TI} {g : TG} {te : TE} {vs : List Nat} (Pd : D → Prop) (k : WI Γ wi sv fun ds => ds.length ≤ sizeLine ∧ (∀ (i : Nat) (x : D), ds[i]? = some x → ∃ js, (∀ j ∈ js, j ∈ vs) ∧ WG Γ g js x (wipeS sv vs) fun sv2 =>
    WE Γ te sv2 fun r => ∃ y, asD r = some y ∧ Pd y) ∧ ∀ acc : List D, acc.length = ds.length → (∀ y ∈ acc, Pd y) → Φ (.nl acc)) : WE Γ (tLc wi g tYes te vs) sv Φ := by
  refine we_lc fun H0 F0 σ H F R X Q f => k H0 F0 σ H F R X Q fun J ds H1 F1 ⟨l, turn, post⟩ n W => f J ds H1 F1 ⟨l, fun i acc => acc.length = i ∧ ∀ y ∈ acc, Pd y, ⟨rfl, fun _ h => nomatch h⟩, fun i x acc hx e => ?_, fun acc e => post acc e.1 e.2⟩ n W
  obtain ⟨js, hj, tg⟩ := turn i x hx
  refine ⟨js, hj, fun H0 F0 σ H F R v hv Q f => tg H0 F0 σ H F R v hv Q fun σ' sv' z R' k' l' => f σ' sv' (wt_yes (iteT (WE.mono z fun r ⟨y, a1, a2⟩ => ⟨y, a1, ?_⟩))) R' k' l'⟩
  refine ⟨by rw [List.length_append, e.1]; rfl, fun u hu => ?_⟩
  rcases List.mem_append.mp hu with h | h
  · exact e.2 u h
  · cases List.mem_singleton.mp h; exact a2
/-! ### join with nothing between -/
theorem glued_len : ∀ (ss : List Str) (a : Array Nat), (ss.foldl (fun acc p => acc ++ (Str.ofString "").cps ++ p.cps) a).size = a.size + (ss.map (·.length)).sum
  | [], a => by simp
  | s :: ss, a => by
    rw [List.foldl_cons, glued_len ss, List.map_cons, List.sum_cons]
    have : (Str.ofString "").cps.size = 0 := by decide +kernel
    simp only [Array.size_append, this, Str.length]
    omega
theorem join_len (ss : List Str) : (Txt.join "" ss).length = (ss.map (·.length)).sum := by
  cases ss with
  | nil => decide +kernel
  | cons s ss =>
    show (Builtin.Str.glued "" (s :: ss)).cps.size = _
    unfold Builtin.Str.glued
    show (ss.foldl _ s.cps).size = _
    rw [glued_len, List.map_cons, List.sum_cons]
    rfl
/-- strings of one sign, joined -/
def isSign (d : D) : Prop := ∃ s : Str, d = .str s ∧ s.length = 1
theorem signs_strs : ∀ {ds : List D}, (∀ d ∈ ds, isSign d) → ∃ ss : List Str, ds = ss.map D.str ∧ (ss.map (·.length)).sum = ds.length ∧ ss.length = ds.length
  | [], _ => ⟨[], rfl, rfl, rfl⟩
  | d :: ds, h => by
    obtain ⟨s, e, l⟩ := h d (.head _)
    obtain ⟨ss, e2, l2, l3⟩ := signs_strs (ds := ds) fun x hx => h x (.tail _ hx)
    refine ⟨s :: ss, by rw [e, e2]; rfl, ?_, ?_⟩
    · rw [List.map_cons, List.sum_cons, l2, l, List.length_cons]; omega
    · rw [List.length_cons, l3, List.length_cons]
theorem rmA_joinS {Γ : G} {y : Rv} {Φ : Rv → Prop} {ds : List D} (hy : asL y = some ds) (h : ∀ d ∈ ds, isSign d) (l : ds.length ≤ 1000000) (q : ∀ w : Str, w.length = ds.length → Φ (.d (.str w))) : RM Γ (rJoinA Γ.K) (.d (.str "")) [y] Φ := by
  obtain ⟨ss, e, l2, l3⟩ := signs_strs h
  subst e
  refine rmA_join (.inl hy) ?_ (q _ ?_)
  · have : (Str.ofString "").length = 0 := by decide +kernel
    rw [l2, this]; omega
  · rw [join_len, l2]
end Y
namespace Y
open PySem L2
theorem ru_I {Γ : G} {Φ : Rv → Prop} {g : Int → V} {i : Int} {d : D} (e : scD (g i) = some d) (q : Φ (.d d)) : RU Γ (rU g) (.d (.int i)) Φ := fun H0 F0 H F H1 F1 u A hu Q f => by
  cases hu
  exact ⟨i, rfl, f.val A (r := .d d) (scD_ok e) q⟩
end Y

set_option maxHeartbeats 4000000
namespace Y
open PySem L2 PySem.Spec PyProof.Rows
def top (i : Nat) : Stmt := PySem.Challenge.pw_typeforge_k34_solids_of_a_paragraph.main.body.getD i (.Pass ⟨0, 0, 0, 0⟩)

local macro_rules | `(tactic| walk_at "y1") => `(tactic| first
  | with_reducible refine ws_asg ?_
  | with_reducible refine ws_next ?_
  | with_reducible refine ws_brk ?_
  | with_reducible refine ws_cont ?_
  | with_reducible refine ws_if ?_
  | ((with_reducible refine' ws_setL ?e ?_); (case e => rfl))
  | ((with_reducible refine' ws_app ?e ?_); (case e => rfl))
  | ((with_reducible refine' ws_ext ?e ?_); (case e => rfl))
  | with_reducible refine ws_asgG ?_
  | ((with_reducible refine' ws_retOwn ?e ?_); (case e => rfl))
  | with_reducible refine ws_ret ?_
  | with_reducible refine ws_retN ?_
  | with_reducible refine ws_drop ?_)
local macro_rules | `(tactic| walk_at "y2") => `(tactic| first
  | ((with_reducible refine' we_d ?e ?_); (case e => rfl))
  | ((with_reducible refine' we_raw ?e ?_); (case e => rfl))
  | ((with_reducible refine' we_ro ?e ?_); (case e => rfl))
  | ((with_reducible refine' we_m ?e ?_); (case e => rfl))
  | with_reducible refine we_cint ?_
  | with_reducible refine we_cstr ?_
  | with_reducible refine we_cbl ?_
  | with_reducible refine we_cnon ?_
  | with_reducible refine we_op ?_
  | with_reducible refine we_un ?_
  | with_reducible refine we_cb ?_
  | with_reducible refine we_tup ?_
  | with_reducible refine we_lst ?_
  | with_reducible refine wa_nil ?_
  | with_reducible refine wa_cons ?_
  | with_reducible refine we_bm0 ?_
  | with_reducible refine we_bm ?_
  | with_reducible refine we_m0 ?_
  | with_reducible refine we_m1 ?_
  | with_reducible refine we_sl ?_
  | with_reducible refine wo_none ?_
  | with_reducible refine wo_some ?_
  | with_reducible refine we_fld ?_
  | with_reducible refine we_call ?_
  | with_reducible refine we_mk ?_
  | with_reducible refine we_mkS ?_
  | with_reducible refine wt_test ?_
  | with_reducible refine wt_val ?_
  | with_reducible refine wt_and ?_
  | with_reducible refine wt_or ?_
  | with_reducible refine wt_not ?_
  | with_reducible refine wt_yes ?_
  | with_reducible refine wt_truth ?_
  | with_reducible refine we_andV ?_
  | with_reducible refine we_orV ?_
  | with_reducible refine we_notV ?_
  | with_reducible refine we_if ?_
  | with_reducible refine we_craw ?_)
local macro_rules | `(tactic| walk_at "y3") => `(tactic| first
  | with_reducible refine ro_plusI ?_
  | with_reducible refine ro_eqI ?_
  | with_reducible refine ro_eqS ?_
  | with_reducible refine ro_neI ?_
  | with_reducible refine ro_neS ?_
  | ((with_reducible refine' ro_I0 ?e ?_); (case e => rfl))
  | ((with_reducible refine' ro_I ?c ?e ?_); (case e => rfl); (case c => first | decide | omega | exact Or.inr (by decide) | exact Or.inl (by decide) | exact ⟨by decide, by decide +kernel⟩ | exact ⟨by decide, by decide, by decide⟩ | exact Or.inl ⟨by omega, by omega⟩ | exact Or.inr ⟨by omega, by omega⟩ | assumption))
  | ((with_reducible refine' ro_ix1 ?a ?b ?_); (case a => rfl); (case b => first | exact at0 | rfl))
  | ((with_reducible refine' ro_ix2 ?b ?_); (case b => first | exact at0 | rfl))
  | with_reducible refine ro_isN ?_
  | with_reducible refine ro_isA ?_
  | ((with_reducible refine' rc_len1 ?a ?_); (case a => first | exact Or.inl rfl | exact Or.inr rfl))
  | ((with_reducible refine' rc_isi ?a ?b ?_); (case a => rfl); (case b => first | exact kit_NoneType_int | exact kit_NoneType_bool | exact kit_NoneType_str | exact kit_NoneType_tuple | exact kit_NoneType_list | exact kit_bool_int | exact kit_bool_bool | exact kit_bool_str | exact kit_bool_tuple | exact kit_bool_list | exact kit_int_int | exact kit_int_bool | exact kit_int_str | exact kit_int_tuple | exact kit_int_list | exact kit_str_int | exact kit_str_bool | exact kit_str_str | exact kit_str_tuple | exact kit_str_list | exact kit_tuple_int | exact kit_tuple_bool | exact kit_tuple_str | exact kit_tuple_tuple | exact kit_tuple_list | exact kit_list_int | exact kit_list_bool | exact kit_list_str | exact kit_list_tuple | exact kit_list_list))
  | with_reducible refine rcA_abs ?_
  | with_reducible refine rcA_max ?_
  | with_reducible refine rcA_min ?_
  | with_reducible refine rcA_intI ?_
  | with_reducible refine rcA_intB ?_
  | ((with_reducible refine' rcA_list ?a ?_); (case a => first | exact Or.inl rfl | exact Or.inr rfl))
  | ((with_reducible refine' rcA_tuple ?a ?_); (case a => first | exact Or.inl rfl | exact Or.inr rfl)))
local macro_rules | `(tactic| walk_at "y4") => `(tactic| first
  | ((with_reducible refine' ite_t ?e ?_); (case e => rfl))
  | ((with_reducible refine' ite_f ?e ?_); (case e => rfl))
  | refine ⟨_, rfl, (show _ ≤ sizeLine by simp only [List.length_cons, List.length_nil]; decide), ?_⟩
  | refine ⟨_, rfl, ?_⟩
  | refine ⟨rfl, ?_⟩
  | refine ⟨_, _, rfl, rfl, ?_⟩)
local macro_rules | `(tactic| walk_at "z") => `(tactic| ((first | walk_at "y1" | walk_at "y2" | walk_at "y3" | walk_at "y4"); try dsimp only [List.set, Int.reduceToNat]))
local macro_rules | `(tactic| walk_at "y") => `(tactic| first | walk_at "z" | (with_reducible refine ws_seq ?_))
local macro_rules | `(tactic| walk_at "s") => `(tactic| ((with_reducible refine ws_seq ?_); repeat walk_at "z"))

abbrev s__law_draw : Stmt := top 14
abbrev N__law_draw : List Str := ["pool", "many", "cell", "got", "one"]
theorem sc__law_draw : FnScope N__law_draw ["pool", "many"] (C8.fnScope s__law_draw) := C8.fnScope_by (by decide +kernel)
def spDraw : DSp := fun p rs Φ => ∃ (q : Addr) (m : Int), p = some q ∧ rs = [.raw (.ref q), .d (.int m)] ∧ 0 < m ∧ m < 2 ^ 64 ∧ ∀ r : Int, 0 ≤ r → r < m → Φ (.d (.int r))
section
variable {P : Program} {w : World} {K : PySem.W.Frag} {mg : Str → Option Value} {base : Heap}
theorem cal__law_draw (D : Dn K mg "_law_draw" s__law_draw ["pool", "many"]) (hB : Blt mg) : C8.Cal P w K mg base 1 "_law_draw" (FSp K spDraw) [] := by
  obtain ⟨f, fd, DD, bb⟩ := D.ex
  have sc := sc__law_draw
  refine C8.cal0 DD bb .nil sc (fun vs H Q E h => ?_) fun cdv A outer st H vs Q E hr h => ?_
  · obtain ⟨p, F, rs, Φ, k, pp, ⟨q, m, e1, e2, _⟩, _⟩ := h
    rw [pair_len pp, e2]; rfl
  obtain ⟨p, F, rs, Φ, k, pp, ⟨q, m, rfl, rfl, m0, m1, post⟩, fin⟩ := h
  obtain ⟨u, v, rfl, hu, hv⟩ := p2 pp
  cases (show u = .ref q from hu)
  refine ⟨_, (pss_cons (ps_asg (pe_op op_plus (pe_ix ix_seq (pv 0) pe_int (fun _ _ => rfl)) pe_int) (pg_sub (pv 0) pe_int set_list))
      (pss_cons (ps_if (PW.pt (pw_and (pt_cmpR op_eq (pe_ix ix_seq (pv 0) pe_int (fun _ _ => rfl)) pe_int (nomark _)) (pw_and1 (pt_cmpR op_lt (pe_ix ix_seq (pv 0) pe_int (fun _ _ => rfl)) (pe_callB call_lenA (by rfl) hB.len PySem.boot_len (pa_cons (pe_ix ix_seq (pv 0) pe_int (fun _ _ => rfl)) pa_nil)) (nomark _))))) (pss_cons (ps_set (i := 2) sc.nd rfl (by first | exact Or.inl rfl | exact Or.inr rfl) (pe_ix ix_seq (pe_ix ix_seq (pv 0) pe_int (fun _ _ => rfl)) (pe_ix ix_seq (pv 0) pe_int (fun _ _ => rfl)) (fun _ _ => rfl)))
      (pss_cons (ps_asg (pe_op op_plus (pe_ix ix_seq (pv 0) pe_int (fun _ _ => rfl)) pe_int) (pg_sub (pv 0) pe_int set_list))
      (pss_one (ps_if (pt_cmpR op_ge (pe_callB call_absA (by rfl) hB.abs (by decide +kernel) (pa_cons (pv 2) pa_nil)) (pe_op op_pow pe_int pe_int) (nomark _)) (pss_one (ps_asg (pe_callB call_absA (by rfl) hB.abs (by decide +kernel) (pa_cons (pv 2) pa_nil)) (pg_sub (pv 0) pe_int set_list))) (pss_one (ps_asg (pe_op op_mod (pe_callTy call_intA (by rfl) hB.int (by decide +kernel) (pa_cons (pe_op op_plus (pe_op op_plus (pe_op op_mul (pe_ix ix_seq (pv 0) pe_int (fun _ _ => rfl)) pe_int) (pe_op op_mul (pv 2) pe_int)) pe_int) pa_nil)) pe_int) (pg_sub (pv 0) pe_int set_list))))))) pss_nil)
      (pss_cons (ps_if (pt_cmpR op_gt (pe_ix ix_seq (pv 0) pe_int (fun _ _ => rfl)) pe_int (nomark _)) (pss_cons (ps_set (i := 3) sc.nd rfl (by first | exact Or.inl rfl | exact Or.inr rfl) (pe_op op_mod (pe_callTy call_intA (by rfl) hB.int (by decide +kernel) (pa_cons (pe_ix ix_seq (pv 0) pe_int (fun _ _ => rfl)) pa_nil)) (pv 1)))
      (pss_cons (ps_asg (pe_op op_fdivW (pe_ix ix_seq (pv 0) pe_int (fun _ _ => rfl)) (pv 1)) (pg_sub (pv 0) pe_int set_list))
      (pss_one (ps_ret (pv 3))))) pss_nil)
      (pss_cons (ps_set (i := 4) sc.nd rfl (by first | exact Or.inl rfl | exact Or.inr rfl) (pe_op op_mod (pe_callTy call_intA (by rfl) hB.int (by decide +kernel) (pa_cons (pe_op op_plus (pe_ix ix_seq (pv 0) pe_int (fun _ _ => rfl)) (pe_op op_mul (pe_ix ix_seq (pv 0) pe_int (fun _ _ => rfl)) pe_int)) pa_nil)) pe_int))
      (pss_cons (ps_set (i := 4) sc.nd rfl (by first | exact Or.inl rfl | exact Or.inr rfl) (pe_op op_mod (pe_callTy call_intA (by rfl) hB.int (by decide +kernel) (pa_cons (pe_op op_plus (pe_op op_plus (pe_op op_mul (pv 4) (pv 4)) (pe_op op_mul (pe_ix ix_seq (pv 0) pe_int (fun _ _ => rfl)) pe_int)) pe_int) pa_nil)) pe_int))
      (pss_cons (ps_set (i := 4) sc.nd rfl (by first | exact Or.inl rfl | exact Or.inr rfl) (pe_op op_mod (pe_callTy call_intA (by rfl) hB.int (by decide +kernel) (pa_cons (pe_op op_plus (pe_op op_plus (pe_op op_mul (pv 4) (pv 4)) (pe_ix ix_seq (pv 0) pe_int (fun _ _ => rfl))) pe_int) pa_nil)) pe_int))
      (pss_one (ps_ret (pe_op op_mod (pe_callTy call_intA (by rfl) hB.int (by decide +kernel) (pa_cons (pe_op op_fdivW (pv 4) pe_int) pa_nil)) (pv 1)))))))))), ?_⟩
  try dsimp only [L2.cxOf]
  obtain ⟨ns, i, b, n, s, i0, R⟩ := pool_start k N__law_draw [v] [.d (.int m)] (.cons ⟨_, rfl, hv⟩ .nil)
  have R : Rel K none (del H q) F _ H F [.m (some q) (.lst [.lst (ns.map Y.D.int), .int i, .int b, .int n, .int s]), .d (.int m), .any, .any, .any] := R
  refine ws_run (Γ := g0 K none) (E := ⟨fun _ => False, fun r sv => ∃ x ns i b n s, r = .d (.int x) ∧ 0 ≤ x ∧ x < m ∧ (0 : Int) ≤ i ∧ ∃ svt, sv = .m (some q) (.lst (poolD ns i b n s)) :: svt, fun _ => False, fun _ => False⟩) ?w R exc0 ?s
  case s =>
    refine ⟨fun _ _ _ _ z => z.elim, fun v r σ' H' F' sv' h e R' o => ?_, fun _ _ _ _ z => z.elim, fun _ _ _ _ z => z.elim⟩
    obtain ⟨x, ns', i', b', n', s', rfl, x0, x1, i1, svt, rfl⟩ := h
    exact fin v _ H' F' (post x x0 x1) rfl (pool_end k R' rfl i1) o
  case w =>
    have hdv : ∀ b : Int, CDivW b m := fun b => wide_div m0 (b := 65) (by omega) (by decide) (by decide)
    walk_at "s"
    refine ws_cut (fun sv => ∃ i b n s v, (0 : Int) ≤ i ∧ sv = [.m (some q) (.lst [.lst (ns.map Y.D.int), .int i, .int b, .int n, .int s]), .d (.int m), v, .any, .any]) ?_ ?_
    · repeat walk_at "z"
      refine ifD (fun hb => ?_) (fun hb => ?_)
      · repeat walk_at "z"
        refine ifD (fun hi => ?_) (fun hi => ?_)
        · obtain ⟨c, hcell⟩ := ints_at i0 hi
          repeat walk_at "y"
          refine ro_ix1 rfl hcell ?_
          repeat walk_at "y"
          refine ifD (fun hc => ?_) (fun hc => ?_)
          · repeat walk_at "y"
            exact ⟨_, _, _, _, _, by omega, rfl⟩
          · repeat walk_at "y"
            exact ⟨_, _, _, _, _, by omega, rfl⟩
        · repeat walk_at "y"
          exact ⟨_, _, _, _, _, i0, rfl⟩
      · repeat walk_at "y"
        exact ⟨_, _, _, _, _, i0, rfl⟩
    · rintro sv' ⟨i, b, n, s, v, i0, rfl⟩
      repeat walk_at "y"
      refine ifD (fun hb => ?_) (fun hb => ?_)
      · repeat walk_at "y"
        refine ro_I (hdv _) rfl ?_
        repeat walk_at "y"
        exact ⟨_, _, _, _, _, _, rfl, Int.emod_nonneg _ (by omega), Int.emod_lt_of_pos _ m0, i0, _, rfl⟩
      · repeat walk_at "y"
        exact ⟨_, _, _, _, _, _, rfl, Int.emod_nonneg _ (by omega), Int.emod_lt_of_pos _ m0, i0, _, rfl⟩
end
end Y

set_option maxHeartbeats 4000000
namespace Y
open PySem L2 PySem.Spec PyProof.Rows
local macro_rules | `(tactic| walk_at "y1") => `(tactic| first
  | with_reducible refine ws_asg ?_
  | with_reducible refine ws_next ?_
  | with_reducible refine ws_brk ?_
  | with_reducible refine ws_cont ?_
  | with_reducible refine ws_if ?_
  | ((with_reducible refine' ws_setL ?e ?_); (case e => rfl))
  | ((with_reducible refine' ws_app ?e ?_); (case e => rfl))
  | ((with_reducible refine' ws_ext ?e ?_); (case e => rfl))
  | with_reducible refine ws_asgG ?_
  | ((with_reducible refine' ws_retOwn ?e ?_); (case e => rfl))
  | with_reducible refine ws_ret ?_
  | with_reducible refine ws_retN ?_
  | with_reducible refine ws_drop ?_)
local macro_rules | `(tactic| walk_at "y2") => `(tactic| first
  | ((with_reducible refine' we_d ?e ?_); (case e => rfl))
  | ((with_reducible refine' we_raw ?e ?_); (case e => rfl))
  | ((with_reducible refine' we_ro ?e ?_); (case e => rfl))
  | ((with_reducible refine' we_m ?e ?_); (case e => rfl))
  | with_reducible refine we_cint ?_
  | with_reducible refine we_cstr ?_
  | with_reducible refine we_cbl ?_
  | with_reducible refine we_cnon ?_
  | with_reducible refine we_op ?_
  | with_reducible refine we_un ?_
  | with_reducible refine we_cb ?_
  | with_reducible refine we_tup ?_
  | with_reducible refine we_lst ?_
  | with_reducible refine wa_nil ?_
  | with_reducible refine wa_cons ?_
  | with_reducible refine we_bm0 ?_
  | with_reducible refine we_bm ?_
  | with_reducible refine we_m0 ?_
  | with_reducible refine we_m1 ?_
  | with_reducible refine we_sl ?_
  | with_reducible refine wo_none ?_
  | with_reducible refine wo_some ?_
  | with_reducible refine we_fld ?_
  | with_reducible refine we_call ?_
  | with_reducible refine we_mk ?_
  | with_reducible refine we_mkS ?_
  | with_reducible refine wt_test ?_
  | with_reducible refine wt_val ?_
  | with_reducible refine wt_and ?_
  | with_reducible refine wt_or ?_
  | with_reducible refine wt_not ?_
  | with_reducible refine wt_yes ?_
  | with_reducible refine wt_truth ?_
  | with_reducible refine we_andV ?_
  | with_reducible refine we_orV ?_
  | with_reducible refine we_notV ?_
  | with_reducible refine we_if ?_
  | with_reducible refine we_craw ?_)
local macro_rules | `(tactic| walk_at "y3") => `(tactic| first
  | with_reducible refine ro_plusI ?_
  | with_reducible refine ro_eqI ?_
  | with_reducible refine ro_eqS ?_
  | with_reducible refine ro_neI ?_
  | with_reducible refine ro_neS ?_
  | ((with_reducible refine' ro_I0 ?e ?_); (case e => rfl))
  | ((with_reducible refine' ro_I ?c ?e ?_); (case e => rfl); (case c => first | decide | omega | exact Or.inr (by decide) | exact Or.inl (by decide) | exact ⟨by decide, by decide +kernel⟩ | exact ⟨by decide, by decide, by decide⟩ | exact Or.inl ⟨by omega, by omega⟩ | exact Or.inr ⟨by omega, by omega⟩ | assumption))
  | ((with_reducible refine' ro_ix1 ?a ?b ?_); (case a => rfl); (case b => first | exact at0 | rfl))
  | ((with_reducible refine' ro_ix2 ?b ?_); (case b => first | exact at0 | rfl))
  | with_reducible refine ro_isN ?_
  | with_reducible refine ro_isA ?_
  | ((with_reducible refine' rc_len1 ?a ?_); (case a => first | exact Or.inl rfl | exact Or.inr rfl))
  | ((with_reducible refine' rc_isi ?a ?b ?_); (case a => rfl); (case b => first | exact kit_NoneType_int | exact kit_NoneType_bool | exact kit_NoneType_str | exact kit_NoneType_tuple | exact kit_NoneType_list | exact kit_bool_int | exact kit_bool_bool | exact kit_bool_str | exact kit_bool_tuple | exact kit_bool_list | exact kit_int_int | exact kit_int_bool | exact kit_int_str | exact kit_int_tuple | exact kit_int_list | exact kit_str_int | exact kit_str_bool | exact kit_str_str | exact kit_str_tuple | exact kit_str_list | exact kit_tuple_int | exact kit_tuple_bool | exact kit_tuple_str | exact kit_tuple_tuple | exact kit_tuple_list | exact kit_list_int | exact kit_list_bool | exact kit_list_str | exact kit_list_tuple | exact kit_list_list))
  | with_reducible refine rcA_abs ?_
  | with_reducible refine rcA_max ?_
  | with_reducible refine rcA_min ?_
  | with_reducible refine rcA_intI ?_
  | with_reducible refine rcA_intB ?_
  | ((with_reducible refine' rcA_list ?a ?_); (case a => first | exact Or.inl rfl | exact Or.inr rfl))
  | ((with_reducible refine' rcA_tuple ?a ?_); (case a => first | exact Or.inl rfl | exact Or.inr rfl)))
local macro_rules | `(tactic| walk_at "y4") => `(tactic| first
  | ((with_reducible refine' ite_t ?e ?_); (case e => rfl))
  | ((with_reducible refine' ite_f ?e ?_); (case e => rfl))
  | refine ⟨_, rfl, (show _ ≤ sizeLine by simp only [List.length_cons, List.length_nil]; decide), ?_⟩
  | refine ⟨_, rfl, ?_⟩
  | refine ⟨rfl, ?_⟩
  | refine ⟨_, _, rfl, rfl, ?_⟩)
local macro_rules | `(tactic| walk_at "z") => `(tactic| ((first | walk_at "y1" | walk_at "y2" | walk_at "y3" | walk_at "y4"); try dsimp only [List.set, Int.reduceToNat]))
local macro_rules | `(tactic| walk_at "y") => `(tactic| first | walk_at "z" | (with_reducible refine ws_seq ?_))
local macro_rules | `(tactic| walk_at "s") => `(tactic| ((with_reducible refine ws_seq ?_); repeat walk_at "z"))

abbrev s__law_pick : Stmt := top 15
abbrev N__law_pick : List Str := ["pool", "row"]
theorem sc__law_pick : FnScope N__law_pick ["pool", "row"] (C8.fnScope s__law_pick) := C8.fnScope_by (by decide +kernel)
abbrev s__law_rare : Stmt := top 16
abbrev N__law_rare : List Str := ["pool", "many"]
theorem sc__law_rare : FnScope N__law_rare ["pool", "many"] (C8.fnScope s__law_rare) := C8.fnScope_by (by decide +kernel)
abbrev s__law_few : Stmt := top 17
abbrev N__law_few : List Str := ["pool", "usual", "most"]
theorem sc__law_few : FnScope N__law_few ["pool", "usual", "most"] (C8.fnScope s__law_few) := C8.fnScope_by (by decide +kernel)
def spPick : DSp := fun p rs Φ => ∃ q : Addr, p = some q ∧ ((∃ ds : List D, rs = [.raw (.ref q), .l ds] ∧ ds ≠ [] ∧ ds.length < 2 ^ 62 ∧ ∀ x ∈ ds, Φ (.d x)) ∨
  (∃ s : Str, rs = [.raw (.ref q), .d (.str s)] ∧ 0 < s.length ∧ s.length ≤ sizeLine ∧ ∀ c ∈ s.cps.toList, Φ (.d (.str ⟨#[c]⟩))))
def spRare : DSp := fun p rs Φ => ∃ (q : Addr) (m : Int), p = some q ∧ rs = [.raw (.ref q), .d (.int m)] ∧ 0 < m ∧ m < 2 ^ 64 ∧ ∀ b : Bool, Φ (.d (.bl b))
def spFew : DSp := fun p rs Φ => ∃ (q : Addr) (u m : Int), p = some q ∧ rs = [.raw (.ref q), .d (.int u), .d (.int m)] ∧ 0 ≤ u ∧ u < 2 ^ 62 ∧ 0 ≤ m ∧ m < 2 ^ 62 ∧ ∀ r : Int, 0 ≤ r → (r ≤ u ∨ r ≤ m) → Φ (.d (.int r))
section
variable {P : Program} {w : World} {K : PySem.W.Frag} {mg : Str → Option Value} {base : Heap}
theorem cal__law_pick (D : Dn K mg "_law_pick" s__law_pick ["pool", "row"]) (hB : Blt mg) (c__law_draw : C8.Cal P w K mg base 1 "_law_draw" (FSp K spDraw) []) : C8.Cal P w K mg base 2 "_law_pick" (FSp K spPick) [] := by
  have sc := sc__law_pick
  refine D.cal sc (fun p rs Φ h => ?_) fun f cdv A outer st H E hr p rs Φ h => ?_
  · obtain ⟨q, _, ⟨ds, e, _⟩ | ⟨s, e, _⟩⟩ := h <;> rw [e] <;> rfl
  refine ⟨_, (pss_one (ps_ret (pe_ix ix_seq (pv 1) (C8.pe_c c__law_draw hr (by first | decide | omega) rfl (pa_cons (pv 0) (pa_cons (pe_callB call_lenA (by rfl) hB.len PySem.boot_len (pa_cons (pv 1) pa_nil)) pa_nil))) (fun _ _ => rfl)))), ?_⟩
  try dsimp only [L2.cxOf]
  obtain ⟨q, rfl, ⟨ds, rfl, ne, l, post⟩ | ⟨s, rfl, l0, l, post⟩⟩ := h
  · show WS (g0 K (some q)) _ [.raw (.ref q), .ro ds] _
    have hp : 0 < ds.length := List.length_pos_iff.mpr ne
    repeat walk_at "y"
    refine ⟨_, .cons (.raw _) (.cons (.d _) .nil), q, _, rfl, rfl, by omega, by omega, fun r h0 h1 => ?_⟩
    have hr2 : r.toNat < ds.length := by omega
    refine ro_ix1 rfl (at_nat (j := r.toNat) (by omega) (List.getElem?_eq_getElem hr2)) ?_
    exact ⟨rfl, post _ (List.getElem_mem hr2)⟩
  · show WS (g0 K (some q)) _ [.raw (.ref q), .d (.str s)] _
    repeat walk_at "y"
    refine rc_len2 l ?_
    repeat walk_at "y"
    have hs : s.length = s.cps.toList.length := by simp [Str.length]
    refine ⟨_, .cons (.raw _) (.cons (.d _) .nil), q, _, rfl, rfl, by omega, by have : sizeLine = 16777216 := rfl; omega, fun r h0 h1 => ?_⟩
    have hr2 : r.toNat < s.cps.toList.length := by omega
    refine ro_ix3 l (at_nat (j := r.toNat) (by omega) (List.getElem?_eq_getElem hr2)) ?_
    exact ⟨rfl, post _ (List.getElem_mem hr2)⟩
theorem cal__law_rare (D : Dn K mg "_law_rare" s__law_rare ["pool", "many"]) (hB : Blt mg) (c__law_draw : C8.Cal P w K mg base 1 "_law_draw" (FSp K spDraw) []) : C8.Cal P w K mg base 2 "_law_rare" (FSp K spRare) [] := by
  have sc := sc__law_rare
  refine D.cal sc (fun p rs Φ h => ?_) fun f cdv A outer st H E hr p rs Φ h => ?_
  · obtain ⟨q, m, _, e, _⟩ := h; rw [e]; rfl
  refine ⟨_, (pss_one (ps_ret (pe_cmpR op_eq (C8.pe_c c__law_draw hr (by first | decide | omega) rfl (pa_cons (pv 0) (pa_cons (pv 1) pa_nil))) (pe_op op_sub (pv 1) pe_int) (nomark _)))), ?_⟩
  try dsimp only [L2.cxOf]
  obtain ⟨q, m, rfl, rfl, m0, m1, post⟩ := h
  show WS (g0 K (some q)) _ [.raw (.ref q), .d (.int m)] _
  repeat walk_at "y"
  refine ⟨_, .cons (.raw _) (.cons (.d _) .nil), q, _, rfl, rfl, m0, m1, fun r h0 h1 => ?_⟩
  repeat walk_at "y"
  exact post _
theorem cal__law_few (D : Dn K mg "_law_few" s__law_few ["pool", "usual", "most"]) (hB : Blt mg) (c__law_draw : C8.Cal P w K mg base 1 "_law_draw" (FSp K spDraw) []) (c__law_rare : C8.Cal P w K mg base 2 "_law_rare" (FSp K spRare) []) : C8.Cal P w K mg base 3 "_law_few" (FSp K spFew) [] := by
  have sc := sc__law_few
  refine D.cal sc (fun p rs Φ h => ?_) fun f cdv A outer st H E hr p rs Φ h => ?_
  · obtain ⟨q, u, m, _, e, _⟩ := h; rw [e]; rfl
  refine ⟨_, (pss_cons (ps_if (pt_val (C8.pe_c c__law_rare hr (by first | decide | omega) rfl (pa_cons (pv 0) (pa_cons pe_int pa_nil)))) (pss_one (ps_ret (C8.pe_c c__law_draw hr (by first | decide | omega) rfl (pa_cons (pv 0) (pa_cons (pe_op op_plus (pv 2) pe_int) pa_nil))))) pss_nil)
      (pss_one (ps_ret (C8.pe_c c__law_draw hr (by first | decide | omega) rfl (pa_cons (pv 0) (pa_cons (pe_op op_plus (pv 1) pe_int) pa_nil)))))), ?_⟩
  try dsimp only [L2.cxOf]
  obtain ⟨q, u, m, rfl, rfl, u0, u1, m0, m1, post⟩ := h
  show WS (g0 K (some q)) _ [.raw (.ref q), .d (.int u), .d (.int m)] _
  repeat walk_at "y"
  refine ⟨_, .cons (.raw _) (.cons (.d _) .nil), q, _, rfl, rfl, by decide, by decide, fun b => ⟨b, rfl, ?_⟩⟩
  cases b
  · repeat walk_at "y"
    refine ⟨_, .cons (.raw _) (.cons (.d _) .nil), q, _, rfl, rfl, by omega, by omega, fun r h0 h1 => ?_⟩
    exact ⟨rfl, post r h0 (.inl (by omega))⟩
  · repeat walk_at "y"
    refine ⟨_, .cons (.raw _) (.cons (.d _) .nil), q, _, rfl, rfl, by omega, by omega, fun r h0 h1 => ?_⟩
    exact ⟨rfl, post r h0 (.inr (by omega))⟩
end
end Y

set_option maxHeartbeats 4000000
namespace Y
open PySem L2 PySem.Spec PyProof.Rows
local macro_rules | `(tactic| walk_at "y1") => `(tactic| first
  | with_reducible refine ws_asg ?_
  | with_reducible refine ws_next ?_
  | with_reducible refine ws_brk ?_
  | with_reducible refine ws_cont ?_
  | with_reducible refine ws_if ?_
  | ((with_reducible refine' ws_setL ?e ?_); (case e => rfl))
  | ((with_reducible refine' ws_app ?e ?_); (case e => rfl))
  | ((with_reducible refine' ws_ext ?e ?_); (case e => rfl))
  | with_reducible refine ws_asgG ?_
  | ((with_reducible refine' ws_retOwn ?e ?_); (case e => rfl))
  | with_reducible refine ws_ret ?_
  | with_reducible refine ws_retN ?_
  | with_reducible refine ws_drop ?_)
local macro_rules | `(tactic| walk_at "y2") => `(tactic| first
  | ((with_reducible refine' we_d ?e ?_); (case e => rfl))
  | ((with_reducible refine' we_raw ?e ?_); (case e => rfl))
  | ((with_reducible refine' we_ro ?e ?_); (case e => rfl))
  | ((with_reducible refine' we_m ?e ?_); (case e => rfl))
  | with_reducible refine we_cint ?_
  | with_reducible refine we_cstr ?_
  | with_reducible refine we_cbl ?_
  | with_reducible refine we_cnon ?_
  | with_reducible refine we_op ?_
  | with_reducible refine we_un ?_
  | with_reducible refine we_cb ?_
  | with_reducible refine we_tup ?_
  | with_reducible refine we_lst ?_
  | with_reducible refine wa_nil ?_
  | with_reducible refine wa_cons ?_
  | with_reducible refine we_bm0 ?_
  | with_reducible refine we_bm ?_
  | with_reducible refine we_m0 ?_
  | with_reducible refine we_m1 ?_
  | with_reducible refine we_sl ?_
  | with_reducible refine wo_none ?_
  | with_reducible refine wo_some ?_
  | with_reducible refine we_fld ?_
  | with_reducible refine we_call ?_
  | with_reducible refine we_mk ?_
  | with_reducible refine we_mkS ?_
  | with_reducible refine wt_test ?_
  | with_reducible refine wt_val ?_
  | with_reducible refine wt_and ?_
  | with_reducible refine wt_or ?_
  | with_reducible refine wt_not ?_
  | with_reducible refine wt_yes ?_
  | with_reducible refine wt_truth ?_
  | with_reducible refine we_andV ?_
  | with_reducible refine we_orV ?_
  | with_reducible refine we_notV ?_
  | with_reducible refine we_if ?_
  | with_reducible refine we_craw ?_)
local macro_rules | `(tactic| walk_at "y3") => `(tactic| first
  | with_reducible refine ro_plusI ?_
  | with_reducible refine ro_eqI ?_
  | with_reducible refine ro_eqS ?_
  | with_reducible refine ro_neI ?_
  | with_reducible refine ro_neS ?_
  | ((with_reducible refine' ro_I0 ?e ?_); (case e => rfl))
  | ((with_reducible refine' ro_I ?c ?e ?_); (case e => rfl); (case c => first | decide | omega | exact Or.inr (by decide) | exact Or.inl (by decide) | exact ⟨by decide, by decide +kernel⟩ | exact ⟨by decide, by decide, by decide⟩ | exact Or.inl ⟨by omega, by omega⟩ | exact Or.inr ⟨by omega, by omega⟩ | assumption))
  | ((with_reducible refine' ro_ix1 ?a ?b ?_); (case a => rfl); (case b => first | exact at0 | rfl))
  | ((with_reducible refine' ro_ix2 ?b ?_); (case b => first | exact at0 | rfl))
  | with_reducible refine ro_isN ?_
  | with_reducible refine ro_isA ?_
  | ((with_reducible refine' rc_len1 ?a ?_); (case a => first | exact Or.inl rfl | exact Or.inr rfl))
  | ((with_reducible refine' rc_isi ?a ?b ?_); (case a => rfl); (case b => first | exact kit_NoneType_int | exact kit_NoneType_bool | exact kit_NoneType_str | exact kit_NoneType_tuple | exact kit_NoneType_list | exact kit_bool_int | exact kit_bool_bool | exact kit_bool_str | exact kit_bool_tuple | exact kit_bool_list | exact kit_int_int | exact kit_int_bool | exact kit_int_str | exact kit_int_tuple | exact kit_int_list | exact kit_str_int | exact kit_str_bool | exact kit_str_str | exact kit_str_tuple | exact kit_str_list | exact kit_tuple_int | exact kit_tuple_bool | exact kit_tuple_str | exact kit_tuple_tuple | exact kit_tuple_list | exact kit_list_int | exact kit_list_bool | exact kit_list_str | exact kit_list_tuple | exact kit_list_list))
  | with_reducible refine rcA_abs ?_
  | with_reducible refine rcA_max ?_
  | with_reducible refine rcA_min ?_
  | with_reducible refine rcA_intI ?_
  | with_reducible refine rcA_intB ?_
  | ((with_reducible refine' rcA_list ?a ?_); (case a => first | exact Or.inl rfl | exact Or.inr rfl))
  | ((with_reducible refine' rcA_tuple ?a ?_); (case a => first | exact Or.inl rfl | exact Or.inr rfl)))
local macro_rules | `(tactic| walk_at "y4") => `(tactic| first
  | ((with_reducible refine' ite_t ?e ?_); (case e => rfl))
  | ((with_reducible refine' ite_f ?e ?_); (case e => rfl))
  | refine ⟨_, rfl, (show _ ≤ sizeLine by simp only [List.length_cons, List.length_nil]; decide), ?_⟩
  | refine ⟨_, rfl, ?_⟩
  | refine ⟨rfl, ?_⟩
  | refine ⟨_, _, rfl, rfl, ?_⟩)
local macro_rules | `(tactic| walk_at "z") => `(tactic| ((first | walk_at "y1" | walk_at "y2" | walk_at "y3" | walk_at "y4"); try dsimp only [List.set, Int.reduceToNat]))
local macro_rules | `(tactic| walk_at "y") => `(tactic| first | walk_at "z" | (with_reducible refine ws_seq ?_))
local macro_rules | `(tactic| walk_at "s") => `(tactic| ((with_reducible refine ws_seq ?_); repeat walk_at "z"))

abbrev s__law_same : Stmt := top 18
abbrev N__law_same : List Str := ["got", "due", "k"]
theorem sc__law_same : FnScope N__law_same ["got", "due"] (C8.fnScope s__law_same) := C8.fnScope_by (by decide +kernel)
/-- data of which the law's look says that it is itself: to the depth n -/
def okD : Nat → D → Prop
  | _, .non => True | _, .bl _ => True | _, .int _ => True | _, .str _ => True
  | n + 1, .tup ds => ds.length ≤ 1000000 ∧ ∀ x ∈ ds, okD n x
  | n + 1, .lst ds => ds.length ≤ 1000000 ∧ ∀ x ∈ ds, okD n x
  | _, _ => False
def spSame : Nat → DSp
  | 0 => fun _ _ _ => False
  | n + 1 => fun _ rs Φ => ∃ d : D, rs = [.d d, .d d] ∧ okD n d ∧ Φ (.d (.bl true))
section
variable {P : Program} {w : World} {K : PySem.W.Frag} {mg : Str → Option Value} {base : Heap}
theorem cal__law_same (D : Dn K mg "_law_same" s__law_same ["got", "due"]) (hB : Blt mg) (n : Nat) : C8.Cal P w K mg base n "_law_same" (FSp K (spSame n)) [] := by
  have sc := sc__law_same
  induction n with
  | zero => exact D.none 0
  | succ n ih =>
    have c__law_same := ih
    refine D.cal sc (fun p rs Φ h => ?_) fun f cdv A outer st H E hr p rs Φ h => ?_
    · obtain ⟨d, e, _⟩ := h; rw [e]; rfl
    refine ⟨_, (pss_cons (ps_if (pt_cmpR op_isN (pv 1) pe_non (nomark _)) (pss_one (ps_ret (pe_cmpR op_isN (pv 0) pe_non (nomark _)))) pss_nil)
      (pss_cons (ps_if (pt_cmpR op_isA (pv 1) pe_bl (nomark _)) (pss_one (ps_ret (pe_cmpR op_isA (pv 0) pe_bl (nomark _)))) pss_nil)
      (pss_cons (ps_if (pt_cmpR op_isA (pv 1) pe_bl (nomark _)) (pss_one (ps_ret (pe_cmpR op_isA (pv 0) pe_bl (nomark _)))) pss_nil)
      (pss_cons (ps_if (pt_val (pe_callB call_isi (by rfl) hB.isinstance (by decide +kernel) (pa_cons (pv 1) (pa_cons (pe_bltn (v := .ty "int") (by rfl) hB.int (by decide +kernel) rfl) pa_nil)))) (pss_one (ps_ret (pe_and (pe_callB call_isi (by rfl) hB.isinstance (by decide +kernel) (pa_cons (pv 0) (pa_cons (pe_bltn (v := .ty "int") (by rfl) hB.int (by decide +kernel) rfl) pa_nil))) (pe_and (pe_not (pe_callB call_isi (by rfl) hB.isinstance (by decide +kernel) (pa_cons (pv 0) (pa_cons (pe_bltn (v := .ty "bool") (by rfl) hB.bool (by decide +kernel) rfl) pa_nil)))) (pe_one (pe_cmpR op_eq (pv 0) (pv 1) (nomark _))))))) pss_nil)
      (pss_cons (ps_if (pt_val (pe_callB call_isi (by rfl) hB.isinstance (by decide +kernel) (pa_cons (pv 1) (pa_cons (pe_bltn (v := .ty "str") (by rfl) hB.str (by decide +kernel) rfl) pa_nil)))) (pss_one (ps_ret (pe_and (pe_callB call_isi (by rfl) hB.isinstance (by decide +kernel) (pa_cons (pv 0) (pa_cons (pe_bltn (v := .ty "str") (by rfl) hB.str (by decide +kernel) rfl) pa_nil))) (pe_one (pe_cmpR op_eq (pv 0) (pv 1) (nomark _)))))) pss_nil)
      (pss_cons (ps_if (pt_val (pe_callB call_isi (by rfl) hB.isinstance (by decide +kernel) (pa_cons (pv 1) (pa_cons (pe_bltn (v := .ty "tuple") (by rfl) hB.tuple (by decide +kernel) rfl) pa_nil)))) (pss_one (ps_if (PW.pt (pw_or (pt_not (pt_val (pe_callB call_isi (by rfl) hB.isinstance (by decide +kernel) (pa_cons (pv 0) (pa_cons (pe_bltn (v := .ty "tuple") (by rfl) hB.tuple (by decide +kernel) rfl) pa_nil))))) (pw_or1 (pt_cmpR op_ne (pe_callB call_lenA (by rfl) hB.len PySem.boot_len (pa_cons (pv 0) pa_nil)) (pe_callB call_lenA (by rfl) hB.len PySem.boot_len (pa_cons (pv 1) pa_nil)) (nomark _))))) (pss_one (ps_ret pe_bl)) pss_nil)) (pss_one (ps_if (PW.pt (pw_or (pt_not (pt_val (pe_callB call_isi (by rfl) hB.isinstance (by decide +kernel) (pa_cons (pv 0) (pa_cons (pe_bltn (v := .ty "list") (by rfl) hB.list (by decide +kernel) rfl) pa_nil))))) (pw_or1 (pt_cmpR op_ne (pe_callB call_lenA (by rfl) hB.len PySem.boot_len (pa_cons (pv 0) pa_nil)) (pe_callB call_lenA (by rfl) hB.len PySem.boot_len (pa_cons (pv 1) pa_nil)) (nomark _))))) (pss_one (ps_ret pe_bl)) pss_nil)))
      (pss_cons (ps_for PassesOwn.never rfl (pi_range1 rfl hB.range (pa_cons (pe_callB call_lenA (by rfl) hB.len PySem.boot_len (pa_cons (pv 1) pa_nil)) pa_nil)) (pg_name (i := 2) sc.nd rfl (by first | exact Or.inl rfl | exact Or.inr rfl)) (pss_one (ps_if (pt_not (pt_val (C8.pe_c c__law_same hr (by first | decide | omega) rfl (pa_cons (pe_ix ix_seq (pv 0) (pv 2) (fun _ _ => rfl)) (pa_cons (pe_ix ix_seq (pv 1) (pv 2) (fun _ _ => rfl)) pa_nil))))) (pss_one (ps_ret pe_bl)) pss_nil)))
      (pss_one (ps_ret pe_bl))))))))), ?_⟩
    try dsimp only [L2.cxOf]
    obtain ⟨d, rfl, ok, post⟩ := h
    show WS (g0 K p) _ [.d d, .d d, .any] _
    have seq : ∀ (ds : List Y.D) (d : Y.D) (n : Nat), c__law_same = c__law_same := fun _ _ _ => rfl
    have ends : ∀ b : Bool, b = true → Φ (.d (.bl b)) := fun b e => by rw [e]; exact post
    cases d with
    | non => repeat walk_at "y"
             exact post
    | bl b =>
      cases b <;> repeat walk_at "y"
      all_goals exact post
    | int i =>
      repeat walk_at "y"
      exact ends _ (by simp)
    | str s =>
      repeat walk_at "y"
      exact ends _ (by simp)
    | tup ds =>
      cases n with
      | zero => exact ok.elim
      | succ n =>
        obtain ⟨ok1, ok2⟩ := ok
        repeat walk_at "y"
        refine ite_f (by simp) ?_
        repeat walk_at "y"
        refine ws_for ?_
        refine wi_range1 ?_
        repeat walk_at "y"
        refine ⟨by omega, by omega, fun _ sv => ∃ v, sv = [.d (.tup ds), .d (.tup ds), v], ⟨_, rfl⟩, fun i x sv' hx hI => ?_, fun sv' hI => ?_⟩
        · obtain ⟨v, rfl⟩ := hI
          obtain ⟨rfl, hi⟩ := rangeD_get hx
          rw [Int.toNat_natCast] at hi
          refine ⟨_, wg_name ?_⟩
          have ha : atI ds ((0 : Int) + (i : Nat)) = some ds[i] := at_nat (j := i) (by omega) (List.getElem?_eq_getElem hi)
          repeat walk_at "y"
          refine ro_ix2 ha ?_
          repeat walk_at "y"
          refine ro_ix2 ha ?_
          repeat walk_at "y"
          refine ⟨_, .cons (.d _) (.cons (.d _) .nil), _, rfl, ok2 _ (List.getElem_mem hi), ?_⟩
          repeat walk_at "y"
          exact ⟨_, rfl⟩
        · obtain ⟨v, rfl⟩ := hI
          repeat walk_at "y"
          exact post
    | lst ds =>
      cases n with
      | zero => exact ok.elim
      | succ n =>
        obtain ⟨ok1, ok2⟩ := ok
        repeat walk_at "y"
        refine ite_f (by simp) ?_
        repeat walk_at "y"
        refine ws_for ?_
        refine wi_range1 ?_
        repeat walk_at "y"
        refine ⟨by omega, by omega, fun _ sv => ∃ v, sv = [.d (.lst ds), .d (.lst ds), v], ⟨_, rfl⟩, fun i x sv' hx hI => ?_, fun sv' hI => ?_⟩
        · obtain ⟨v, rfl⟩ := hI
          obtain ⟨rfl, hi⟩ := rangeD_get hx
          rw [Int.toNat_natCast] at hi
          refine ⟨_, wg_name ?_⟩
          have ha : atI ds ((0 : Int) + (i : Nat)) = some ds[i] := at_nat (j := i) (by omega) (List.getElem?_eq_getElem hi)
          repeat walk_at "y"
          refine ro_ix1 rfl ha ?_
          repeat walk_at "y"
          refine ro_ix1 rfl ha ?_
          repeat walk_at "y"
          refine ⟨_, .cons (.d _) (.cons (.d _) .nil), _, rfl, ok2 _ (List.getElem_mem hi), ?_⟩
          repeat walk_at "y"
          exact ⟨_, rfl⟩
        · obtain ⟨v, rfl⟩ := hI
          repeat walk_at "y"
          exact post
    | obj C ns ds => cases n <;> exact ok.elim
    | dct ks ds => cases n <;> exact ok.elim
    | dtt ks ds => cases n <;> exact ok.elim
end
end Y

namespace Y
open PySem L2
/-! ### k34: the mirror -/
inductive In where
  | word (w : Str) | formula (d : D) | note (n : Int) (d : D) | mark (w : Str) | gap | tie | hyph | cut | strong (xs : List In)
mutual
def encI : In → D
  | .word w => .tup [.str "word", .str w]
  | .formula d => .tup [.str "formula", d]
  | .note n d => .tup [.str "note", .int n, d]
  | .mark w => .tup [.str "mark", .str w]
  | .gap => .tup [.str "gap"]
  | .tie => .tup [.str "tie"]
  | .hyph => .tup [.str "hyph"]
  | .cut => .tup [.str "cut"]
  | .strong xs => .tup [.str "strong", .tup (encIs xs)]
def encIs : List In → List D
  | [] => []
  | x :: xs => encI x :: encIs xs
end
theorem encIs_map : ∀ xs : List In, encIs xs = xs.map encI
  | [] => by simp [encIs]
  | x :: xs => by simp [encIs, encIs_map xs]
mutual
def dep : In → Nat
  | .strong xs => deps xs + 1
  | .word _ => 0 | .formula _ => 0 | .note _ _ => 0 | .mark _ => 0 | .gap => 0 | .tie => 0 | .hyph => 0 | .cut => 0
def deps : List In → Nat
  | [] => 0
  | x :: xs => max (dep x) (deps xs)
end
mutual
def inF (f s : Str) : In → List (In × Str)
  | .strong xs => inFs s s xs
  | .word w => [(.word w, f)] | .formula d => [(.formula d, f)] | .note n d => [(.note n d, f)] | .mark w => [(.mark w, f)]
  | .gap => [(.gap, f)] | .tie => [(.tie, f)] | .hyph => [(.hyph, f)] | .cut => [(.cut, f)]
def inFs (f s : Str) : List In → List (In × Str)
  | [] => []
  | x :: xs => inF f s x ++ inFs f s xs
end
def isStrong : In → Bool
  | .strong _ => true | _ => false
def encP (p : In × Str) : D := .tup [encI p.1, .str p.2]
theorem inFs_append (f s : Str) : ∀ xs ys : List In, inFs f s (xs ++ ys) = inFs f s xs ++ inFs f s ys
  | [], ys => by simp [inFs]
  | x :: xs, ys => by simp [inFs, inFs_append f s xs ys]
theorem inFs_take {f s : Str} {xs : List In} {i : Nat} {x : In} (h : xs[i]? = some x) : inFs f s (xs.take (i + 1)) = inFs f s (xs.take i) ++ inF f s x := by
  obtain ⟨hi, e⟩ := List.getElem?_eq_some_iff.mp h
  rw [List.take_succ_eq_append_getElem hi, inFs_append, e]
  simp [inFs]
theorem inFs_len (f s : Str) (xs : List In) (i : Nat) : (inFs f s (xs.take i)).length ≤ (inFs f s xs).length := by
  conv => rhs; rw [← List.take_append_drop i xs, inFs_append, List.length_append]
  omega
theorem deps_mem : ∀ {xs : List In} {x : In}, x ∈ xs → dep x ≤ deps xs
  | y :: ys, x, h => by
    rw [deps]
    rcases List.mem_cons.mp h with rfl | h
    · omega
    · have := deps_mem h; omega
theorem not_strong {x : In} (h : isStrong x = false) : (∀ f s, inF f s x = [(x, f)]) ∧ ∃ k rest, encI x = .tup (.str k :: rest) ∧ decide (k = Str.ofString "strong") = false := by
  cases x with
  | strong xs => exact absurd h (by simp [isStrong])
  | _ => exact ⟨fun f s => by simp only [inF], by simp only [encI]; exact ⟨_, _, rfl, by decide +kernel⟩⟩
/-- a solid, a joint -/
inductive So where
  | letter (f : Str) (c : Nat) | formula (d : D) | note (n : Int)
inductive Jo where
  | none | gap (f : Str) | tie (f : Str) | hyph | cut
def encS : So → D
  | .letter f c => .tup [.str "letter", .str f, .str ⟨#[c]⟩]
  | .formula d => .tup [.str "formula", d]
  | .note n => .tup [.str "note", .int n]
def encJ : Jo → D
  | .none => .tup [.str "none"]
  | .gap f => .tup [.str "gap", .str f]
  | .tie f => .tup [.str "tie", .str f]
  | .hyph => .tup [.str "hyph"]
  | .cut => .tup [.str "cut"]
def solidsIn (f : Str) : In → List So
  | .word w => w.cps.toList.map (So.letter f)
  | .formula d => [.formula d]
  | .note n _ => [.note n]
  | _ => []
/-- what stands between two solids: 1 hyph, 2 gap, 3 tie, 4 cut -/
inductive Bt where
  | hyph | gap | tie | cut
  deriving DecidableEq
def Bt.s : Bt → Str
  | .hyph => "hyph" | .gap => "gap" | .tie => "tie" | .cut => "cut"
def encB (p : Bt × Str) : D := .tup [.str p.1.s, .str p.2]
def btOf : In → Option Bt
  | .hyph => some .hyph | .gap => some .gap | .tie => some .tie | .cut => some .cut | _ => none
def isLetter : So → Bool
  | .letter _ _ => true | _ => false
def roomOf : List (Bt × Str) → Option Str
  | [] => none
  | (b, f) :: r => if b = .gap ∨ b = .tie then some f else roomOf r
def jointOf (l r : So) (bs : List (Bt × Str)) : Jo :=
  if Bt.cut ∈ bs.map (·.1) then .cut
  else if Bt.tie ∈ bs.map (·.1) then .tie ((roomOf bs).getD "")
  else if Bt.gap ∈ bs.map (·.1) then .gap ((roomOf bs).getD "")
  else if Bt.hyph ∈ bs.map (·.1) ∧ isLetter l = true ∧ isLetter r = true then .hyph
  else .none
structure SS where
  so : List So
  jo : List Jo
  ma : List (Nat × Str)
  bt : List (Bt × Str)
def addSolid (s : SS) (x : So) : SS := ⟨s.so ++ [x], (match s.so.getLast? with | some l => s.jo ++ [jointOf l x s.bt] | none => s.jo), s.ma, []⟩
def addMark (s : SS) : In → SS
  | .mark w => { s with ma := s.ma ++ [(s.so.length - 1, w)] }
  | _ => s
def addBt (s : SS) (f : Str) (x : In) : SS := match btOf x with
  | some b => { s with bt := s.bt ++ [(b, f)] }
  | none => s
def step1 (s : SS) (p : In × Str) : SS := addBt ((solidsIn p.2 p.1).foldl addSolid (addMark s p.1)) p.2 p.1
def encM (p : Nat × Str) : D := .tup [.int p.1, .str p.2]
def encSS (s : SS) : D := .tup [.tup (s.so.map encS), .tup (s.jo.map encJ), .tup (s.ma.map encM)]
def solidsOf (f g : Str) (xs : List In) : SS := (inFs f g xs).foldl step1 ⟨[], [], [], []⟩
/-! ### _joint -/
def hK : D → D
  | .tup (k :: _) => k | _ => .non
def hF : D → D
  | .tup (_ :: f :: _) => f | _ => .non
def qF : D → Bool
  | .tup (.str k :: _) => decide (k ∈ [Str.ofString "gap", Str.ofString "tie"]) | _ => false
theorem kinds_eq : ∀ bs : List (Bt × Str), (bs.map encB).map hK = (bs.map (·.1.s)).map D.str
  | [] => rfl
  | b :: bs => congrArg (D.str b.1.s :: ·) (kinds_eq bs)
theorem bt_inj : ∀ {a b : Bt}, a.s = b.s → a = b := by
  intro a b h
  cases a <;> cases b <;> first | rfl | exact absurd h (by decide +kernel)
theorem mem_s (b : Bt) (bs : List (Bt × Str)) : decide (b.s ∈ bs.map (·.1.s)) = decide (b ∈ bs.map (·.1)) := by
  induction bs with
  | nil => rfl
  | cons p bs ih =>
    rw [decide_eq_decide] at ih ⊢
    rw [List.map_cons, List.map_cons, List.mem_cons, List.mem_cons, ih]
    exact ⟨fun h => h.imp bt_inj id, fun h => h.imp (congrArg Bt.s) id⟩
def isRoom (p : Bt × Str) : Bool := decide (p.1 = .gap ∨ p.1 = .tie)
theorem qF_eq (p : Bt × Str) : qF (encB p) = isRoom p := by
  have h : ∀ b : Bt, decide (b.s ∈ [Str.ofString "gap", Str.ofString "tie"]) = decide (b = .gap ∨ b = .tie) := by intro b; cases b <;> decide +kernel
  exact h p.1
theorem fonts_eq : ∀ bs : List (Bt × Str), ((bs.map encB).filter qF).map hF = (bs.filter isRoom).map fun p => D.str p.2
  | [] => rfl
  | b :: bs => by
    rw [List.map_cons, List.filter_cons, List.filter_cons, qF_eq]
    split
    · rw [List.map_cons, List.map_cons, fonts_eq bs]; rfl
    · exact fonts_eq bs
theorem room_at : ∀ {bs : List (Bt × Str)}, (Bt.tie ∈ bs.map (·.1) ∨ Bt.gap ∈ bs.map (·.1)) → ∃ r, (bs.filter isRoom).map (fun p => D.str p.2) = .str ((roomOf bs).getD "") :: r
  | [], h => by simp at h
  | (b, f) :: bs, h => by
    rw [List.filter_cons]
    unfold roomOf
    by_cases e : b = .gap ∨ b = .tie
    · have : isRoom (b, f) = true := decide_eq_true e
      rw [if_pos this, if_pos e]
      exact ⟨_, rfl⟩
    · have : ¬ isRoom (b, f) = true := by simpa [isRoom] using e
      rw [if_neg this, if_neg e]
      refine room_at ?_
      simp only [List.map_cons, List.mem_cons] at h
      rcases h with (h | h) | (h | h)
      · exact absurd (.inr h.symm) e
      · exact .inl h
      · exact absurd (.inl h.symm) e
      · exact .inr h
theorem encS_kind (x : So) : ∃ k r, encS x = .tup (.str k :: r) ∧ decide (k = Str.ofString "letter") = isLetter x := by
  cases x with
  | letter f c => exact ⟨_, _, rfl, (show decide (Str.ofString "letter" = Str.ofString "letter") = true by decide +kernel)⟩
  | formula d => exact ⟨_, _, rfl, (show decide (Str.ofString "formula" = Str.ofString "letter") = false by decide +kernel)⟩
  | note n => exact ⟨_, _, rfl, (show decide (Str.ofString "note" = Str.ofString "letter") = false by decide +kernel)⟩
end Y

set_option maxHeartbeats 4000000
namespace Y
open PySem L2 PySem.Spec PyProof.Rows
local macro_rules | `(tactic| walk_at "y1") => `(tactic| first
  | with_reducible refine ws_asg ?_
  | with_reducible refine ws_next ?_
  | with_reducible refine ws_brk ?_
  | with_reducible refine ws_cont ?_
  | with_reducible refine ws_if ?_
  | ((with_reducible refine' ws_setL ?e ?_); (case e => rfl))
  | ((with_reducible refine' ws_app ?e ?_); (case e => rfl))
  | ((with_reducible refine' ws_ext ?e ?_); (case e => rfl))
  | with_reducible refine ws_asgG ?_
  | ((with_reducible refine' ws_retOwn ?e ?_); (case e => rfl))
  | with_reducible refine ws_ret ?_
  | with_reducible refine ws_retN ?_
  | with_reducible refine ws_drop ?_)
local macro_rules | `(tactic| walk_at "y2") => `(tactic| first
  | ((with_reducible refine' we_d ?e ?_); (case e => rfl))
  | ((with_reducible refine' we_raw ?e ?_); (case e => rfl))
  | ((with_reducible refine' we_ro ?e ?_); (case e => rfl))
  | ((with_reducible refine' we_m ?e ?_); (case e => rfl))
  | with_reducible refine we_cint ?_
  | with_reducible refine we_cstr ?_
  | with_reducible refine we_cbl ?_
  | with_reducible refine we_cnon ?_
  | with_reducible refine we_op ?_
  | with_reducible refine we_un ?_
  | with_reducible refine we_cb ?_
  | with_reducible refine we_tup ?_
  | with_reducible refine we_lst ?_
  | with_reducible refine wa_nil ?_
  | with_reducible refine wa_cons ?_
  | with_reducible refine we_bm0 ?_
  | with_reducible refine we_bm ?_
  | with_reducible refine we_m0 ?_
  | with_reducible refine we_m1 ?_
  | with_reducible refine we_sl ?_
  | with_reducible refine wo_none ?_
  | with_reducible refine wo_some ?_
  | with_reducible refine we_fld ?_
  | with_reducible refine we_call ?_
  | with_reducible refine we_mk ?_
  | with_reducible refine we_mkS ?_
  | with_reducible refine wt_test ?_
  | with_reducible refine wt_val ?_
  | with_reducible refine wt_and ?_
  | with_reducible refine wt_or ?_
  | with_reducible refine wt_not ?_
  | with_reducible refine wt_yes ?_
  | with_reducible refine wt_truth ?_
  | with_reducible refine we_andV ?_
  | with_reducible refine we_orV ?_
  | with_reducible refine we_notV ?_
  | with_reducible refine we_if ?_
  | with_reducible refine we_craw ?_)
local macro_rules | `(tactic| walk_at "y3") => `(tactic| first
  | with_reducible refine ro_plusI ?_
  | with_reducible refine ro_eqI ?_
  | with_reducible refine ro_eqS ?_
  | with_reducible refine ro_neI ?_
  | with_reducible refine ro_neS ?_
  | ((with_reducible refine' ro_I0 ?e ?_); (case e => rfl))
  | ((with_reducible refine' ro_I ?c ?e ?_); (case e => rfl); (case c => first | decide | omega | exact Or.inr (by decide) | exact Or.inl (by decide) | exact ⟨by decide, by decide +kernel⟩ | exact ⟨by decide, by decide, by decide⟩ | exact Or.inl ⟨by omega, by omega⟩ | exact Or.inr ⟨by omega, by omega⟩ | assumption))
  | ((with_reducible refine' ro_ix1 ?a ?b ?_); (case a => rfl); (case b => first | exact at0 | rfl))
  | ((with_reducible refine' ro_ix2 ?b ?_); (case b => first | exact at0 | rfl))
  | with_reducible refine ro_isN ?_
  | with_reducible refine ro_isA ?_
  | ((with_reducible refine' rc_len1 ?a ?_); (case a => first | exact Or.inl rfl | exact Or.inr rfl))
  | ((with_reducible refine' rc_isi ?a ?b ?_); (case a => rfl); (case b => first | exact kit_NoneType_int | exact kit_NoneType_bool | exact kit_NoneType_str | exact kit_NoneType_tuple | exact kit_NoneType_list | exact kit_bool_int | exact kit_bool_bool | exact kit_bool_str | exact kit_bool_tuple | exact kit_bool_list | exact kit_int_int | exact kit_int_bool | exact kit_int_str | exact kit_int_tuple | exact kit_int_list | exact kit_str_int | exact kit_str_bool | exact kit_str_str | exact kit_str_tuple | exact kit_str_list | exact kit_tuple_int | exact kit_tuple_bool | exact kit_tuple_str | exact kit_tuple_tuple | exact kit_tuple_list | exact kit_list_int | exact kit_list_bool | exact kit_list_str | exact kit_list_tuple | exact kit_list_list))
  | with_reducible refine rcA_abs ?_
  | with_reducible refine rcA_max ?_
  | with_reducible refine rcA_min ?_
  | with_reducible refine rcA_intI ?_
  | with_reducible refine rcA_intB ?_
  | ((with_reducible refine' rcA_list ?a ?_); (case a => first | exact Or.inl rfl | exact Or.inr rfl))
  | ((with_reducible refine' rcA_tuple ?a ?_); (case a => first | exact Or.inl rfl | exact Or.inr rfl)))
local macro_rules | `(tactic| walk_at "y4") => `(tactic| first
  | ((with_reducible refine' ite_t ?e ?_); (case e => rfl))
  | ((with_reducible refine' ite_f ?e ?_); (case e => rfl))
  | refine ⟨_, rfl, (show _ ≤ sizeLine by simp only [List.length_cons, List.length_nil]; decide), ?_⟩
  | refine ⟨_, rfl, ?_⟩
  | refine ⟨rfl, ?_⟩
  | refine ⟨_, _, rfl, rfl, ?_⟩)
local macro_rules | `(tactic| walk_at "z") => `(tactic| ((first | walk_at "y1" | walk_at "y2" | walk_at "y3" | walk_at "y4"); try dsimp only [List.set, Int.reduceToNat]))
local macro_rules | `(tactic| walk_at "y") => `(tactic| first | walk_at "z" | (with_reducible refine ws_seq ?_))
local macro_rules | `(tactic| walk_at "s") => `(tactic| ((with_reducible refine ws_seq ?_); repeat walk_at "z"))

abbrev s_item_inlines : Stmt := top 2
abbrev N_item_inlines : List Str := ["n", "inlines"]
theorem sc_item_inlines : FnScope N_item_inlines ["n", "inlines"] (C8.fnScope s_item_inlines) := C8.fnScope_by (by decide +kernel)
abbrev s_note_inlines : Stmt := top 3
abbrev N_note_inlines : List Str := ["n", "inlines"]
theorem sc_note_inlines : FnScope N_note_inlines ["n", "inlines"] (C8.fnScope s_note_inlines) := C8.fnScope_by (by decide +kernel)
abbrev s__in_fonts : Stmt := top 4
abbrev N__in_fonts : List Str := ["inlines", "font", "strong", "found", "inline"]
theorem sc__in_fonts : FnScope N__in_fonts ["inlines", "font", "strong"] (C8.fnScope s__in_fonts) := C8.fnScope_by (by decide +kernel)
def spItem : DSp := fun _ rs Φ => ∃ (n : Int) (ds : List D), rs = [.d (.int n), .d (.tup ds)] ∧ 0 ≤ n ∧ n ≤ 1000 ∧ ds.length ≤ 1000000 ∧ Φ (.d (.tup (.tup [.str "word", .str (toString n ++ ".")] :: .tup [.str "tie"] :: ds)))
def spNote : DSp := fun _ rs Φ => ∃ (n : Int) (ds : List D), rs = [.d (.int n), .d (.tup ds)] ∧ ds.length ≤ 1000000 ∧ Φ (.d (.tup (.tup [.str "note", .int n, .tup []] :: .tup [.str "tie"] :: ds)))
def spInF : Nat → DSp
  | 0 => fun _ _ _ => False
  | n + 1 => fun _ rs Φ => ∃ (xs : List In) (f s : Str), rs = [.d (.tup (encIs xs)), .d (.str f), .d (.str s)] ∧ deps xs ≤ n ∧ (inFs f s xs).length ≤ 1000000 ∧ Φ (.nl ((inFs f s xs).map encP))
section
variable {P : Program} {w : World} {K : PySem.W.Frag} {mg : Str → Option Value} {base : Heap}
theorem cal_item_inlines (D : Dn K mg "item_inlines" s_item_inlines ["n", "inlines"]) (hB : Blt mg) : C8.Cal P w K mg base 1 "item_inlines" (FSp K spItem) [] := by
  have sc := sc_item_inlines
  refine D.cal sc (fun p rs Φ h => ?_) fun f cdv A outer st H E hr p rs Φ h => ?_
  · obtain ⟨n, ds, e, _⟩ := h; rw [e]; rfl
  refine ⟨_, (pss_one (ps_ret (pe_op op_plus (pe_tup (pa_cons (pe_tup (pa_cons pe_str (pa_cons (pe_op op_plus (pe_callTy call_strA (by rfl) hB.str (by decide +kernel) (pa_cons (pv 0) pa_nil)) pe_str) pa_nil))) (pa_cons (pe_tup (pa_cons pe_str pa_nil)) pa_nil))) (pe_callTy call_tupleA (by rfl) hB.tuple (by decide +kernel) (pa_cons (pv 1) pa_nil))))), ?_⟩
  try dsimp only [L2.cxOf]
  obtain ⟨n, ds, rfl, n0, n1, l, post⟩ := h
  show WS (g0 K p) _ [.d (.int n), .d (.tup ds)] _
  repeat walk_at "y"
  refine rcA_str (Nat.lt_trans (PySem.Flt.log2_lt_of (k := 62) (by decide) (by omega)) (by decide)) ?_
  repeat walk_at "y"
  refine ro_plusS ?_ ?_
  · obtain ⟨m, rfl⟩ : ∃ m : Nat, n = (m : Int) := ⟨n.toNat, by omega⟩
    have := small_str m (by omega)
    rw [show (Str.ofString (toString (m : Int))).length = (toString (m : Int) : String).length from PySem.ofString_length _]
    show _ + 1 ≤ 16777216
    omega
  repeat walk_at "y"
  refine ro_plusT (by simp) (by show 2 + ds.length ≤ 16777216; omega) ?_
  exact ⟨rfl, post⟩
theorem cal_note_inlines (D : Dn K mg "note_inlines" s_note_inlines ["n", "inlines"]) (hB : Blt mg) : C8.Cal P w K mg base 1 "note_inlines" (FSp K spNote) [] := by
  have sc := sc_note_inlines
  refine D.cal sc (fun p rs Φ h => ?_) fun f cdv A outer st H E hr p rs Φ h => ?_
  · obtain ⟨n, ds, e, _⟩ := h; rw [e]; rfl
  refine ⟨_, (pss_one (ps_ret (pe_op op_plus (pe_tup (pa_cons (pe_tup (pa_cons pe_str (pa_cons (pv 0) (pa_cons (pe_tup pa_nil) pa_nil)))) (pa_cons (pe_tup (pa_cons pe_str pa_nil)) pa_nil))) (pe_callTy call_tupleA (by rfl) hB.tuple (by decide +kernel) (pa_cons (pv 1) pa_nil))))), ?_⟩
  try dsimp only [L2.cxOf]
  obtain ⟨n, ds, rfl, l, post⟩ := h
  show WS (g0 K p) _ [.d (.int n), .d (.tup ds)] _
  repeat walk_at "y"
  refine ro_plusT (by simp) (by show 2 + ds.length ≤ 16777216; omega) ?_
  exact ⟨rfl, post⟩
theorem cal__in_fonts (D : Dn K mg "_in_fonts" s__in_fonts ["inlines", "font", "strong"]) (hB : Blt mg) (n : Nat) : C8.Cal P w K mg base n "_in_fonts" (FSp K (spInF n)) [] := by
  have sc := sc__in_fonts
  induction n with
  | zero => exact D.none 0
  | succ n ih =>
    have c__in_fonts := ih
    refine D.cal sc (fun p rs Φ h => ?_) fun f cdv A outer st H E hr p rs Φ h => ?_
    · obtain ⟨xs, f, s, e, _⟩ := h; rw [e]; rfl
    refine ⟨_, (pss_cons (ps_set (i := 3) sc.nd rfl (by first | exact Or.inl rfl | exact Or.inr rfl) (pe_lst pa_nil))
      (pss_cons (ps_for PassesOwn.never rfl (pi_tup (pv 0)) (pg_name (i := 4) sc.nd rfl (by first | exact Or.inl rfl | exact Or.inr rfl)) (pss_one (ps_if (pt_cmpR op_eq (pe_ix ix_seq (pv 4) pe_int (fun _ _ => rfl)) pe_str (nomark _)) (pss_one (ps_expr (pe_bm PySem.F.plainAttrs_list PySem.F.slot_list_extend PySem.F.type_list_extend mt_extend (pv 3) (pa_cons (C8.pe_c c__in_fonts hr (by first | decide | omega) rfl (pa_cons (pe_ix ix_seq (pv 4) pe_int (fun _ _ => rfl)) (pa_cons (pv 2) (pa_cons (pv 2) pa_nil)))) pa_nil)))) (pss_one (ps_expr (pe_bm PySem.F.plainAttrs_list PySem.F.slot_list_append PySem.F.type_list_append mt_append (pv 3) (pa_cons (pe_tup (pa_cons (pv 4) (pa_cons (pv 1) pa_nil))) pa_nil)))))))
      (pss_one (ps_ret (pv 3))))), ?_⟩
    try dsimp only [L2.cxOf]
    obtain ⟨xs, f, s, rfl, hd, hl, post⟩ := h
    show WS (g0 K p) _ [.d (.tup (encIs xs)), .d (.str f), .d (.str s), .any, .any] _
    rw [encIs_map]
    repeat walk_at "y"
    refine ws_for ?_
    refine wi_tup ?_
    repeat walk_at "y"
    refine ⟨fun i sv => ∃ v, sv = [.d (.tup (xs.map encI)), .d (.str f), .d (.str s), .own ((inFs f s (xs.take i)).map encP), v], ⟨.any, by simp [inFs]⟩, fun i x sv' hx hI => ?_, fun sv' hI => ?_⟩
    · obtain ⟨v, rfl⟩ := hI
      rw [List.getElem?_map] at hx
      cases hxi : xs[i]? with
      | none => rw [hxi] at hx; cases hx
      | some z =>
        rw [hxi] at hx
        cases hx
        have ht := inFs_take (f := f) (s := s) hxi
        have hlen := inFs_len f s xs (i + 1)
        refine ⟨_, wg_name ?_⟩
        cases hz : isStrong z with
        | true =>
          cases z with
          | strong zs =>
            have hdz := deps_mem (List.mem_of_getElem? hxi)
            rw [dep] at hdz
            rw [inF] at ht
            rw [ht, List.length_append] at hlen
            simp only [encI]
            repeat walk_at "y"
            cases n with
            | zero => omega
            | succ n =>
              refine ⟨_, .cons (.d _) (.cons (.d _) (.cons (.d _) .nil)), zs, s, s, rfl, by omega, by omega, _, .inr rfl, ?_, .d (.tup [.str "strong", .tup (encIs zs)]), ?_⟩
              · rw [List.length_map, List.length_map]
                show _ ≤ 16777216
                omega
              · rw [ht, List.map_append]
          | _ => cases hz
        | false =>
          obtain ⟨e1, k, rest, e2, e3⟩ := not_strong hz
          rw [e1] at ht
          rw [ht, List.length_append] at hlen
          have e4 : encP (z, f) = .tup [encI z, .str f] := rfl
          rw [e2] at e4 ⊢
          repeat walk_at "y"
          refine ite_f e3 ?_
          repeat walk_at "y"
          refine ⟨?_, .d (.tup (.str k :: rest)), ?_⟩
          · rw [List.length_map]
            show _ < 16777216
            omega
          · rw [ht, List.map_append, ← e4]; rfl
    · obtain ⟨v, rfl⟩ := hI
      rw [List.length_map, List.take_length]
      repeat walk_at "y"
      exact post
end
end Y

set_option maxHeartbeats 4000000
namespace Y
open PySem L2 PySem.Spec PyProof.Rows
local macro_rules | `(tactic| walk_at "y1") => `(tactic| first
  | with_reducible refine ws_asg ?_
  | with_reducible refine ws_next ?_
  | with_reducible refine ws_brk ?_
  | with_reducible refine ws_cont ?_
  | with_reducible refine ws_if ?_
  | ((with_reducible refine' ws_setL ?e ?_); (case e => rfl))
  | ((with_reducible refine' ws_app ?e ?_); (case e => rfl))
  | ((with_reducible refine' ws_ext ?e ?_); (case e => rfl))
  | with_reducible refine ws_asgG ?_
  | ((with_reducible refine' ws_retOwn ?e ?_); (case e => rfl))
  | with_reducible refine ws_ret ?_
  | with_reducible refine ws_retN ?_
  | with_reducible refine ws_drop ?_)
local macro_rules | `(tactic| walk_at "y2") => `(tactic| first
  | ((with_reducible refine' we_d ?e ?_); (case e => rfl))
  | ((with_reducible refine' we_raw ?e ?_); (case e => rfl))
  | ((with_reducible refine' we_ro ?e ?_); (case e => rfl))
  | ((with_reducible refine' we_m ?e ?_); (case e => rfl))
  | with_reducible refine we_cint ?_
  | with_reducible refine we_cstr ?_
  | with_reducible refine we_cbl ?_
  | with_reducible refine we_cnon ?_
  | with_reducible refine we_op ?_
  | with_reducible refine we_un ?_
  | with_reducible refine we_cb ?_
  | with_reducible refine we_tup ?_
  | with_reducible refine we_lst ?_
  | with_reducible refine wa_nil ?_
  | with_reducible refine wa_cons ?_
  | with_reducible refine we_bm0 ?_
  | with_reducible refine we_bm ?_
  | with_reducible refine we_m0 ?_
  | with_reducible refine we_m1 ?_
  | with_reducible refine we_sl ?_
  | with_reducible refine wo_none ?_
  | with_reducible refine wo_some ?_
  | with_reducible refine we_fld ?_
  | with_reducible refine we_call ?_
  | with_reducible refine we_mk ?_
  | with_reducible refine we_mkS ?_
  | with_reducible refine wt_test ?_
  | with_reducible refine wt_val ?_
  | with_reducible refine wt_and ?_
  | with_reducible refine wt_or ?_
  | with_reducible refine wt_not ?_
  | with_reducible refine wt_yes ?_
  | with_reducible refine wt_truth ?_
  | with_reducible refine we_andV ?_
  | with_reducible refine we_orV ?_
  | with_reducible refine we_notV ?_
  | with_reducible refine we_if ?_
  | with_reducible refine we_craw ?_)
local macro_rules | `(tactic| walk_at "y3") => `(tactic| first
  | with_reducible refine ro_plusI ?_
  | with_reducible refine ro_eqI ?_
  | with_reducible refine ro_eqS ?_
  | with_reducible refine ro_neI ?_
  | with_reducible refine ro_neS ?_
  | ((with_reducible refine' ro_I0 ?e ?_); (case e => rfl))
  | ((with_reducible refine' ro_I ?c ?e ?_); (case e => rfl); (case c => first | decide | omega | exact Or.inr (by decide) | exact Or.inl (by decide) | exact ⟨by decide, by decide +kernel⟩ | exact ⟨by decide, by decide, by decide⟩ | exact Or.inl ⟨by omega, by omega⟩ | exact Or.inr ⟨by omega, by omega⟩ | assumption))
  | ((with_reducible refine' ro_ix1 ?a ?b ?_); (case a => rfl); (case b => first | exact at0 | rfl))
  | ((with_reducible refine' ro_ix2 ?b ?_); (case b => first | exact at0 | rfl))
  | with_reducible refine ro_isN ?_
  | with_reducible refine ro_isA ?_
  | ((with_reducible refine' rc_len1 ?a ?_); (case a => first | exact Or.inl rfl | exact Or.inr rfl))
  | ((with_reducible refine' rc_isi ?a ?b ?_); (case a => rfl); (case b => first | exact kit_NoneType_int | exact kit_NoneType_bool | exact kit_NoneType_str | exact kit_NoneType_tuple | exact kit_NoneType_list | exact kit_bool_int | exact kit_bool_bool | exact kit_bool_str | exact kit_bool_tuple | exact kit_bool_list | exact kit_int_int | exact kit_int_bool | exact kit_int_str | exact kit_int_tuple | exact kit_int_list | exact kit_str_int | exact kit_str_bool | exact kit_str_str | exact kit_str_tuple | exact kit_str_list | exact kit_tuple_int | exact kit_tuple_bool | exact kit_tuple_str | exact kit_tuple_tuple | exact kit_tuple_list | exact kit_list_int | exact kit_list_bool | exact kit_list_str | exact kit_list_tuple | exact kit_list_list))
  | with_reducible refine rcA_abs ?_
  | with_reducible refine rcA_max ?_
  | with_reducible refine rcA_min ?_
  | with_reducible refine rcA_intI ?_
  | with_reducible refine rcA_intB ?_
  | ((with_reducible refine' rcA_list ?a ?_); (case a => first | exact Or.inl rfl | exact Or.inr rfl))
  | ((with_reducible refine' rcA_tuple ?a ?_); (case a => first | exact Or.inl rfl | exact Or.inr rfl)))
local macro_rules | `(tactic| walk_at "y4") => `(tactic| first
  | ((with_reducible refine' ite_t ?e ?_); (case e => rfl))
  | ((with_reducible refine' ite_f ?e ?_); (case e => rfl))
  | refine ⟨_, rfl, (show _ ≤ sizeLine by simp only [List.length_cons, List.length_nil]; decide), ?_⟩
  | refine ⟨_, rfl, ?_⟩
  | refine ⟨rfl, ?_⟩
  | refine ⟨_, _, rfl, rfl, ?_⟩)
local macro_rules | `(tactic| walk_at "z") => `(tactic| ((first | walk_at "y1" | walk_at "y2" | walk_at "y3" | walk_at "y4"); try dsimp only [List.set, Int.reduceToNat]))
local macro_rules | `(tactic| walk_at "y") => `(tactic| first | walk_at "z" | (with_reducible refine ws_seq ?_))
local macro_rules | `(tactic| walk_at "s") => `(tactic| ((with_reducible refine ws_seq ?_); repeat walk_at "z"))

abbrev s__solids_in : Stmt := top 5
abbrev N__solids_in : List Str := ["inline", "font", "char"]
theorem sc__solids_in : FnScope N__solids_in ["inline", "font"] (C8.fnScope s__solids_in) := C8.fnScope_by (by decide +kernel)
abbrev s__joint : Stmt := top 6
abbrev N__joint : List Str := ["left", "right", "between", "kinds", "fonts", "kind", "_", "font"]
theorem sc__joint : FnScope N__joint ["left", "right", "between"] (C8.fnScope s__joint) := C8.fnScope_by (by decide +kernel)
def spSolidsIn : DSp := fun _ rs Φ => ∃ (x : In) (f : Str), rs = [.d (encI x), .d (.str f)] ∧ (solidsIn f x).length ≤ 1000000 ∧ isStrong x = false ∧ Φ (.nl ((solidsIn f x).map encS))
def spJoint : DSp := fun _ rs Φ => ∃ (l r : So) (bs : List (Bt × Str)), rs = [.d (encS l), .d (encS r), .l (bs.map encB)] ∧ bs.length ≤ 1000000 ∧ Φ (.d (encJ (jointOf l r bs)))
section
variable {P : Program} {w : World} {K : PySem.W.Frag} {mg : Str → Option Value} {base : Heap}
theorem cal__solids_in (D : Dn K mg "_solids_in" s__solids_in ["inline", "font"]) (hB : Blt mg) : C8.Cal P w K mg base 1 "_solids_in" (FSp K spSolidsIn) [] := by
  have sc := sc__solids_in
  refine D.cal sc (fun p rs Φ h => ?_) fun f cdv A outer st H E hr p rs Φ h => ?_
  · obtain ⟨x, f, e, _⟩ := h; rw [e]; rfl
  refine ⟨_, (pss_cons (ps_if (pt_cmpR op_eq (pe_ix ix_seq (pv 0) pe_int (fun _ _ => rfl)) pe_str (nomark _)) (pss_one (ps_ret (pe_lc (own := [("char", 2)]) (g := (gName 2)) (tt := tYes) (te := (tTup (tCons (tC (.str "letter")) (tCons (tVar 1) (tCons (tVar 2) tNil))))) (by rfl) sc.nd (pi_str (pe_ix ix_seq (pv 0) pe_int (fun _ _ => rfl))) (blkOk_by (N := N__solids_in) (sc := C8.fnScope s__solids_in) (by decide +kernel)) (fun _ _ _ _ _ => pg_name (i := 2) sc.nd rfl (by first | exact Or.inl rfl | exact Or.inr rfl)) (fun _ _ _ _ _ => pts_nil) (fun _ _ _ _ _ => (pe_tup (pa_cons pe_str (pa_cons (pv 1) (pa_cons (pv 2) pa_nil)))))))) pss_nil)
      (pss_cons (ps_if (pt_cmpR op_eq (pe_ix ix_seq (pv 0) pe_int (fun _ _ => rfl)) pe_str (nomark _)) (pss_one (ps_ret (pe_lst (pa_cons (pe_tup (pa_cons pe_str (pa_cons (pe_ix ix_seq (pv 0) pe_int (fun _ _ => rfl)) pa_nil))) pa_nil)))) pss_nil)
      (pss_cons (ps_if (pt_cmpR op_eq (pe_ix ix_seq (pv 0) pe_int (fun _ _ => rfl)) pe_str (nomark _)) (pss_one (ps_ret (pe_lst (pa_cons (pe_tup (pa_cons pe_str (pa_cons (pe_ix ix_seq (pv 0) pe_int (fun _ _ => rfl)) pa_nil))) pa_nil)))) pss_nil)
      (pss_one (ps_ret (pe_lst pa_nil)))))), ?_⟩
  try dsimp only [L2.cxOf]
  obtain ⟨x, f, rfl, hl, hs, post⟩ := h
  show WS (g0 K p) _ [.d (encI x), .d (.str f), .any] _
  cases x with
  | strong xs => cases hs
  | word z =>
    simp only [encI]
    repeat walk_at "y"
    refine we_lcM (fun x => .tup [.str "letter", .str f, x]) ?_
    refine wi_str ?_
    repeat walk_at "y"
    have hz : (signsD z).length = (solidsIn f (.word z)).length := by simp [signsD, solidsIn]
    refine ⟨by rw [hz]; show _ ≤ 16777216; omega, fun i x hx => ⟨[2], by simp, wg_name ?_⟩, rfl, ?_⟩
    · dsimp only [List.map, wipeS, List.set]
      repeat walk_at "y"
    · have e : (signsD z).map (fun x => Y.D.tup [.str "letter", .str f, x]) = (solidsIn f (.word z)).map encS := by
        simp [signsD, solidsIn, encS]
      rw [e]
      exact post
  | formula d => 
    simp only [encI]
    repeat walk_at "y"
    exact post
  | note n d =>
    simp only [encI]
    repeat walk_at "y"
    exact post
  | _ =>
    simp only [encI]
    repeat walk_at "y"
    exact post
theorem cal__joint (D : Dn K mg "_joint" s__joint ["left", "right", "between"]) (hB : Blt mg) : C8.Cal P w K mg base 1 "_joint" (FSp K spJoint) [] := by
  have sc := sc__joint
  refine D.cal sc (fun p rs Φ h => ?_) fun f cdv A outer st H E hr p rs Φ h => ?_
  · obtain ⟨l, r, bs, e, _⟩ := h; rw [e]; rfl
  refine ⟨_, (pss_cons (ps_setLc (i := 3) (own := [("kind", 5), ("_", 6)]) (g := (gTup K 2 (gCons (gName 5) (gCons (gName 6) gNil)))) (tt := tYes) (te := (tVar 5)) (by rfl) sc.nd rfl rfl (sw_true rfl rfl rfl (by decide +kernel)) (pi_list (pv 2)) (blkOk_by (N := N__joint) (sc := C8.fnScope s__joint) (by decide +kernel)) (fun _ _ _ _ _ => pg_tup rfl (pgs_cons (pg_name (i := 5) sc.nd rfl (by first | exact Or.inl rfl | exact Or.inr rfl)) (pgs_cons (pg_name (i := 6) sc.nd rfl (by first | exact Or.inl rfl | exact Or.inr rfl)) pgs_nil))) (fun _ _ _ _ _ => pts_nil) (fun _ _ _ _ _ => (pv 5)))
      (pss_cons (ps_if (pt_cmpR op_in_seq pe_str (pv 3) rfl) (pss_one (ps_ret (pe_tup (pa_cons pe_str pa_nil)))) pss_nil)
      (pss_cons (ps_setLc (i := 4) (own := [("kind", 5), ("font", 7)]) (g := (gTup K 2 (gCons (gName 5) (gCons (gName 7) gNil)))) (tt := (tTest (tOp (rIn K false) (tVar 5) (tTup (tCons (tC (.str "gap")) (tCons (tC (.str "tie")) tNil)))))) (te := (tVar 7)) (by rfl) sc.nd rfl rfl (sw_true rfl rfl rfl (by decide +kernel)) (pi_list (pv 2)) (blkOk_by (N := N__joint) (sc := C8.fnScope s__joint) (by decide +kernel)) (fun _ _ _ _ _ => pg_tup rfl (pgs_cons (pg_name (i := 5) sc.nd rfl (by first | exact Or.inl rfl | exact Or.inr rfl)) (pgs_cons (pg_name (i := 7) sc.nd rfl (by first | exact Or.inl rfl | exact Or.inr rfl)) pgs_nil))) (fun _ _ _ _ _ => pts_one (pt_cmpR op_in_seq (pv 5) (pe_tup (pa_cons pe_str (pa_cons pe_str pa_nil))) rfl)) (fun _ _ _ _ _ => (pv 7)))
      (pss_cons (ps_if (pt_cmpR op_in_seq pe_str (pv 3) rfl) (pss_one (ps_ret (pe_tup (pa_cons pe_str (pa_cons (pe_ix ix_seq (pv 4) pe_int (fun _ _ => rfl)) pa_nil))))) pss_nil)
      (pss_cons (ps_if (pt_cmpR op_in_seq pe_str (pv 3) rfl) (pss_one (ps_ret (pe_tup (pa_cons pe_str (pa_cons (pe_ix ix_seq (pv 4) pe_int (fun _ _ => rfl)) pa_nil))))) pss_nil)
      (pss_cons (ps_if (PW.pt (pw_and (pt_cmpR op_in_seq pe_str (pv 3) rfl) (pw_and (pt_cmpR op_eq (pe_ix ix_seq (pv 0) pe_int (fun _ _ => rfl)) pe_str (nomark _)) (pw_and1 (pt_cmpR op_eq (pe_ix ix_seq (pv 1) pe_int (fun _ _ => rfl)) pe_str (nomark _)))))) (pss_one (ps_ret (pe_tup (pa_cons pe_str pa_nil)))) pss_nil)
      (pss_one (ps_ret (pe_tup (pa_cons pe_str pa_nil)))))))))), ?_⟩
  try dsimp only [L2.cxOf]
  obtain ⟨l, r, bs, rfl, hl, post⟩ := h
  obtain ⟨lk, lr, el, hlk⟩ := encS_kind l
  obtain ⟨rk, rr, er, hrk⟩ := encS_kind r
  rw [el, er]
  show WS (g0 K p) _ [.d (.tup (.str lk :: lr)), .d (.tup (.str rk :: rr)), .ro (bs.map encB), .any, .any, .any, .any, .any] _
  have hget : ∀ (i : Nat) (x : Y.D), (bs.map encB)[i]? = some x → ∃ b : Bt × Str, x = .tup [.str b.1.s, .str b.2] := fun i x hx => by
    rw [List.getElem?_map] at hx
    cases q : bs[i]? with
    | none => rw [q] at hx; cases hx
    | some b => rw [q] at hx; cases hx; exact ⟨b, rfl⟩
  repeat walk_at "y"
  refine we_lcM hK ?_
  refine wi_list ?_
  repeat walk_at "y"
  refine ⟨by rw [List.length_map]; show _ ≤ 16777216; omega, fun i x hx => ?_, ?_⟩
  · obtain ⟨b, rfl⟩ := hget i x hx
    refine ⟨_, ?_, wg_tup rfl (wgs_cons (wg_name (wgs_cons (wg_name (wgs_nil ?_)))))⟩
    · intro j hj
      simpa using hj
    · dsimp only [List.map, wipeS, List.set]
      repeat walk_at "y"
      rfl
  · rw [kinds_eq]
    repeat walk_at "y"
    refine ro_inS (ss := bs.map (·.1.s)) (.inl rfl) ?_
    rw [show (Str.ofString "cut") = Bt.cut.s from rfl, mem_s]
    repeat walk_at "y"
    refine (ifD (p := Bt.cut ∈ bs.map (·.1)) ?_ ?_)
    · intro hc
      repeat walk_at "y"
      have e : jointOf l r bs = .cut := by unfold jointOf; rw [if_pos hc]
      rw [e] at post
      exact post
    · intro hc
      repeat walk_at "y"
      refine we_lcF qF hF ?_
      refine wi_list ?_
      repeat walk_at "y"
      refine ⟨by rw [List.length_map]; show _ ≤ 16777216; omega, fun i x hx => ?_, ?_⟩
      · obtain ⟨b, rfl⟩ := hget i x hx
        refine ⟨_, ?_, wg_tup rfl (wgs_cons (wg_name (wgs_cons (wg_name (wgs_nil ?_)))))⟩
        · intro j hj
          simpa using hj
        · dsimp only [List.map, wipeS, List.set]
          repeat walk_at "y"
          refine ro_inS (ss := ["gap", "tie"]) (.inr rfl) ?_
          repeat walk_at "y"
          refine fun _ => ?_
          repeat walk_at "y"
          rfl
      · rw [fonts_eq]
        repeat walk_at "y"
        refine ro_inS (ss := bs.map (·.1.s)) (.inl rfl) ?_
        rw [show (Str.ofString "tie") = Bt.tie.s from rfl, mem_s]
        repeat walk_at "y"
        refine (ifD (p := Bt.tie ∈ bs.map (·.1)) ?_ ?_)
        · intro ht
          obtain ⟨rest, er⟩ := room_at (.inl ht)
          rw [er]
          repeat walk_at "y"
          have e : jointOf l r bs = .tie ((roomOf bs).getD "") := by unfold jointOf; rw [if_neg hc, if_pos ht]
          rw [e] at post
          exact post
        · intro ht
          repeat walk_at "y"
          refine ro_inS (ss := bs.map (·.1.s)) (.inl rfl) ?_
          rw [show (Str.ofString "gap") = Bt.gap.s from rfl, mem_s]
          repeat walk_at "y"
          refine (ifD (p := Bt.gap ∈ bs.map (·.1)) ?_ ?_)
          · intro hg
            obtain ⟨rest, er⟩ := room_at (.inr hg)
            rw [er]
            repeat walk_at "y"
            have e : jointOf l r bs = .gap ((roomOf bs).getD "") := by unfold jointOf; rw [if_neg hc, if_neg ht, if_pos hg]
            rw [e] at post
            exact post
          · intro hg
            repeat walk_at "y"
            refine ro_inS (ss := bs.map (·.1.s)) (.inl rfl) ?_
            rw [show (Str.ofString "hyph") = Bt.hyph.s from rfl, mem_s]
            repeat walk_at "y"
            have done1 : ¬ (Bt.hyph ∈ bs.map (·.1) ∧ isLetter l = true ∧ isLetter r = true) → Φ (.d (encJ .none)) := fun hn => by
              have e : jointOf l r bs = .none := by unfold jointOf; rw [if_neg hc, if_neg ht, if_neg hg, if_neg hn]
              rw [e] at post
              exact post
            refine (ifD (p := Bt.hyph ∈ bs.map (·.1)) ?_ ?_)
            · intro hh
              repeat walk_at "y"
              rw [hlk]
              cases hl1 : isLetter l with
              | false =>
                repeat walk_at "y"
                exact done1 fun h => by rw [hl1] at h; cases h.2.1
              | true =>
                repeat walk_at "y"
                rw [hrk]
                cases hr1 : isLetter r with
                | false =>
                  repeat walk_at "y"
                  exact done1 fun h => by rw [hr1] at h; cases h.2.2
                | true =>
                  repeat walk_at "y"
                  have e : jointOf l r bs = .hyph := by unfold jointOf; rw [if_neg hc, if_neg ht, if_neg hg, if_pos ⟨hh, hl1, hr1⟩]
                  rw [e] at post
                  exact post
            · intro hh
              repeat walk_at "y"
              exact done1 fun h => hh h.1
end
end Y

set_option maxHeartbeats 4000000
namespace Y
open PySem L2 PySem.Spec PyProof.Rows
local macro_rules | `(tactic| walk_at "y1") => `(tactic| first
  | with_reducible refine ws_asg ?_
  | with_reducible refine ws_next ?_
  | with_reducible refine ws_brk ?_
  | with_reducible refine ws_cont ?_
  | with_reducible refine ws_if ?_
  | ((with_reducible refine' ws_setL ?e ?_); (case e => rfl))
  | ((with_reducible refine' ws_app ?e ?_); (case e => rfl))
  | ((with_reducible refine' ws_ext ?e ?_); (case e => rfl))
  | with_reducible refine ws_asgG ?_
  | ((with_reducible refine' ws_retOwn ?e ?_); (case e => rfl))
  | with_reducible refine ws_ret ?_
  | with_reducible refine ws_retN ?_
  | with_reducible refine ws_drop ?_)
local macro_rules | `(tactic| walk_at "y2") => `(tactic| first
  | ((with_reducible refine' we_d ?e ?_); (case e => rfl))
  | ((with_reducible refine' we_raw ?e ?_); (case e => rfl))
  | ((with_reducible refine' we_ro ?e ?_); (case e => rfl))
  | ((with_reducible refine' we_m ?e ?_); (case e => rfl))
  | with_reducible refine we_cint ?_
  | with_reducible refine we_cstr ?_
  | with_reducible refine we_cbl ?_
  | with_reducible refine we_cnon ?_
  | with_reducible refine we_op ?_
  | with_reducible refine we_un ?_
  | with_reducible refine we_cb ?_
  | with_reducible refine we_tup ?_
  | with_reducible refine we_lst ?_
  | with_reducible refine wa_nil ?_
  | with_reducible refine wa_cons ?_
  | with_reducible refine we_bm0 ?_
  | with_reducible refine we_bm ?_
  | with_reducible refine we_m0 ?_
  | with_reducible refine we_m1 ?_
  | with_reducible refine we_sl ?_
  | with_reducible refine wo_none ?_
  | with_reducible refine wo_some ?_
  | with_reducible refine we_fld ?_
  | with_reducible refine we_call ?_
  | with_reducible refine we_mk ?_
  | with_reducible refine we_mkS ?_
  | with_reducible refine wt_test ?_
  | with_reducible refine wt_val ?_
  | with_reducible refine wt_and ?_
  | with_reducible refine wt_or ?_
  | with_reducible refine wt_not ?_
  | with_reducible refine wt_yes ?_
  | with_reducible refine wt_truth ?_
  | with_reducible refine we_andV ?_
  | with_reducible refine we_orV ?_
  | with_reducible refine we_notV ?_
  | with_reducible refine we_if ?_
  | with_reducible refine we_craw ?_)
local macro_rules | `(tactic| walk_at "y3") => `(tactic| first
  | with_reducible refine ro_plusI ?_
  | with_reducible refine ro_eqI ?_
  | with_reducible refine ro_eqS ?_
  | with_reducible refine ro_neI ?_
  | with_reducible refine ro_neS ?_
  | ((with_reducible refine' ro_I0 ?e ?_); (case e => rfl))
  | ((with_reducible refine' ro_I ?c ?e ?_); (case e => rfl); (case c => first | decide | omega | exact Or.inr (by decide) | exact Or.inl (by decide) | exact ⟨by decide, by decide +kernel⟩ | exact ⟨by decide, by decide, by decide⟩ | exact Or.inl ⟨by omega, by omega⟩ | exact Or.inr ⟨by omega, by omega⟩ | assumption))
  | ((with_reducible refine' ro_ix1 ?a ?b ?_); (case a => rfl); (case b => first | exact at0 | rfl))
  | ((with_reducible refine' ro_ix2 ?b ?_); (case b => first | exact at0 | rfl))
  | with_reducible refine ro_isN ?_
  | with_reducible refine ro_isA ?_
  | ((with_reducible refine' rc_len1 ?a ?_); (case a => first | exact Or.inl rfl | exact Or.inr rfl))
  | ((with_reducible refine' rc_isi ?a ?b ?_); (case a => rfl); (case b => first | exact kit_NoneType_int | exact kit_NoneType_bool | exact kit_NoneType_str | exact kit_NoneType_tuple | exact kit_NoneType_list | exact kit_bool_int | exact kit_bool_bool | exact kit_bool_str | exact kit_bool_tuple | exact kit_bool_list | exact kit_int_int | exact kit_int_bool | exact kit_int_str | exact kit_int_tuple | exact kit_int_list | exact kit_str_int | exact kit_str_bool | exact kit_str_str | exact kit_str_tuple | exact kit_str_list | exact kit_tuple_int | exact kit_tuple_bool | exact kit_tuple_str | exact kit_tuple_tuple | exact kit_tuple_list | exact kit_list_int | exact kit_list_bool | exact kit_list_str | exact kit_list_tuple | exact kit_list_list))
  | with_reducible refine rcA_abs ?_
  | with_reducible refine rcA_max ?_
  | with_reducible refine rcA_min ?_
  | with_reducible refine rcA_intI ?_
  | with_reducible refine rcA_intB ?_
  | ((with_reducible refine' rcA_list ?a ?_); (case a => first | exact Or.inl rfl | exact Or.inr rfl))
  | ((with_reducible refine' rcA_tuple ?a ?_); (case a => first | exact Or.inl rfl | exact Or.inr rfl)))
local macro_rules | `(tactic| walk_at "y4") => `(tactic| first
  | ((with_reducible refine' ite_t ?e ?_); (case e => rfl))
  | ((with_reducible refine' ite_f ?e ?_); (case e => rfl))
  | refine ⟨_, rfl, (show _ ≤ sizeLine by simp only [List.length_cons, List.length_nil]; decide), ?_⟩
  | refine ⟨_, rfl, ?_⟩
  | refine ⟨rfl, ?_⟩
  | refine ⟨_, _, rfl, rfl, ?_⟩)
local macro_rules | `(tactic| walk_at "z") => `(tactic| ((first | walk_at "y1" | walk_at "y2" | walk_at "y3" | walk_at "y4"); try dsimp only [List.set, Int.reduceToNat]))
local macro_rules | `(tactic| walk_at "y") => `(tactic| first | walk_at "z" | (with_reducible refine ws_seq ?_))
local macro_rules | `(tactic| walk_at "s") => `(tactic| ((with_reducible refine ws_seq ?_); repeat walk_at "z"))

abbrev s_solids_of : Stmt := top 7
abbrev N_solids_of : List Str := ["style", "inlines", "solids", "joints", "marks", "between", "inline", "font", "solid"]
theorem sc_solids_of : FnScope N_solids_of ["style", "inlines"] (C8.fnScope s_solids_of) := C8.fnScope_by (by decide +kernel)
mutual
theorem inF_plain (f s : Str) : ∀ (x : In) (p : In × Str), p ∈ inF f s x → isStrong p.1 = false
  | .strong xs, p, h => by rw [inF] at h; exact inFs_plain s s xs p h
  | .word _, p, h => by rw [inF] at h; cases List.mem_singleton.mp h; rfl
  | .formula _, p, h => by rw [inF] at h; cases List.mem_singleton.mp h; rfl
  | .note _ _, p, h => by rw [inF] at h; cases List.mem_singleton.mp h; rfl
  | .mark _, p, h => by rw [inF] at h; cases List.mem_singleton.mp h; rfl
  | .gap, p, h => by rw [inF] at h; cases List.mem_singleton.mp h; rfl
  | .tie, p, h => by rw [inF] at h; cases List.mem_singleton.mp h; rfl
  | .hyph, p, h => by rw [inF] at h; cases List.mem_singleton.mp h; rfl
  | .cut, p, h => by rw [inF] at h; cases List.mem_singleton.mp h; rfl
theorem inFs_plain (f s : Str) : ∀ (xs : List In) (p : In × Str), p ∈ inFs f s xs → isStrong p.1 = false
  | [], p, h => by rw [inFs] at h; cases h
  | x :: xs, p, h => by
    rw [inFs, List.mem_append] at h
    rcases h with h | h
    · exact inF_plain f s x p h
    · exact inFs_plain f s xs p h
end
def solN (p : In × Str) : Nat := (solidsIn p.2 p.1).length
theorem addSolid_so (s : SS) (x : So) : (addSolid s x).so = s.so ++ [x] := rfl
theorem fold_so : ∀ (l : List So) (s : SS), (l.foldl addSolid s).so = s.so ++ l
  | [], s => by simp
  | x :: l, s => by rw [List.foldl_cons, fold_so l, addSolid_so, List.append_assoc]; rfl
theorem fold_ma : ∀ (l : List So) (s : SS), (l.foldl addSolid s).ma = s.ma
  | [], s => rfl
  | x :: l, s => by rw [List.foldl_cons, fold_ma l]; rfl
theorem addSolid_jo (s : SS) (x : So) (h : s.jo.length ≤ s.so.length) : (addSolid s x).jo.length ≤ (addSolid s x).so.length := by
  unfold addSolid
  cases s.so.getLast? <;> simp <;> omega
theorem fold_jo : ∀ (l : List So) (s : SS), s.jo.length ≤ s.so.length → (l.foldl addSolid s).jo.length ≤ (l.foldl addSolid s).so.length
  | [], s, h => h
  | x :: l, s, h => by rw [List.foldl_cons]; exact fold_jo l _ (addSolid_jo s x h)
theorem fold_bt : ∀ (l : List So) (s : SS), (l.foldl addSolid s).bt.length ≤ s.bt.length
  | [], s => Nat.le_refl _
  | x :: l, s => by rw [List.foldl_cons]; exact Nat.le_trans (fold_bt l _) (Nat.zero_le _)
theorem addMark_so (s : SS) (x : In) : (addMark s x).so = s.so ∧ (addMark s x).jo = s.jo ∧ (addMark s x).bt = s.bt ∧ (addMark s x).ma.length ≤ s.ma.length + 1 := by
  cases x <;> simp [addMark]
theorem addBt_so (s : SS) (f : Str) (x : In) : (addBt s f x).so = s.so ∧ (addBt s f x).jo = s.jo ∧ (addBt s f x).ma = s.ma ∧ (addBt s f x).bt.length ≤ s.bt.length + 1 := by
  cases x <;> simp [addBt, btOf]
structure SInv (s : SS) (n i : Nat) : Prop where
  so : s.so.length = n
  jo : s.jo.length ≤ n
  ma : s.ma.length ≤ i
  bt : s.bt.length ≤ i
theorem SInv.step {s : SS} {n i : Nat} (h : SInv s n i) (p : In × Str) : SInv (step1 s p) (n + solN p) (i + 1) := by
  obtain ⟨a1, a2, a3, a4⟩ := addMark_so s p.1
  obtain ⟨b1, b2, b3, b4⟩ := addBt_so ((solidsIn p.2 p.1).foldl addSolid (addMark s p.1)) p.2 p.1
  have e : (step1 s p) = addBt ((solidsIn p.2 p.1).foldl addSolid (addMark s p.1)) p.2 p.1 := rfl
  have c1 := fold_so (solidsIn p.2 p.1) (addMark s p.1)
  have c2 := fold_jo (solidsIn p.2 p.1) (addMark s p.1) (by rw [a1, a2, h.so]; exact h.jo)
  have c3 := fold_bt (solidsIn p.2 p.1) (addMark s p.1)
  have hs : (step1 s p).so.length = n + solN p := by rw [e, b1, c1, List.length_append, a1, h.so]; rfl
  refine ⟨hs, ?_, ?_, ?_⟩
  · rw [e, b1] at hs; rw [e, b2, ← hs]; exact c2
  · rw [e, b3, fold_ma]; have := h.ma; omega
  · rw [e]; rw [a3] at c3; have := h.bt; omega
theorem SInv.folds : ∀ (ps : List (In × Str)) {s : SS} {n i : Nat}, SInv s n i → SInv (ps.foldl step1 s) (n + (ps.map solN).sum) (i + ps.length)
  | [], s, n, i, h => by simpa using h
  | p :: ps, s, n, i, h => by
    rw [List.foldl_cons, List.map_cons, List.sum_cons, List.length_cons]
    have := SInv.folds ps (h.step p)
    rw [show n + (solN p + (ps.map solN).sum) = n + solN p + (ps.map solN).sum by omega, show i + (ps.length + 1) = i + 1 + ps.length by omega]
    exact this
theorem sum_take_le : ∀ (l : List Nat) (i : Nat), (l.take i).sum ≤ l.sum
  | [], i => by simp
  | x :: l, 0 => by simp
  | x :: l, i + 1 => by rw [List.take_succ_cons, List.sum_cons, List.sum_cons]; have := sum_take_le l i; omega
def spSolidsOf (K : PySem.W.Frag) : DSp := fun _ rs Φ => ∃ (C : Addr) (ns : List Str) (ds : List D) (f g : Str) (xs : List In), rs = [.d (.obj C ns ds), .d (.tup (encIs xs))] ∧ (ns.zip ds).lookup ("font" : Str) = some (.str f) ∧ (ns.zip ds).lookup ("strong" : Str) = some (.str g) ∧ Cls K C ∧ NoAttr K C "font" ∧ NoAttr K C "strong" ∧
  deps xs ≤ 20 ∧ (inFs f g xs).length ≤ 1000000 ∧ ((inFs f g xs).map solN).sum ≤ 1000000 ∧ Φ (.d (encSS (solidsOf f g xs)))
def svS (C : Addr) (ns : List Str) (ds : List D) (xs : List In) (s : SS) (r : List Sv) : List Sv := [.d (.obj C ns ds), .d (.tup (encIs xs)), .own (s.so.map encS), .own (s.jo.map encJ), .own (s.ma.map encM), .own (s.bt.map encB)] ++ r
section
variable {P : Program} {w : World} {K : PySem.W.Frag} {mg : Str → Option Value} {base : Heap}
theorem cal_solids_of (D : Dn K mg "solids_of" s_solids_of ["style", "inlines"]) (hB : Blt mg) (c__in_fonts : C8.Cal P w K mg base 21 "_in_fonts" (FSp K (spInF 21)) []) (c__solids_in : C8.Cal P w K mg base 1 "_solids_in" (FSp K spSolidsIn) []) (c__joint : C8.Cal P w K mg base 1 "_joint" (FSp K spJoint) []) : C8.Cal P w K mg base 22 "solids_of" (FSp K (spSolidsOf K)) [] := by
  have sc := sc_solids_of
  refine D.cal sc (fun p rs Φ h => ?_) fun f cdv A outer st H E hr p rs Φ h => ?_
  · obtain ⟨C, ns, ds, f, g, xs, e, _⟩ := h; rw [e]; rfl
  refine ⟨_, (pss_cons (ps_set (i := 2) sc.nd rfl (by first | exact Or.inl rfl | exact Or.inr rfl) (pe_lst pa_nil))
      (pss_cons (ps_set (i := 3) sc.nd rfl (by first | exact Or.inl rfl | exact Or.inr rfl) (pe_lst pa_nil))
      (pss_cons (ps_set (i := 4) sc.nd rfl (by first | exact Or.inl rfl | exact Or.inr rfl) (pe_lst pa_nil))
      (pss_cons (ps_set (i := 5) sc.nd rfl (by first | exact Or.inl rfl | exact Or.inr rfl) (pe_lst pa_nil))
      (pss_cons (ps_for PassesOwn.never rfl (pi_list (C8.pe_c c__in_fonts hr (by first | decide | omega) rfl (pa_cons (pv 1) (pa_cons (pe_fld (pv 0) rfl) (pa_cons (pe_fld (pv 0) rfl) pa_nil))))) (pg_tup rfl (pgs_cons (pg_name (i := 6) sc.nd rfl (by first | exact Or.inl rfl | exact Or.inr rfl)) (pgs_cons (pg_name (i := 7) sc.nd rfl (by first | exact Or.inl rfl | exact Or.inr rfl)) pgs_nil))) (pss_cons (ps_if (pt_cmpR op_eq (pe_ix ix_seq (pv 6) pe_int (fun _ _ => rfl)) pe_str (nomark _)) (pss_one (ps_expr (pe_bm PySem.F.plainAttrs_list PySem.F.slot_list_append PySem.F.type_list_append mt_append (pv 4) (pa_cons (pe_tup (pa_cons (pe_callB (call_maxA (by rfl)) (by rfl) hB.max (by decide +kernel) (pa_cons pe_int (pa_cons (pe_op op_sub (pe_callB call_lenA (by rfl) hB.len PySem.boot_len (pa_cons (pv 2) pa_nil)) pe_int) pa_nil))) (pa_cons (pe_ix ix_seq (pv 6) pe_int (fun _ _ => rfl)) pa_nil))) pa_nil)))) pss_nil)
      (pss_cons (ps_for PassesOwn.never rfl (pi_list (C8.pe_c c__solids_in hr (by first | decide | omega) rfl (pa_cons (pv 6) (pa_cons (pv 7) pa_nil)))) (pg_name (i := 8) sc.nd rfl (by first | exact Or.inl rfl | exact Or.inr rfl)) (pss_cons (ps_if (pt_truth (pv 2) (fun _ => rfl)) (pss_one (ps_expr (pe_bm PySem.F.plainAttrs_list PySem.F.slot_list_append PySem.F.type_list_append mt_append (pv 3) (pa_cons (C8.pe_c c__joint hr (by first | decide | omega) rfl (pa_cons (pe_ix ix_seq (pv 2) (pe_un un_neg pe_int) (fun _ _ => rfl)) (pa_cons (pv 8) (pa_cons (pv 5) pa_nil)))) pa_nil)))) pss_nil)
      (pss_cons (ps_expr (pe_bm PySem.F.plainAttrs_list PySem.F.slot_list_append PySem.F.type_list_append mt_append (pv 2) (pa_cons (pv 8) pa_nil)))
      (pss_one (ps_set (i := 5) sc.nd rfl (by first | exact Or.inl rfl | exact Or.inr rfl) (pe_lst pa_nil))))))
      (pss_one (ps_if (pt_cmpR op_in_seq (pe_ix ix_seq (pv 6) pe_int (fun _ _ => rfl)) (pe_tup (pa_cons pe_str (pa_cons pe_str (pa_cons pe_str (pa_cons pe_str pa_nil))))) rfl) (pss_one (ps_expr (pe_bm PySem.F.plainAttrs_list PySem.F.slot_list_append PySem.F.type_list_append mt_append (pv 5) (pa_cons (pe_tup (pa_cons (pe_ix ix_seq (pv 6) pe_int (fun _ _ => rfl)) (pa_cons (pv 7) pa_nil))) pa_nil)))) pss_nil)))))
      (pss_one (ps_ret (pe_tup (pa_cons (pe_callTy call_tupleA (by rfl) hB.tuple (by decide +kernel) (pa_cons (pv 2) pa_nil)) (pa_cons (pe_callTy call_tupleA (by rfl) hB.tuple (by decide +kernel) (pa_cons (pv 3) pa_nil)) (pa_cons (pe_callTy call_tupleA (by rfl) hB.tuple (by decide +kernel) (pa_cons (pv 4) pa_nil)) pa_nil))))))))))), ?_⟩
  try dsimp only [L2.cxOf]
  obtain ⟨C, ns, ds, f, g, xs, rfl, lf, lg, hC, nf, ng, hd, hl, hs, post⟩ := h
  show WS (g0 K p) _ [.d (.obj C ns ds), .d (.tup (encIs xs)), .any, .any, .any, .any, .any, .any, .any] _
  repeat walk_at "y"
  refine ws_for ?_
  refine wi_list ?_
  repeat walk_at "y"
  refine ⟨_, _, _, _, rfl, hC, nf, lf, ?_⟩
  repeat walk_at "y"
  refine ⟨_, _, _, _, rfl, hC, ng, lg, ?_⟩
  repeat walk_at "y"
  refine ⟨_, .cons (.d _) (.cons (.d _) (.cons (.d _) .nil)), xs, f, g, rfl, by omega, by omega, _, rfl, ?_⟩
  have inv : ∀ i, i ≤ (inFs f g xs).length → SInv (((inFs f g xs).take i).foldl step1 ⟨[], [], [], []⟩) (((inFs f g xs).take i).map solN).sum i := fun i hi => by
    have := SInv.folds ((inFs f g xs).take i) (s := ⟨[], [], [], []⟩) (n := 0) (i := 0) ⟨rfl, Nat.le_refl _, Nat.le_refl _, Nat.le_refl _⟩
    rw [Nat.zero_add, Nat.zero_add, List.length_take, Nat.min_eq_left hi] at this
    exact this
  refine ⟨fun i sv => ∃ a b c, sv = svS C ns ds xs (((inFs f g xs).take i).foldl step1 ⟨[], [], [], []⟩) [a, b, c], ⟨_, _, _, rfl⟩, fun i x sv' hx hI => ?_, fun sv' hI => ?_⟩
  · obtain ⟨a, b, c, rfl⟩ := hI
    rw [List.getElem?_map] at hx
    cases hxi : (inFs f g xs)[i]? with
    | none => rw [hxi] at hx; cases hx
    | some z =>
      rw [hxi] at hx
      cases hx
      obtain ⟨hi, ez⟩ := List.getElem?_eq_some_iff.mp hxi
      have iv := inv i (by omega)
      have iv1 := inv (i + 1) (by omega)
      have et : ((inFs f g xs).take (i + 1)).foldl step1 ⟨[], [], [], []⟩ = step1 (((inFs f g xs).take i).foldl step1 ⟨[], [], [], []⟩) z := by
        rw [List.take_succ_eq_append_getElem hi, List.foldl_append, ez]; rfl
      have tot : (((inFs f g xs).take (i + 1)).map solN).sum = (((inFs f g xs).take i).map solN).sum + solN z := by
        rw [List.take_succ_eq_append_getElem hi, List.map_append, List.sum_append, ez]; simp
      have tot1 : (((inFs f g xs).take (i + 1)).map solN).sum ≤ 1000000 := by
        rw [List.map_take]; exact Nat.le_trans (sum_take_le _ _) hs
      have hz := inFs_plain f g xs z (List.mem_of_getElem? hxi)
      dsimp only
      rw [et]
      generalize ((inFs f g xs).take i).foldl step1 ⟨[], [], [], []⟩ = s at iv ⊢
      obtain ⟨x, fo⟩ := z
      refine ⟨_, wg_tup rfl (wgs_cons (wg_name (wgs_cons (wg_name (wgs_nil ?_)))))⟩
      show WS _ _ (svS C ns ds xs s [.d (encI x), .d (.str fo), c]) _
      refine ws_cut (fun sv => sv = svS C ns ds xs (addMark s x) [.d (encI x), .d (.str fo), c]) ?_ fun sv e => ?_
      · cases x with
        | strong _ => cases hz
        | mark w =>
          simp only [encI, svS, List.cons_append, List.nil_append]
          repeat walk_at "y"
          have e : (if (((s.so.map encS).length : Int) - 1 > 0) then ((s.so.map encS).length : Int) - 1 else 0) = ((s.so.length - 1 : Nat) : Int) := by
            rw [List.length_map]; split <;> omega
          rw [e]
          refine ⟨by rw [List.length_map]; have := iv.ma; show _ < 16777216; omega, ?_⟩
          simp only [addMark, List.map_append, List.map_cons, List.map_nil, encM]
        | _ =>
          simp only [encI, svS, List.cons_append, List.nil_append]
          repeat walk_at "y"
          rfl
      subst e
      refine ws_cut (fun sv => ∃ c', sv = svS C ns ds xs ((solidsIn fo x).foldl addSolid (addMark s x)) [.d (encI x), .d (.str fo), c']) ?_ fun sv e => ?_
      · have am := addMark_so s x
        have tn : solN (x, fo) = (solidsIn fo x).length := rfl
        have b1 : (addMark s x).so.length + (solidsIn fo x).length ≤ 1000000 := by rw [am.1, iv.so]; omega
        have b2 : (addMark s x).jo.length ≤ (addMark s x).so.length := by rw [am.2.1, am.1, iv.so]; exact iv.jo
        have b3 : (addMark s x).bt.length ≤ 1000000 := by rw [am.2.2.1]; have := iv.bt; omega
        generalize addMark s x = s at b1 b2 b3 ⊢
        refine ws_for ?_
        refine wi_list ?_
        simp only [svS, List.cons_append, List.nil_append]
        repeat walk_at "y"
        refine ⟨_, .cons (.d _) (.cons (.d _) .nil), x, fo, rfl, by omega, hz, _, rfl, ?_⟩
        refine ⟨fun j sv => ∃ c', sv = svS C ns ds xs (((solidsIn fo x).take j).foldl addSolid s) [.d (encI x), .d (.str fo), c'], ⟨_, rfl⟩, fun j y sv' hy hI => ?_, fun sv' hI => ?_⟩
        · obtain ⟨c', rfl⟩ := hI
          rw [List.getElem?_map] at hy
          cases hyj : (solidsIn fo x)[j]? with
          | none => rw [hyj] at hy; cases hy
          | some q =>
            rw [hyj] at hy
            cases hy
            obtain ⟨hj, ej⟩ := List.getElem?_eq_some_iff.mp hyj
            have et : ((solidsIn fo x).take (j + 1)).foldl addSolid s = addSolid (((solidsIn fo x).take j).foldl addSolid s) q := by
              rw [List.take_succ_eq_append_getElem hj, List.foldl_append, ej]; rfl
            dsimp only
            rw [et]
            have c1 : (((solidsIn fo x).take j).foldl addSolid s).so.length ≤ 1000000 := by rw [fold_so, List.length_append, List.length_take]; omega
            have c2 := fold_jo ((solidsIn fo x).take j) s b2
            have c3 := fold_bt ((solidsIn fo x).take j) s
            generalize ((solidsIn fo x).take j).foldl addSolid s = s at c1 c2 c3 ⊢
            refine ⟨_, wg_name ?_⟩
            show WS _ _ (svS C ns ds xs s [.d (encI x), .d (.str fo), .d (encS q)]) _
            rcases List.eq_nil_or_concat s.so with hn | ⟨ini, la, hn⟩
            · have e2 : addSolid s q = ⟨[q], s.jo, s.ma, []⟩ := by unfold addSolid; rw [hn]; rfl
              rw [e2]
              simp only [svS, List.cons_append, List.nil_append, hn, List.map_nil]
              repeat walk_at "y"
              exact ⟨_, rfl⟩
            · have e2 : addSolid s q = ⟨s.so ++ [q], s.jo ++ [jointOf la q s.bt], s.ma, []⟩ := by unfold addSolid; rw [hn]; simp
              rw [e2]
              have hlast : (s.so.map encS).getLast? = some (encS la) := by rw [hn]; simp
              simp only [svS, List.cons_append, List.nil_append, List.map_append, List.map_cons, List.map_nil]
              have hll : (s.so.map encS).length ≤ 1000000 := by rw [List.length_map]; exact c1
              obtain ⟨d0, dr, hd0⟩ : ∃ d0 dr, s.so.map encS = d0 :: dr := by
                cases z : s.so.map encS with
                | nil => rw [z] at hlast; cases hlast
                | cons d0 dr => exact ⟨d0, dr, rfl⟩
              rw [hd0] at hlast hll ⊢
              repeat walk_at "y"
              refine ru_I rfl ?_
              refine ro_ix1 rfl (at_last hlast) ?_
              repeat walk_at "y"
              refine ⟨_, .cons (.d _) (.cons (.d _) (.cons (.ol _) .nil)), la, q, s.bt, rfl, by omega, ?_⟩
              repeat walk_at "y"
              refine ⟨by rw [List.length_map]; show _ < 16777216; omega, ?_⟩
              repeat walk_at "y"
              refine ⟨by show _ < 16777216; omega, ?_⟩
              repeat walk_at "y"
              exact ⟨_, rfl⟩
        · obtain ⟨c', rfl⟩ := hI
          rw [List.length_map, List.take_length]
          exact ⟨_, rfl⟩
      obtain ⟨c', rfl⟩ := e
      have em : step1 s (x, fo) = addBt ((solidsIn fo x).foldl addSolid (addMark s x)) fo x := rfl
      rw [em]
      have hb : ((solidsIn fo x).foldl addSolid (addMark s x)).bt.length ≤ 1000000 := by
        have := fold_bt (solidsIn fo x) (addMark s x); rw [(addMark_so s x).2.2.1] at this; have := iv.bt; omega
      generalize (solidsIn fo x).foldl addSolid (addMark s x) = s at hb ⊢
      cases x with
      | strong _ => cases hz
      | _ =>
        simp only [encI, svS, List.cons_append, List.nil_append]
        repeat walk_at "y"
        refine ro_inS (ss := ["gap", "tie", "hyph", "cut"]) (.inr rfl) ?_
        repeat walk_at "y"
        first
          | exact ⟨_, _, _, rfl⟩
          | (refine ⟨by rw [List.length_map]; show _ < 16777216; omega, ?_⟩
             simp only [addBt, btOf, List.map_append, List.map_cons, List.map_nil, encB, Bt.s]
             exact ⟨_, _, _, rfl⟩)
  · obtain ⟨a, b, c, rfl⟩ := hI
    rw [List.length_map, List.take_length]
    show WS _ _ [.d (.obj C ns ds), .d (.tup (encIs xs)), .own ((solidsOf f g xs).so.map encS), .own ((solidsOf f g xs).jo.map encJ), .own ((solidsOf f g xs).ma.map encM), .own ((solidsOf f g xs).bt.map encB), a, b, c] _
    repeat walk_at "y"
    exact post
end
end Y

set_option maxHeartbeats 4000000
namespace Y
open PySem L2 PySem.Spec PyProof.Rows
local macro_rules | `(tactic| walk_at "y1") => `(tactic| first
  | with_reducible refine ws_asg ?_
  | with_reducible refine ws_next ?_
  | with_reducible refine ws_brk ?_
  | with_reducible refine ws_cont ?_
  | with_reducible refine ws_if ?_
  | ((with_reducible refine' ws_setL ?e ?_); (case e => rfl))
  | ((with_reducible refine' ws_app ?e ?_); (case e => rfl))
  | ((with_reducible refine' ws_ext ?e ?_); (case e => rfl))
  | with_reducible refine ws_asgG ?_
  | ((with_reducible refine' ws_retOwn ?e ?_); (case e => rfl))
  | with_reducible refine ws_ret ?_
  | with_reducible refine ws_retN ?_
  | with_reducible refine ws_drop ?_)
local macro_rules | `(tactic| walk_at "y2") => `(tactic| first
  | ((with_reducible refine' we_d ?e ?_); (case e => rfl))
  | ((with_reducible refine' we_raw ?e ?_); (case e => rfl))
  | ((with_reducible refine' we_ro ?e ?_); (case e => rfl))
  | ((with_reducible refine' we_m ?e ?_); (case e => rfl))
  | with_reducible refine we_cint ?_
  | with_reducible refine we_cstr ?_
  | with_reducible refine we_cbl ?_
  | with_reducible refine we_cnon ?_
  | with_reducible refine we_op ?_
  | with_reducible refine we_un ?_
  | with_reducible refine we_cb ?_
  | with_reducible refine we_tup ?_
  | with_reducible refine we_lst ?_
  | with_reducible refine wa_nil ?_
  | with_reducible refine wa_cons ?_
  | with_reducible refine we_bm0 ?_
  | with_reducible refine we_bm ?_
  | with_reducible refine we_m0 ?_
  | with_reducible refine we_m1 ?_
  | with_reducible refine we_sl ?_
  | with_reducible refine wo_none ?_
  | with_reducible refine wo_some ?_
  | with_reducible refine we_fld ?_
  | with_reducible refine we_call ?_
  | with_reducible refine we_mk ?_
  | with_reducible refine we_mkS ?_
  | with_reducible refine wt_test ?_
  | with_reducible refine wt_val ?_
  | with_reducible refine wt_and ?_
  | with_reducible refine wt_or ?_
  | with_reducible refine wt_not ?_
  | with_reducible refine wt_yes ?_
  | with_reducible refine wt_truth ?_
  | with_reducible refine we_andV ?_
  | with_reducible refine we_orV ?_
  | with_reducible refine we_notV ?_
  | with_reducible refine we_if ?_
  | with_reducible refine we_craw ?_)
local macro_rules | `(tactic| walk_at "y3") => `(tactic| first
  | with_reducible refine ro_plusI ?_
  | with_reducible refine ro_eqI ?_
  | with_reducible refine ro_eqS ?_
  | with_reducible refine ro_neI ?_
  | with_reducible refine ro_neS ?_
  | ((with_reducible refine' ro_I0 ?e ?_); (case e => rfl))
  | ((with_reducible refine' ro_I ?c ?e ?_); (case e => rfl); (case c => first | decide | omega | exact Or.inr (by decide) | exact Or.inl (by decide) | exact ⟨by decide, by decide +kernel⟩ | exact ⟨by decide, by decide, by decide⟩ | exact Or.inl ⟨by omega, by omega⟩ | exact Or.inr ⟨by omega, by omega⟩ | assumption))
  | ((with_reducible refine' ro_ix1 ?a ?b ?_); (case a => rfl); (case b => first | exact at0 | rfl))
  | ((with_reducible refine' ro_ix2 ?b ?_); (case b => first | exact at0 | rfl))
  | with_reducible refine ro_isN ?_
  | with_reducible refine ro_isA ?_
  | ((with_reducible refine' rc_len1 ?a ?_); (case a => first | exact Or.inl rfl | exact Or.inr rfl))
  | ((with_reducible refine' rc_isi ?a ?b ?_); (case a => rfl); (case b => first | exact kit_NoneType_int | exact kit_NoneType_bool | exact kit_NoneType_str | exact kit_NoneType_tuple | exact kit_NoneType_list | exact kit_bool_int | exact kit_bool_bool | exact kit_bool_str | exact kit_bool_tuple | exact kit_bool_list | exact kit_int_int | exact kit_int_bool | exact kit_int_str | exact kit_int_tuple | exact kit_int_list | exact kit_str_int | exact kit_str_bool | exact kit_str_str | exact kit_str_tuple | exact kit_str_list | exact kit_tuple_int | exact kit_tuple_bool | exact kit_tuple_str | exact kit_tuple_tuple | exact kit_tuple_list | exact kit_list_int | exact kit_list_bool | exact kit_list_str | exact kit_list_tuple | exact kit_list_list))
  | with_reducible refine rcA_abs ?_
  | with_reducible refine rcA_max ?_
  | with_reducible refine rcA_min ?_
  | with_reducible refine rcA_intI ?_
  | with_reducible refine rcA_intB ?_
  | ((with_reducible refine' rcA_list ?a ?_); (case a => first | exact Or.inl rfl | exact Or.inr rfl))
  | ((with_reducible refine' rcA_tuple ?a ?_); (case a => first | exact Or.inl rfl | exact Or.inr rfl)))
local macro_rules | `(tactic| walk_at "y4") => `(tactic| first
  | ((with_reducible refine' ite_t ?e ?_); (case e => rfl))
  | ((with_reducible refine' ite_f ?e ?_); (case e => rfl))
  | refine ⟨_, rfl, (show _ ≤ sizeLine by simp only [List.length_cons, List.length_nil]; decide), ?_⟩
  | refine ⟨_, rfl, ?_⟩
  | refine ⟨rfl, ?_⟩
  | refine ⟨_, _, rfl, rfl, ?_⟩)
local macro_rules | `(tactic| walk_at "z") => `(tactic| ((first | walk_at "y1" | walk_at "y2" | walk_at "y3" | walk_at "y4"); try dsimp only [List.set, Int.reduceToNat]))
local macro_rules | `(tactic| walk_at "y") => `(tactic| first | walk_at "z" | (with_reducible refine ws_seq ?_))
local macro_rules | `(tactic| walk_at "s") => `(tactic| ((with_reducible refine ws_seq ?_); repeat walk_at "z"))

abbrev s_Glue_init : Stmt := inClass (top 9) 0
abbrev N_Glue_init : List Str := ["self", "natural", "stretch", "shrink"]
theorem sc_Glue_init : FnScope N_Glue_init ["self", "natural", "stretch", "shrink"] (C8.fnScope s_Glue_init) := C8.fnScope_by (by decide +kernel)
abbrev s_Style_init : Stmt := inClass (top 11) 0
abbrev N_Style_init : List Str := ["self", "told", "name", "font", "strong", "left", "measure", "indent", "align", "ahead", "between"]
theorem sc_Style_init : FnScope N_Style_init ["self", "told"] (C8.fnScope s_Style_init) := C8.fnScope_by (by decide +kernel)
/-! ### __init__ by its body -/
theorem init_rel {K : PySem.W.Frag} {p : Option Addr} {H1 F : Hp} {C x dx : Addr} (k : Ok K p H1 F) (hx : H1 x = none) (hd : H1 dx = none) (ne : dx ≠ x) {N : List Str} {vs : List V} {rs : List Rv} (h : Paired (RvOk K p H1 H1 H1 F) vs rs) (hN : 0 < N.length) :
    Rel K p H1 F (L2.start N (.ref x :: vs)) (upd (upd H1 dx (.own x)) x (.ins C dx [])) F (.m (some x) (.obj C [] []) :: startS (N.drop 1) rs) := by
  have fx : F x = none := k.ofF hx
  have fd : F dx = none := k.ofF hd
  have n1 : Nx K p H1 F (upd H1 dx (.own x)) F := (Nx.refl k).wr k hd fd
  have hx2 : (upd H1 dx (.own x)) x = none := by rw [upd_ne (fun e => ne e.symm)]; exact hx
  have n2 : Nx K p H1 F (upd (upd H1 dx (.own x)) x (.ins C dx [])) F := n1.wr k hx fx
  have rest : Rel K p H1 F (L2.start (N.drop 1) vs) H1 F (startS (N.drop 1) rs) := start_rel k h
  have rest2 := rest.step n2
  have e1 : L2.start N (.ref x :: vs) = some (.ref x) :: L2.start (N.drop 1) vs := by
    unfold L2.start
    rw [List.map_cons, List.length_cons, List.length_drop, List.cons_append]
    congr 3
    omega
  rw [e1]
  have st : ∀ (i : Nat) (s : Sv), (startS (N.drop 1) rs)[i]? = some s → ∀ a m, s ≠ .m a m := fun i s e a m z => by
    subst z
    have : Sv.m a m ∈ startS (N.drop 1) rs := List.mem_of_getElem? e
    unfold startS at this
    rw [List.mem_append] at this
    rcases this with z | z
    · obtain ⟨r, _, q⟩ := List.mem_map.mp z
      exact absurd q (noM r _ m)
    · have := List.eq_of_mem_replicate z
      cases this
  refine ⟨k, n2, by rw [List.length_cons, List.length_cons, rest.len], fun j s e => ?_, fun j k' a q1 q2 m1 m2 ne e1 e2 => ?_⟩
  · cases j with
    | zero => cases e; exact ⟨_, rfl, x, _, fun b z => (Option.some.inj z), rfl, upd_same, hx, fx, rfl, rfl, .nil⟩
    | succ j => exact rest2.sl j s e
  · cases j with
    | zero =>
      cases k' with
      | zero => exact absurd rfl ne
      | succ k' => exact absurd rfl (st k' _ e2 _ _)
    | succ j => exact absurd rfl (st j _ e1 _ _)
section
variable {P : Program} {w : World} {K : PySem.W.Frag} {mg : Str → Option Value} {base : Heap}
theorem mak_ws {x qual : Str} {C : Addr} {st : Stmt} {f : Addr} {fd : FuncData} {N ps : List Str} {k : Nat} {sp : ISpD} (M : Mk K C f) (F : C8.Fun K "__init__" qual st f fd) (b : Binds K fd ps []) (hm : mg x = some (.ref C)) (S : FnScope N ps (C8.fnScope st)) (hN : 0 < N.length) (len : ∀ p rs Φ, sp p rs Φ → rs.length + 1 = ps.length)
    (hbody : ∀ (cdv : Value) (A : Around) (outer : List Env) (s : Shared) (H : Hp) (E : XK), Room k (A.deeper (envOfC qual (C8.fnScope st) s.heap.objs.size f cdv)) → ∀ (p : Option Addr) (a : Addr) (rs : List Rv) (Φ : List Str → List D → Prop), sp p rs Φ →
      ∃ t, PSs (cxOf C8.CX0 P w K mg base N qual (C8.fnScope st) f cdv A outer s H E).nox (C8.fnBody st) t ∧ WS (g0 K p) t (.m (some a) (.obj C [] []) :: startS (N.drop 1) rs) { nx := fun sv => ∃ ns ds r, Φ ns ds ∧ sv = .m (some a) (.obj C ns ds) :: r, rt := fun _ _ => False }) : C8.Mak P w K mg base (k + 1) x C (ISp K C sp) [] := by
  refine ⟨f, fd, ps, [], M, C8.fn0 F S (fun vs H Q E h => ?_) fun cdv A outer s H vs Q E hr h => ?_, hm, b, .nil⟩
  · obtain ⟨p, F, H1, x, dx, vs', rs, Φ, rfl, rfl, h1, h2, h3, k, pp, q, fin⟩ := h
    rw [List.length_cons, pair_len pp]; exact len p rs Φ q
  · obtain ⟨p, F, H1, x, dx, vs', rs, Φ, rfl, rfl, h1, h2, h3, k, pp, q, fin⟩ := h
    obtain ⟨t, g1, g2⟩ := hbody cdv A outer s _ E hr p x rs Φ q
    refine ⟨t, g1, g2 H1 F _ _ F (init_rel k h1 h2 h3 pp hN) exc0 _ ⟨fun σ' H' F' sv' q' s' R' => ?_, fun v r σ' H' F' sv' q' => q'.elim, fun _ _ _ _ z => z.elim, fun _ _ _ _ z => z.elim⟩⟩
    obtain ⟨ns, ds, r, q2, rfl⟩ := q'
    obtain ⟨o, _, a, u, hq, e1, g, g0, gf, mo⟩ := R'.sl 0 _ rfl
    have := hq x rfl
    subst this
    exact fin ns ds H' F' u q2 R'.nx g gf mo
/-- a class's __init__, which its text holds -/
structure In1 (K : PySem.W.Frag) (mg : Str → Option Value) (x qual : Str) (C : Addr) (st : Stmt) (ps : List Str) : Prop where
  cl : Cls K C
  mg : mg x = some (.ref C)
  ex : ∃ (f : Addr) (fd : FuncData), Mk K C f ∧ C8.Fun K "__init__" qual st f fd ∧ Binds K fd ps []
def spGlue : ISpD := fun _ rs Φ => ∃ a b c : Int, rs = [.d (.int a), .d (.int b), .d (.int c)] ∧ Φ ["natural", "stretch", "shrink"] [.int a, .int b, .int c]
theorem mak_Glue {C : Addr} (I : In1 K mg "Glue" "Glue.__init__" C s_Glue_init ["self", "natural", "stretch", "shrink"]) (n1 : NoAttr K C "natural") (n2 : NoAttr K C "stretch") (n3 : NoAttr K C "shrink") : C8.Mak P w K mg base 1 "Glue" C (ISp K C spGlue) [] := by
  have sc := sc_Glue_init
  obtain ⟨f, fd, M, F, b⟩ := I.ex
  refine mak_ws M F b I.mg sc (by decide) (fun p rs Φ h => ?_) fun cdv A outer st H E hr p a rs Φ h => ?_
  · obtain ⟨x, y, z, e, _⟩ := h; rw [e]; rfl
  refine ⟨_, (pss_cons (ps_fld (pv 0) (pv 1) rfl)
      (pss_cons (ps_fld (pv 0) (pv 2) rfl)
      (pss_one (ps_fld (pv 0) (pv 3) rfl)))), ?_⟩
  try dsimp only [L2.cxOf]
  obtain ⟨x, y, z, rfl, post⟩ := h
  show WS (g0 K p) _ [.m (some a) (.obj C [] []), .d (.int x), .d (.int y), .d (.int z)] _
  refine ws_seq (ws_fld rfl I.cl n1 (by simp) (by decide) ?_)
  repeat walk_at "y"
  refine ws_fld rfl I.cl n2 (by decide +kernel) (by decide) ?_
  repeat walk_at "y"
  refine ws_fld rfl I.cl n3 (by decide +kernel) (by decide) ?_
  repeat walk_at "y"
  exact ⟨_, _, _, post, rfl⟩
def trip (x : Int × Int × Int) : D := .tup [.int x.1, .int x.2.1, .int x.2.2]
def glueD (CG : Addr) (x : Int × Int × Int) : D := .obj CG ["natural", "stretch", "shrink"] [.int x.1, .int x.2.1, .int x.2.2]
def spStyle (CG : Addr) : ISpD := fun _ rs Φ => ∃ (a b c d e f g : D) (x y : Int × Int × Int), rs = [.d (.tup [a, b, c, d, e, f, g, trip x, trip y])] ∧
  Φ ["name", "font", "strong", "left", "measure", "indent", "align", "ahead", "between"] [a, b, c, d, e, f, g, glueD CG x, glueD CG y]
structure StyA (K : PySem.W.Frag) (C : Addr) : Prop where
  n1 : NoAttr K C "name"
  n2 : NoAttr K C "font"
  n3 : NoAttr K C "strong"
  n4 : NoAttr K C "left"
  n5 : NoAttr K C "measure"
  n6 : NoAttr K C "indent"
  n7 : NoAttr K C "align"
  n8 : NoAttr K C "ahead"
  n9 : NoAttr K C "between"
theorem mak_Style {CG C : Addr} (I : In1 K mg "Style" "Style.__init__" C s_Style_init ["self", "told"]) (A : StyA K C) (c_Glue : C8.Mak P w K mg base 1 "Glue" CG (ISp K CG spGlue) []) : C8.Mak P w K mg base 3 "Style" C (ISp K C (spStyle CG)) [] := by
  have sc := sc_Style_init
  obtain ⟨f, fd, M, F, b⟩ := I.ex
  refine mak_ws M F b I.mg sc (by decide) (fun p rs Φ h => ?_) fun cdv A' outer st H E hr p q rs Φ h => ?_
  · obtain ⟨_, _, _, _, _, _, _, x, y, e, _⟩ := h; rw [e]; rfl
  refine ⟨_, (pss_cons (ps_asg (pv 1) (pg_tup rfl (pgs_cons (pg_name (i := 2) sc.nd rfl (by first | exact Or.inl rfl | exact Or.inr rfl)) (pgs_cons (pg_name (i := 3) sc.nd rfl (by first | exact Or.inl rfl | exact Or.inr rfl)) (pgs_cons (pg_name (i := 4) sc.nd rfl (by first | exact Or.inl rfl | exact Or.inr rfl)) (pgs_cons (pg_name (i := 5) sc.nd rfl (by first | exact Or.inl rfl | exact Or.inr rfl)) (pgs_cons (pg_name (i := 6) sc.nd rfl (by first | exact Or.inl rfl | exact Or.inr rfl)) (pgs_cons (pg_name (i := 7) sc.nd rfl (by first | exact Or.inl rfl | exact Or.inr rfl)) (pgs_cons (pg_name (i := 8) sc.nd rfl (by first | exact Or.inl rfl | exact Or.inr rfl)) (pgs_cons (pg_name (i := 9) sc.nd rfl (by first | exact Or.inl rfl | exact Or.inr rfl)) (pgs_cons (pg_name (i := 10) sc.nd rfl (by first | exact Or.inl rfl | exact Or.inr rfl)) pgs_nil)))))))))))
      (pss_cons (ps_fld (pv 0) (pv 2) rfl)
      (pss_cons (ps_fld (pv 0) (pv 3) rfl)
      (pss_cons (ps_fld (pv 0) (pv 4) rfl)
      (pss_cons (ps_fld (pv 0) (pv 5) rfl)
      (pss_cons (ps_fld (pv 0) (pv 6) rfl)
      (pss_cons (ps_fld (pv 0) (pv 7) rfl)
      (pss_cons (ps_fld (pv 0) (pv 8) rfl)
      (pss_cons (ps_fld (pv 0) (pe_makeS c_Glue hr (by first | decide | omega) rfl (pv 9)) rfl)
      (pss_one (ps_fld (pv 0) (pe_makeS c_Glue hr (by first | decide | omega) rfl (pv 10)) rfl))))))))))), ?_⟩
  try dsimp only [L2.cxOf]
  obtain ⟨a, b, c, d, e, f, g, x, y, rfl, post⟩ := h
  show WS (g0 K p) _ [.m (some q) (.obj C [] []), .d (.tup [a, b, c, d, e, f, g, trip x, trip y]), .any, .any, .any, .any, .any, .any, .any, .any, .any] _
  repeat walk_at "y"
  refine' ws_asgG ?_
  rotate_left
  walk_at "y"
  refine ⟨_, rfl, wg_tup rfl (wgs_cons (wg_name (wgs_cons (wg_name (wgs_cons (wg_name (wgs_cons (wg_name (wgs_cons (wg_name (wgs_cons (wg_name (wgs_cons (wg_name (wgs_cons (wg_name (wgs_cons (wg_name (wgs_nil ?_)))))))))))))))))))⟩
  dsimp only [List.set]
  refine ws_seq (ws_fld rfl I.cl A.n1 (by simp) (by decide) ?_)
  repeat walk_at "y"
  refine ws_fld rfl I.cl A.n2 (by decide +kernel) (by decide) ?_
  repeat walk_at "y"
  refine ws_fld rfl I.cl A.n3 (by decide +kernel) (by decide) ?_
  repeat walk_at "y"
  refine ws_fld rfl I.cl A.n4 (by decide +kernel) (by decide) ?_
  repeat walk_at "y"
  refine ws_fld rfl I.cl A.n5 (by decide +kernel) (by decide) ?_
  repeat walk_at "y"
  refine ws_fld rfl I.cl A.n6 (by decide +kernel) (by decide) ?_
  repeat walk_at "y"
  refine ws_fld rfl I.cl A.n7 (by decide +kernel) (by decide) ?_
  repeat walk_at "y"
  refine ws_fld rfl I.cl A.n8 (by decide +kernel) (by decide) ?_
  repeat walk_at "y"
  refine ⟨x.1, x.2.1, x.2.2, rfl, ?_⟩
  repeat walk_at "y"
  refine ws_fld rfl I.cl A.n9 (by decide +kernel) (by decide) ?_
  repeat walk_at "y"
  refine ⟨y.1, y.2.1, y.2.2, rfl, ?_⟩
  repeat walk_at "y"
  exact ⟨_, _, _, post, rfl⟩
end
end Y

set_option maxHeartbeats 4000000
namespace Y
open PySem L2 PySem.Spec PyProof.Rows
local macro_rules | `(tactic| walk_at "y1") => `(tactic| first
  | with_reducible refine ws_asg ?_
  | with_reducible refine ws_next ?_
  | with_reducible refine ws_brk ?_
  | with_reducible refine ws_cont ?_
  | with_reducible refine ws_if ?_
  | ((with_reducible refine' ws_setL ?e ?_); (case e => rfl))
  | ((with_reducible refine' ws_app ?e ?_); (case e => rfl))
  | ((with_reducible refine' ws_ext ?e ?_); (case e => rfl))
  | with_reducible refine ws_asgG ?_
  | ((with_reducible refine' ws_retOwn ?e ?_); (case e => rfl))
  | with_reducible refine ws_ret ?_
  | with_reducible refine ws_retN ?_
  | with_reducible refine ws_drop ?_)
local macro_rules | `(tactic| walk_at "y2") => `(tactic| first
  | ((with_reducible refine' we_d ?e ?_); (case e => rfl))
  | ((with_reducible refine' we_raw ?e ?_); (case e => rfl))
  | ((with_reducible refine' we_ro ?e ?_); (case e => rfl))
  | ((with_reducible refine' we_m ?e ?_); (case e => rfl))
  | with_reducible refine we_cint ?_
  | with_reducible refine we_cstr ?_
  | with_reducible refine we_cbl ?_
  | with_reducible refine we_cnon ?_
  | with_reducible refine we_op ?_
  | with_reducible refine we_un ?_
  | with_reducible refine we_cb ?_
  | with_reducible refine we_tup ?_
  | with_reducible refine we_lst ?_
  | with_reducible refine wa_nil ?_
  | with_reducible refine wa_cons ?_
  | with_reducible refine we_bm0 ?_
  | with_reducible refine we_bm ?_
  | with_reducible refine we_m0 ?_
  | with_reducible refine we_m1 ?_
  | with_reducible refine we_sl ?_
  | with_reducible refine wo_none ?_
  | with_reducible refine wo_some ?_
  | with_reducible refine we_fld ?_
  | with_reducible refine we_call ?_
  | with_reducible refine we_mk ?_
  | with_reducible refine we_mkS ?_
  | with_reducible refine wt_test ?_
  | with_reducible refine wt_val ?_
  | with_reducible refine wt_and ?_
  | with_reducible refine wt_or ?_
  | with_reducible refine wt_not ?_
  | with_reducible refine wt_yes ?_
  | with_reducible refine wt_truth ?_
  | with_reducible refine we_andV ?_
  | with_reducible refine we_orV ?_
  | with_reducible refine we_notV ?_
  | with_reducible refine we_if ?_
  | with_reducible refine we_craw ?_)
local macro_rules | `(tactic| walk_at "y3") => `(tactic| first
  | with_reducible refine ro_plusI ?_
  | with_reducible refine ro_eqI ?_
  | with_reducible refine ro_eqS ?_
  | with_reducible refine ro_neI ?_
  | with_reducible refine ro_neS ?_
  | ((with_reducible refine' ro_I0 ?e ?_); (case e => rfl))
  | ((with_reducible refine' ro_I ?c ?e ?_); (case e => rfl); (case c => first | decide | omega | exact Or.inr (by decide) | exact Or.inl (by decide) | exact ⟨by decide, by decide +kernel⟩ | exact ⟨by decide, by decide, by decide⟩ | exact Or.inl ⟨by omega, by omega⟩ | exact Or.inr ⟨by omega, by omega⟩ | assumption))
  | ((with_reducible refine' ro_ix1 ?a ?b ?_); (case a => rfl); (case b => first | exact at0 | rfl))
  | ((with_reducible refine' ro_ix2 ?b ?_); (case b => first | exact at0 | rfl))
  | with_reducible refine ro_isN ?_
  | with_reducible refine ro_isA ?_
  | ((with_reducible refine' rc_len1 ?a ?_); (case a => first | exact Or.inl rfl | exact Or.inr rfl))
  | ((with_reducible refine' rc_isi ?a ?b ?_); (case a => rfl); (case b => first | exact kit_NoneType_int | exact kit_NoneType_bool | exact kit_NoneType_str | exact kit_NoneType_tuple | exact kit_NoneType_list | exact kit_bool_int | exact kit_bool_bool | exact kit_bool_str | exact kit_bool_tuple | exact kit_bool_list | exact kit_int_int | exact kit_int_bool | exact kit_int_str | exact kit_int_tuple | exact kit_int_list | exact kit_str_int | exact kit_str_bool | exact kit_str_str | exact kit_str_tuple | exact kit_str_list | exact kit_tuple_int | exact kit_tuple_bool | exact kit_tuple_str | exact kit_tuple_tuple | exact kit_tuple_list | exact kit_list_int | exact kit_list_bool | exact kit_list_str | exact kit_list_tuple | exact kit_list_list))
  | with_reducible refine rcA_abs ?_
  | with_reducible refine rcA_max ?_
  | with_reducible refine rcA_min ?_
  | with_reducible refine rcA_intI ?_
  | with_reducible refine rcA_intB ?_
  | ((with_reducible refine' rcA_list ?a ?_); (case a => first | exact Or.inl rfl | exact Or.inr rfl))
  | ((with_reducible refine' rcA_tuple ?a ?_); (case a => first | exact Or.inl rfl | exact Or.inr rfl)))
local macro_rules | `(tactic| walk_at "y4") => `(tactic| first
  | ((with_reducible refine' ite_t ?e ?_); (case e => rfl))
  | ((with_reducible refine' ite_f ?e ?_); (case e => rfl))
  | refine ⟨_, rfl, (show _ ≤ sizeLine by simp only [List.length_cons, List.length_nil]; decide), ?_⟩
  | refine ⟨_, rfl, ?_⟩
  | refine ⟨rfl, ?_⟩
  | refine ⟨_, _, rfl, rfl, ?_⟩)
local macro_rules | `(tactic| walk_at "z") => `(tactic| ((first | walk_at "y1" | walk_at "y2" | walk_at "y3" | walk_at "y4"); try dsimp only [List.set, Int.reduceToNat]))
local macro_rules | `(tactic| walk_at "y") => `(tactic| first | walk_at "z" | (with_reducible refine ws_seq ?_))
local macro_rules | `(tactic| walk_at "s") => `(tactic| ((with_reducible refine ws_seq ?_); repeat walk_at "z"))

abbrev s__law_names : Stmt := top 19
abbrev N__law_names : List Str := ["pool", "row", "at", "other", "chars", "k"]
theorem sc__law_names : FnScope N__law_names ["pool"] (C8.fnScope s__law_names) := C8.fnScope_by (by decide +kernel)
abbrev s__law_triple : Stmt := top 20
abbrev N__law_triple : List Str := ["pool", "natural"]
theorem sc__law_triple : FnScope N__law_triple ["pool"] (C8.fnScope s__law_triple) := C8.fnScope_by (by decide +kernel)
abbrev s__law_word : Stmt := top 22
abbrev N__law_word : List Str := ["pool", "chars", "k"]
theorem sc__law_word : FnScope N__law_word ["pool"] (C8.fnScope s__law_word) := C8.fnScope_by (by decide +kernel)
abbrev s__law_told_style : Stmt := top 21
abbrev N__law_told_style : List Str := ["pool", "names", "name", "measure", "row"]
theorem sc__law_told_style : FnScope N__law_told_style ["pool"] (C8.fnScope s__law_told_style) := C8.fnScope_by (by decide +kernel)
def spWord : DSp := fun p rs Φ => ∃ q : Addr, p = some q ∧ rs = [.raw (.ref q)] ∧ ∀ w : Str, 0 < w.length → w.length ≤ 12 → Φ (.d (.str w))
def spTriple : DSp := fun p rs Φ => ∃ q : Addr, p = some q ∧ rs = [.raw (.ref q)] ∧ ∀ x : Int × Int × Int, Φ (.d (trip x))
def spNames : DSp := fun p rs Φ => ∃ q : Addr, p = some q ∧ rs = [.raw (.ref q)] ∧ ∀ a b : Str, 0 < a.length → 0 < b.length → Φ (.nl [.str a, .str b])
def spTold : DSp := fun p rs Φ => ∃ q : Addr, p = some q ∧ rs = [.raw (.ref q)] ∧ ∀ (a d e g h : D) (b c : Str) (x y : Int × Int × Int), 0 < b.length → 0 < c.length → Φ (.d (.tup [a, .str b, .str c, d, e, g, h, trip x, trip y]))
section
variable {P : Program} {w : World} {K : PySem.W.Frag} {mg : Str → Option Value} {base : Heap}
variable (c__law_draw : C8.Cal P w K mg base 1 "_law_draw" (FSp K spDraw) []) (c__law_pick : C8.Cal P w K mg base 2 "_law_pick" (FSp K spPick) []) (c__law_few : C8.Cal P w K mg base 3 "_law_few" (FSp K spFew) []) (c__law_rare : C8.Cal P w K mg base 2 "_law_rare" (FSp K spRare) [])
include c__law_draw c__law_pick c__law_few c__law_rare
theorem cal__law_triple (D : Dn K mg "_law_triple" s__law_triple ["pool"]) (hB : Blt mg) : C8.Cal P w K mg base 4 "_law_triple" (FSp K spTriple) [] := by
  have sc := sc__law_triple
  refine D.cal sc (fun p rs Φ h => ?_) fun f cdv A outer st H E hr p rs Φ h => ?_
  · obtain ⟨q, _, e, _⟩ := h; rw [e]; rfl
  refine ⟨_, (pss_cons (ps_set (i := 1) sc.nd rfl (by first | exact Or.inl rfl | exact Or.inr rfl) (C8.pe_c c__law_few hr (by first | decide | omega) rfl (pa_cons (pv 0) (pa_cons pe_int (pa_cons pe_int pa_nil)))))
      (pss_one (ps_ret (pe_tup (pa_cons (pv 1) (pa_cons (C8.pe_c c__law_few hr (by first | decide | omega) rfl (pa_cons (pv 0) (pa_cons pe_int (pa_cons pe_int pa_nil)))) (pa_cons (C8.pe_c c__law_draw hr (by first | decide | omega) rfl (pa_cons (pv 0) (pa_cons (pe_op op_plus (pv 1) pe_int) pa_nil))) pa_nil))))))), ?_⟩
  try dsimp only [L2.cxOf]
  obtain ⟨q, rfl, rfl, post⟩ := h
  show WS (g0 K (some q)) _ [.raw (.ref q), .any] _
  repeat walk_at "y"
  refine ⟨_, .cons (.raw _) (.cons (.d _) (.cons (.d _) .nil)), q, _, _, rfl, rfl, by decide, by decide, by decide, by decide, fun r r0 hr1 => ?_⟩
  have r1 : r ≤ 1000 := by omega
  repeat walk_at "y"
  refine ⟨_, .cons (.raw _) (.cons (.d _) (.cons (.d _) .nil)), q, _, _, rfl, rfl, by decide, by decide, by decide, by decide, fun r' r0' hr1' => ?_⟩
  repeat walk_at "y"
  refine ⟨_, .cons (.raw _) (.cons (.d _) .nil), q, _, rfl, rfl, by omega, by omega, fun u h0 h1 => ?_⟩
  repeat walk_at "y"
  exact post (r, r', u)
theorem cal__law_word (D : Dn K mg "_law_word" s__law_word ["pool"]) (hB : Blt mg) : C8.Cal P w K mg base 4 "_law_word" (FSp K spWord) [] := by
  have sc := sc__law_word
  refine D.cal sc (fun p rs Φ h => ?_) fun f cdv A outer st H E hr p rs Φ h => ?_
  · obtain ⟨q, _, e, _⟩ := h; rw [e]; rfl
  refine ⟨_, (pss_cons (ps_set (i := 1) sc.nd rfl (by first | exact Or.inl rfl | exact Or.inr rfl) pe_str)
      (pss_one (ps_ret (pe_joinA pe_str (pe_lc (own := [("k", 2)]) (g := (gName 2)) (tt := tYes) (te := (tCall (FSp K spPick) [] C8.E0 (tCons (tVar 0) (tCons (tVar 1) tNil)))) (by rfl) sc.nd (pi_range1 rfl hB.range (pa_cons (pe_op op_plus pe_int (C8.pe_c c__law_few hr (by first | decide | omega) rfl (pa_cons (pv 0) (pa_cons pe_int (pa_cons pe_int pa_nil))))) pa_nil)) (blkOk_by (N := N__law_word) (sc := C8.fnScope s__law_word) (by decide +kernel)) (fun _ _ _ _ _ => pg_name (i := 2) sc.nd rfl (by first | exact Or.inl rfl | exact Or.inr rfl)) (fun _ _ _ _ _ => pts_nil) (fun _ _ _ _ _ => (C8.pe_c c__law_pick hr (by first | decide | omega) rfl (pa_cons (pv 0) (pa_cons (pv 1) pa_nil))))))))), ?_⟩
  try dsimp only [L2.cxOf]
  obtain ⟨q, rfl, rfl, post⟩ := h
  show WS (g0 K (some q)) _ [.raw (.ref q), .any, .any] _
  repeat walk_at "y"
  refine we_lcP isSign ?_
  refine wi_range1 ?_
  repeat walk_at "y"
  refine ⟨_, .cons (.raw _) (.cons (.d _) (.cons (.d _) .nil)), q, _, _, rfl, rfl, by decide, by decide, by decide, by decide, fun r r0 hr1 => ?_⟩
  have r1 : r ≤ 11 := by omega
  repeat walk_at "y"
  refine ⟨by omega, by omega, by rw [rangeD_len]; show _ ≤ 16777216; omega, fun i x hx => ⟨_, by intro j hj; exact hj, wg_name ?_⟩, fun acc hl ha => ?_⟩
  · dsimp only [List.map, wipeS, List.set]
    repeat walk_at "y"
    refine ⟨_, .cons (.raw _) (.cons (.d _) .nil), q, rfl, .inr ⟨_, rfl, by decide +kernel, by decide +kernel, fun c hc => ⟨_, rfl, _, rfl, rfl⟩⟩⟩
  · rw [rangeD_len] at hl
    refine rmA_joinS rfl ha (by omega) fun w hw => ?_
    exact ⟨rfl, post w (by omega) (by omega)⟩
theorem cal__law_names (D : Dn K mg "_law_names" s__law_names ["pool"]) (hB : Blt mg) : C8.Cal P w K mg base 4 "_law_names" (FSp K spNames) [] := by
  have sc := sc__law_names
  refine D.cal sc (fun p rs Φ h => ?_) fun f cdv A outer st H E hr p rs Φ h => ?_
  · obtain ⟨q, _, e, _⟩ := h; rw [e]; rfl
  refine ⟨_, (pss_cons (ps_setLc (i := 1) (own := [("k", 5)]) (g := (gName 5)) (tt := tYes) (te := (tCall (FSp K spDraw) [] C8.E0 (tCons (tVar 0) (tCons (tC (.int 26)) tNil)))) (by rfl) sc.nd rfl rfl (sw_true rfl rfl rfl (by decide +kernel)) (pi_range1 rfl hB.range (pa_cons (pe_op op_plus pe_int (C8.pe_c c__law_few hr (by first | decide | omega) rfl (pa_cons (pv 0) (pa_cons pe_int (pa_cons pe_int pa_nil))))) pa_nil)) (blkOk_by (N := N__law_names) (sc := C8.fnScope s__law_names) (by decide +kernel)) (fun _ _ _ _ _ => pg_name (i := 5) sc.nd rfl (by first | exact Or.inl rfl | exact Or.inr rfl)) (fun _ _ _ _ _ => pts_nil) (fun _ _ _ _ _ => (C8.pe_c c__law_draw hr (by first | decide | omega) rfl (pa_cons (pv 0) (pa_cons pe_int pa_nil)))))
      (pss_cons (ps_set (i := 2) sc.nd rfl (by first | exact Or.inl rfl | exact Or.inr rfl) (C8.pe_c c__law_draw hr (by first | decide | omega) rfl (pa_cons (pv 0) (pa_cons (pe_callB call_lenA (by rfl) hB.len PySem.boot_len (pa_cons (pv 1) pa_nil)) pa_nil))))
      (pss_cons (ps_set (i := 3) sc.nd rfl (by first | exact Or.inl rfl | exact Or.inr rfl) (pe_callTy call_listA (by rfl) hB.list (by decide +kernel) (pa_cons (pv 1) pa_nil)))
      (pss_cons (ps_asg (pe_op op_mod (pe_callTy call_intA (by rfl) hB.int (by decide +kernel) (pa_cons (pe_op op_plus (pe_op op_plus (pe_ix ix_seq (pv 1) (pv 2) (fun _ _ => rfl)) pe_int) (C8.pe_c c__law_draw hr (by first | decide | omega) rfl (pa_cons (pv 0) (pa_cons pe_int pa_nil)))) pa_nil)) pe_int) (pg_sub (pv 3) (pv 2) set_list))
      (pss_cons (ps_set (i := 4) sc.nd rfl (by first | exact Or.inl rfl | exact Or.inr rfl) pe_str)
      (pss_one (ps_ret (pe_lst (pa_cons (pe_joinA pe_str (pe_lc (own := [("k", 5)]) (g := (gName 5)) (tt := tYes) (te := (tOp (rIx K) (tVar 4) (tVar 5))) (by rfl) sc.nd (pi_list (pv 1)) (blkOk_by (N := N__law_names) (sc := C8.fnScope s__law_names) (by decide +kernel)) (fun _ _ _ _ _ => pg_name (i := 5) sc.nd rfl (by first | exact Or.inl rfl | exact Or.inr rfl)) (fun _ _ _ _ _ => pts_nil) (fun _ _ _ _ _ => (pe_ix ix_seq (pv 4) (pv 5) (fun _ _ => rfl))))) (pa_cons (pe_joinA pe_str (pe_lc (own := [("k", 5)]) (g := (gName 5)) (tt := tYes) (te := (tOp (rIx K) (tVar 4) (tVar 5))) (by rfl) sc.nd (pi_list (pv 3)) (blkOk_by (N := N__law_names) (sc := C8.fnScope s__law_names) (by decide +kernel)) (fun _ _ _ _ _ => pg_name (i := 5) sc.nd rfl (by first | exact Or.inl rfl | exact Or.inr rfl)) (fun _ _ _ _ _ => pts_nil) (fun _ _ _ _ _ => (pe_ix ix_seq (pv 4) (pv 5) (fun _ _ => rfl))))) pa_nil)))))))))), ?_⟩
  try dsimp only [L2.cxOf]
  obtain ⟨q, rfl, rfl, post⟩ := h
  show WS (g0 K (some q)) _ [.raw (.ref q), .any, .any, .any, .any, .any] _
  repeat walk_at "y"
  refine we_lcP (fun d => ∃ k : Int, d = .int k ∧ 0 ≤ k ∧ k < 26) ?_
  refine wi_range1 ?_
  repeat walk_at "y"
  refine ⟨_, .cons (.raw _) (.cons (.d _) (.cons (.d _) .nil)), q, _, _, rfl, rfl, by decide, by decide, by decide, by decide, fun r r0 hr1 => ?_⟩
  have r1 : r ≤ 11 := by omega
  repeat walk_at "y"
  refine ⟨by omega, by omega, by rw [rangeD_len]; show _ ≤ 16777216; omega, fun i x hx => ⟨_, by intro j hj; exact hj, wg_name ?_⟩, fun acc hl ha => ?_⟩
  · dsimp only [List.map, wipeS, List.set]
    repeat walk_at "y"
    exact ⟨_, .cons (.raw _) (.cons (.d _) .nil), q, _, rfl, rfl, by decide, by decide, fun r h0 h1 => ⟨_, rfl, r, rfl, h0, h1⟩⟩
  · rw [rangeD_len] at hl
    obtain ⟨ns, rfl, hns⟩ : ∃ ns : List Int, acc = ns.map Y.D.int ∧ ∀ k ∈ ns, 0 ≤ k ∧ k < 26 := by
      clear hl
      induction acc with
      | nil => exact ⟨[], rfl, fun _ h => nomatch h⟩
      | cons d ds ih =>
        obtain ⟨k, rfl, h⟩ := ha d (.head _)
        obtain ⟨ns, rfl, h2⟩ := ih fun y hy => ha y (.tail _ hy)
        exact ⟨k :: ns, rfl, fun j hj => by rcases List.mem_cons.mp hj with rfl | hj; exact h; exact h2 j hj⟩
    repeat walk_at "y"
    refine ⟨_, .cons (.raw _) (.cons (.d _) .nil), q, _, rfl, rfl, by omega, by omega, fun u h0 h1 => ?_⟩
    repeat walk_at "y"
    have hu : u.toNat < ns.length := by rw [List.length_map] at h1 hl; omega
    obtain ⟨c, hc, hcm⟩ : ∃ c, atI (ns.map Y.D.int) u = some (.int c) ∧ c ∈ ns := ⟨ns[u.toNat], at_nat (j := u.toNat) (by omega) (by rw [List.getElem?_map, List.getElem?_eq_getElem hu]; rfl), List.getElem_mem _⟩
    have hix : ixN (ns.map Y.D.int).length u = some u.toNat := by unfold ixN; rw [List.length_map, if_pos h0, if_pos (by omega)]
    refine ro_ix1 rfl hc ?_
    repeat walk_at "y"
    refine ⟨_, .cons (.raw _) (.cons (.d _) .nil), q, _, rfl, rfl, by decide, by decide, fun v v0 v1 => ?_⟩
    repeat walk_at "y"
    refine ⟨_, _, rfl, hix, ?_⟩
    rw [← List.map_set]
    have hms : ∀ k ∈ ns.set u.toNat ((c + 1 + v) % 26), 0 ≤ k ∧ k < 26 := fun k hk => by
      rcases List.mem_or_eq_of_mem_set hk with h | h
      · exact hns k h
      · subst h; omega
    have hml : (ns.set u.toNat ((c + 1 + v) % 26)).length = ns.length := List.length_set
    generalize ns.set u.toNat ((c + 1 + v) % 26) = ms at hms hml ⊢
    have chr : ∀ k : Int, 0 ≤ k → k < 26 → ∃ s : Nat, atI ("abcdefghijklmnopqrstuvwxyz" : Str).cps.toList k = some s := fun k k0 k1 => by
      have : k.toNat < ("abcdefghijklmnopqrstuvwxyz" : Str).cps.toList.length := by
        have : ("abcdefghijklmnopqrstuvwxyz" : Str).cps.toList.length = 26 := by decide +kernel
        omega
      exact ⟨_, at_nat (j := k.toNat) (by omega) (List.getElem?_eq_getElem this)⟩
    rw [List.length_map] at hl
    refine ws_frz (i := 1) rfl ?_
    refine ws_frz (i := 3) rfl ?_
    dsimp only [List.set, Mo.dat]
    repeat walk_at "y"
    refine we_lcP isSign ?_
    refine wi_list ?_
    repeat walk_at "y"
    refine ⟨by rw [List.length_map]; show _ ≤ 16777216; omega, fun i x hx => ⟨_, by intro j hj; exact hj, wg_name ?_⟩, fun acc hl2 ha2 => ?_⟩
    · rw [List.getElem?_map] at hx
      cases hxi : ns[i]? with
      | none => rw [hxi] at hx; cases hx
      | some k =>
        rw [hxi] at hx
        cases hx
        obtain ⟨k0, k1⟩ := hns k (List.mem_of_getElem? hxi)
        obtain ⟨s, hs⟩ := chr k k0 k1
        dsimp only [List.map, wipeS, List.set]
        repeat walk_at "y"
        refine ro_ix3 (by decide +kernel) hs ?_
        exact ⟨_, rfl, _, rfl, rfl⟩
    · rw [List.length_map] at hl2
      refine rmA_joinS rfl ha2 (by omega) fun wa hwa => ?_
      repeat walk_at "y"
      refine we_lcP isSign ?_
      refine wi_list ?_
      repeat walk_at "y"
      refine ⟨by rw [List.length_map]; show _ ≤ 16777216; omega, fun i x hx => ⟨_, by intro j hj; exact hj, wg_name ?_⟩, fun acc hl3 ha3 => ?_⟩
      · rw [List.getElem?_map] at hx
        cases hxi : ms[i]? with
        | none => rw [hxi] at hx; cases hx
        | some k =>
          rw [hxi] at hx
          cases hx
          obtain ⟨k0, k1⟩ := hms k (List.mem_of_getElem? hxi)
          obtain ⟨s, hs⟩ := chr k k0 k1
          dsimp only [List.map, wipeS, List.set]
          repeat walk_at "y"
          refine ro_ix3 (by decide +kernel) hs ?_
          exact ⟨_, rfl, _, rfl, rfl⟩
      · rw [List.length_map] at hl3
        refine rmA_joinS rfl ha3 (by omega) fun wb hwb => ?_
        repeat walk_at "y"
        exact post wa wb (by omega) (by omega)
theorem cal__law_told_style (D : Dn K mg "_law_told_style" s__law_told_style ["pool"]) (hB : Blt mg) (c__law_names : C8.Cal P w K mg base 4 "_law_names" (FSp K spNames) []) (c__law_triple : C8.Cal P w K mg base 4 "_law_triple" (FSp K spTriple) []) : C8.Cal P w K mg base 5 "_law_told_style" (FSp K spTold) [] := by
  have sc := sc__law_told_style
  refine D.cal sc (fun p rs Φ h => ?_) fun f cdv A outer st H E hr p rs Φ h => ?_
  · obtain ⟨q, _, e, _⟩ := h; rw [e]; rfl
  refine ⟨_, (pss_cons (ps_set (i := 1) sc.nd rfl (by first | exact Or.inl rfl | exact Or.inr rfl) (C8.pe_c c__law_names hr (by first | decide | omega) rfl (pa_cons (pv 0) pa_nil)))
      (pss_cons (ps_if (pt_val (C8.pe_c c__law_rare hr (by first | decide | omega) rfl (pa_cons (pv 0) (pa_cons pe_int pa_nil)))) (pss_one (ps_set (i := 1) sc.nd rfl (by first | exact Or.inl rfl | exact Or.inr rfl) (pe_lst (pa_cons (pe_ix ix_seq (pv 1) pe_int (fun _ _ => rfl)) (pa_cons (pe_ix ix_seq (pv 1) pe_int (fun _ _ => rfl)) pa_nil))))) pss_nil)
      (pss_cons (ps_set (i := 2) sc.nd rfl (by first | exact Or.inl rfl | exact Or.inr rfl) (C8.pe_c c__law_pick hr (by first | decide | omega) rfl (pa_cons (pv 0) (pa_cons (pe_lst (pa_cons pe_str (pa_cons pe_str (pa_cons pe_str (pa_cons pe_str (pa_cons pe_str (pa_cons pe_str (pa_cons pe_str (pa_cons pe_str (pa_cons pe_str pa_nil)))))))))) pa_nil))))
      (pss_cons (ps_set (i := 3) sc.nd rfl (by first | exact Or.inl rfl | exact Or.inr rfl) (pe_op op_plus pe_int (C8.pe_c c__law_few hr (by first | decide | omega) rfl (pa_cons (pv 0) (pa_cons pe_int (pa_cons pe_int pa_nil))))))
      (pss_cons (ps_set (i := 4) sc.nd rfl (by first | exact Or.inl rfl | exact Or.inr rfl) (pe_tup (pa_cons (pv 2) (pa_cons (pe_ix ix_seq (pv 1) pe_int (fun _ _ => rfl)) (pa_cons (pe_ix ix_seq (pv 1) pe_int (fun _ _ => rfl)) (pa_cons (C8.pe_c c__law_draw hr (by first | decide | omega) rfl (pa_cons (pv 0) (pa_cons pe_int pa_nil))) (pa_cons (pv 3) (pa_cons (C8.pe_c c__law_draw hr (by first | decide | omega) rfl (pa_cons (pv 0) (pa_cons (pe_callB (call_minA (by rfl)) (by rfl) hB.min (by decide +kernel) (pa_cons (pv 3) (pa_cons pe_int pa_nil))) pa_nil))) pa_nil))))))))
      (pss_cons (ps_set (i := 4) sc.nd rfl (by first | exact Or.inl rfl | exact Or.inr rfl) (pe_op op_plus (pv 4) (pe_tup (pa_cons (C8.pe_c c__law_pick hr (by first | decide | omega) rfl (pa_cons (pv 0) (pa_cons (pe_lst (pa_cons pe_str (pa_cons pe_str (pa_cons pe_str (pa_cons pe_str pa_nil))))) pa_nil))) pa_nil))))
      (pss_one (ps_ret (pe_op op_plus (pv 4) (pe_tup (pa_cons (C8.pe_c c__law_triple hr (by first | decide | omega) rfl (pa_cons (pv 0) pa_nil)) (pa_cons (C8.pe_c c__law_triple hr (by first | decide | omega) rfl (pa_cons (pv 0) pa_nil)) pa_nil)))))))))))), ?_⟩
  try dsimp only [L2.cxOf]
  obtain ⟨q, rfl, rfl, post⟩ := h
  show WS (g0 K (some q)) _ [.raw (.ref q), .any, .any, .any, .any] _
  repeat walk_at "y"
  refine ⟨_, .cons (.raw _) .nil, q, rfl, rfl, fun a b ha hb => ?_⟩
  refine ⟨_, rfl, ?_⟩
  refine ws_cut (fun sv => ∃ a b : Str, 0 < a.length ∧ 0 < b.length ∧ sv = [.raw (.ref q), .own [.str a, .str b], .any, .any, .any]) ?_ fun sv e => ?_
  · repeat walk_at "y"
    refine ⟨_, .cons (.raw _) (.cons (.d _) .nil), q, _, rfl, rfl, by decide, by decide, fun t => ⟨t, rfl, ?_⟩⟩
    cases t
    · repeat walk_at "y"
      exact ⟨a, b, ha, hb, rfl⟩
    · repeat walk_at "y"
      exact ⟨a, a, ha, ha, rfl⟩
  obtain ⟨a, b, ha, hb, rfl⟩ := e
  repeat walk_at "y"
  refine ⟨_, .cons (.raw _) (.cons (.nl _) .nil), q, rfl, .inl ⟨_, rfl, by simp, by decide, fun na hna => ?_⟩⟩
  repeat walk_at "y"
  refine ⟨_, .cons (.raw _) (.cons (.d _) (.cons (.d _) .nil)), q, _, _, rfl, rfl, by decide, by decide, by decide, by decide, fun r r0 hr1 => ?_⟩
  have r1 : r ≤ 9000 := by omega
  repeat walk_at "y"
  refine ⟨_, .cons (.raw _) (.cons (.d _) .nil), q, _, rfl, rfl, by decide, by decide, fun u h0 h1 => ?_⟩
  repeat walk_at "y"
  refine ⟨_, .cons (.raw _) (.cons (.d _) .nil), q, _, rfl, rfl, ?_, ?_, fun u2 h0 h1 => ?_⟩
  · split <;> omega
  · split <;> omega
  repeat walk_at "y"
  refine ⟨_, .cons (.raw _) (.cons (.nl _) .nil), q, rfl, .inl ⟨_, rfl, by simp, by decide, fun na2 hna2 => ?_⟩⟩
  repeat walk_at "y"
  refine ro_plusT (by simp) (by simp only [List.length_cons, List.length_nil]; decide) ?_
  repeat walk_at "y"
  refine ⟨_, .cons (.raw _) .nil, q, rfl, rfl, fun x => ?_⟩
  repeat walk_at "y"
  refine ⟨_, .cons (.raw _) .nil, q, rfl, rfl, fun y => ?_⟩
  repeat walk_at "y"
  refine ro_plusT (by simp) (by simp only [List.length_cons, List.length_nil, List.length_append]; decide) ?_
  repeat walk_at "y"
  exact post _ _ _ _ _ a b x y ha hb
end
end Y

set_option maxHeartbeats 4000000
namespace Y
open PySem L2 PySem.Spec PyProof.Rows
local macro_rules | `(tactic| walk_at "y1") => `(tactic| first
  | with_reducible refine ws_asg ?_
  | with_reducible refine ws_next ?_
  | with_reducible refine ws_brk ?_
  | with_reducible refine ws_cont ?_
  | with_reducible refine ws_if ?_
  | ((with_reducible refine' ws_setL ?e ?_); (case e => rfl))
  | ((with_reducible refine' ws_app ?e ?_); (case e => rfl))
  | ((with_reducible refine' ws_ext ?e ?_); (case e => rfl))
  | with_reducible refine ws_asgG ?_
  | ((with_reducible refine' ws_retOwn ?e ?_); (case e => rfl))
  | with_reducible refine ws_ret ?_
  | with_reducible refine ws_retN ?_
  | with_reducible refine ws_drop ?_)
local macro_rules | `(tactic| walk_at "y2") => `(tactic| first
  | ((with_reducible refine' we_d ?e ?_); (case e => rfl))
  | ((with_reducible refine' we_raw ?e ?_); (case e => rfl))
  | ((with_reducible refine' we_ro ?e ?_); (case e => rfl))
  | ((with_reducible refine' we_m ?e ?_); (case e => rfl))
  | with_reducible refine we_cint ?_
  | with_reducible refine we_cstr ?_
  | with_reducible refine we_cbl ?_
  | with_reducible refine we_cnon ?_
  | with_reducible refine we_op ?_
  | with_reducible refine we_un ?_
  | with_reducible refine we_cb ?_
  | with_reducible refine we_tup ?_
  | with_reducible refine we_lst ?_
  | with_reducible refine wa_nil ?_
  | with_reducible refine wa_cons ?_
  | with_reducible refine we_bm0 ?_
  | with_reducible refine we_bm ?_
  | with_reducible refine we_m0 ?_
  | with_reducible refine we_m1 ?_
  | with_reducible refine we_sl ?_
  | with_reducible refine wo_none ?_
  | with_reducible refine wo_some ?_
  | with_reducible refine we_fld ?_
  | with_reducible refine we_call ?_
  | with_reducible refine we_mk ?_
  | with_reducible refine we_mkS ?_
  | with_reducible refine wt_test ?_
  | with_reducible refine wt_val ?_
  | with_reducible refine wt_and ?_
  | with_reducible refine wt_or ?_
  | with_reducible refine wt_not ?_
  | with_reducible refine wt_yes ?_
  | with_reducible refine wt_truth ?_
  | with_reducible refine we_andV ?_
  | with_reducible refine we_orV ?_
  | with_reducible refine we_notV ?_
  | with_reducible refine we_if ?_
  | with_reducible refine we_craw ?_)
local macro_rules | `(tactic| walk_at "y3") => `(tactic| first
  | with_reducible refine ro_plusI ?_
  | with_reducible refine ro_eqI ?_
  | with_reducible refine ro_eqS ?_
  | with_reducible refine ro_neI ?_
  | with_reducible refine ro_neS ?_
  | ((with_reducible refine' ro_I0 ?e ?_); (case e => rfl))
  | ((with_reducible refine' ro_I ?c ?e ?_); (case e => rfl); (case c => first | decide | omega | exact Or.inr (by decide) | exact Or.inl (by decide) | exact ⟨by decide, by decide +kernel⟩ | exact ⟨by decide, by decide, by decide⟩ | exact Or.inl ⟨by omega, by omega⟩ | exact Or.inr ⟨by omega, by omega⟩ | assumption))
  | ((with_reducible refine' ro_ix1 ?a ?b ?_); (case a => rfl); (case b => first | exact at0 | rfl))
  | ((with_reducible refine' ro_ix2 ?b ?_); (case b => first | exact at0 | rfl))
  | with_reducible refine ro_isN ?_
  | with_reducible refine ro_isA ?_
  | ((with_reducible refine' rc_len1 ?a ?_); (case a => first | exact Or.inl rfl | exact Or.inr rfl))
  | ((with_reducible refine' rc_isi ?a ?b ?_); (case a => rfl); (case b => first | exact kit_NoneType_int | exact kit_NoneType_bool | exact kit_NoneType_str | exact kit_NoneType_tuple | exact kit_NoneType_list | exact kit_bool_int | exact kit_bool_bool | exact kit_bool_str | exact kit_bool_tuple | exact kit_bool_list | exact kit_int_int | exact kit_int_bool | exact kit_int_str | exact kit_int_tuple | exact kit_int_list | exact kit_str_int | exact kit_str_bool | exact kit_str_str | exact kit_str_tuple | exact kit_str_list | exact kit_tuple_int | exact kit_tuple_bool | exact kit_tuple_str | exact kit_tuple_tuple | exact kit_tuple_list | exact kit_list_int | exact kit_list_bool | exact kit_list_str | exact kit_list_tuple | exact kit_list_list))
  | with_reducible refine rcA_abs ?_
  | with_reducible refine rcA_max ?_
  | with_reducible refine rcA_min ?_
  | with_reducible refine rcA_intI ?_
  | with_reducible refine rcA_intB ?_
  | ((with_reducible refine' rcA_list ?a ?_); (case a => first | exact Or.inl rfl | exact Or.inr rfl))
  | ((with_reducible refine' rcA_tuple ?a ?_); (case a => first | exact Or.inl rfl | exact Or.inr rfl)))
local macro_rules | `(tactic| walk_at "y4") => `(tactic| first
  | ((with_reducible refine' ite_t ?e ?_); (case e => rfl))
  | ((with_reducible refine' ite_f ?e ?_); (case e => rfl))
  | refine ⟨_, rfl, (show _ ≤ sizeLine by simp only [List.length_cons, List.length_nil]; decide), ?_⟩
  | refine ⟨_, rfl, ?_⟩
  | refine ⟨rfl, ?_⟩
  | refine ⟨_, _, rfl, rfl, ?_⟩)
local macro_rules | `(tactic| walk_at "z") => `(tactic| ((first | walk_at "y1" | walk_at "y2" | walk_at "y3" | walk_at "y4"); try dsimp only [List.set, Int.reduceToNat]))
local macro_rules | `(tactic| walk_at "y") => `(tactic| first | walk_at "z" | (with_reducible refine ws_seq ?_))
local macro_rules | `(tactic| walk_at "s") => `(tactic| ((with_reducible refine ws_seq ?_); repeat walk_at "z"))

abbrev s__law_formula : Stmt := top 23
abbrev N__law_formula : List Str := ["pool", "items", "k", "one", "two"]
theorem sc__law_formula : FnScope N__law_formula ["pool"] (C8.fnScope s__law_formula) := C8.fnScope_by (by decide +kernel)
abbrev s__law_inner : Stmt := top 24
abbrev N__law_inner : List Str := ["pool", "word", "rows"]
theorem sc__law_inner : FnScope N__law_inner ["pool"] (C8.fnScope s__law_inner) := C8.fnScope_by (by decide +kernel)
def spDatum (n : Nat) : DSp := fun p rs Φ => ∃ q : Addr, p = some q ∧ rs = [.raw (.ref q)] ∧ ∀ d : D, okD n d → Φ (.d d)
theorem okD_str (n : Nat) (s : Str) : okD n (.str s) := by cases n <;> trivial
theorem okD_non (n : Nat) : okD n .non := by cases n <;> trivial
theorem okD_tup {n : Nat} {ds : List D} (l : ds.length ≤ 1000000) (h : ∀ x ∈ ds, okD n x) : okD (n + 1) (.tup ds) := ⟨l, h⟩
theorem okD_up : ∀ (n : Nat) (d : D), okD n d → okD (n + 1) d
  | n, .non, _ => trivial
  | n, .bl _, _ => trivial
  | n, .int _, _ => trivial
  | n, .str _, _ => trivial
  | n + 1, .tup ds, h => ⟨h.1, fun x hx => okD_up n x (h.2 x hx)⟩
  | n + 1, .lst ds, h => ⟨h.1, fun x hx => okD_up n x (h.2 x hx)⟩
  | 0, .tup _, h => h.elim
  | 0, .lst _, h => h.elim
  | 0, .obj _ _ _, h => h.elim
  | n + 1, .obj _ _ _, h => h.elim
  | 0, .dct _ _, h => h.elim
  | n + 1, .dct _ _, h => h.elim
  | 0, .dtt _ _, h => h.elim
  | n + 1, .dtt _ _, h => h.elim
theorem okD_le {n m : Nat} (h : n ≤ m) {d : D} (k : okD n d) : okD m d := by
  induction h with
  | refl => exact k
  | step _ ih => exact okD_up _ _ ih
theorem okD_1 {n : Nat} {a : D} (ha : okD n a) : okD (n + 1) (.tup [a]) := okD_tup (by simp only [List.length_cons, List.length_nil]; decide) fun x hx => by
  cases List.mem_singleton.mp hx; exact ha
theorem okD_2 {n : Nat} {a b : D} (ha : okD n a) (hb : okD n b) : okD (n + 1) (.tup [a, b]) := okD_tup (by simp only [List.length_cons, List.length_nil]; decide) fun x hx => by
  rcases List.mem_cons.mp hx with rfl | hx
  · exact ha
  · cases List.mem_singleton.mp hx; exact hb
theorem okD_3 {n : Nat} {a b c : D} (ha : okD n a) (hb : okD n b) (hc : okD n c) : okD (n + 1) (.tup [a, b, c]) := okD_tup (by simp only [List.length_cons, List.length_nil]; decide) fun x hx => by
  rcases List.mem_cons.mp hx with rfl | hx
  · exact ha
  rcases List.mem_cons.mp hx with rfl | hx
  · exact hb
  · cases List.mem_singleton.mp hx; exact hc
theorem okD_4 {n : Nat} {a b c e : D} (ha : okD n a) (hb : okD n b) (hc : okD n c) (he : okD n e) : okD (n + 1) (.tup [a, b, c, e]) := okD_tup (by simp only [List.length_cons, List.length_nil]; decide) fun x hx => by
  rcases List.mem_cons.mp hx with rfl | hx
  · exact ha
  rcases List.mem_cons.mp hx with rfl | hx
  · exact hb
  rcases List.mem_cons.mp hx with rfl | hx
  · exact hc
  · cases List.mem_singleton.mp hx; exact he
theorem okD_0 (n : Nat) : okD (n + 1) (.tup []) := okD_tup (by simp) fun x hx => nomatch hx
section
variable {P : Program} {w : World} {K : PySem.W.Frag} {mg : Str → Option Value} {base : Heap}
variable (c__law_draw : C8.Cal P w K mg base 1 "_law_draw" (FSp K spDraw) []) (c__law_pick : C8.Cal P w K mg base 2 "_law_pick" (FSp K spPick) []) (c__law_word : C8.Cal P w K mg base 4 "_law_word" (FSp K spWord) [])
include c__law_draw c__law_pick c__law_word
theorem cal__law_inner (D : Dn K mg "_law_inner" s__law_inner ["pool"]) (hB : Blt mg) : C8.Cal P w K mg base 5 "_law_inner" (FSp K (spDatum 5)) [] := by
  have sc := sc__law_inner
  refine D.cal sc (fun p rs Φ h => ?_) fun f cdv A outer st H E hr p rs Φ h => ?_
  · obtain ⟨q, _, e, _⟩ := h; rw [e]; rfl
  refine ⟨_, (pss_cons (ps_set (i := 1) sc.nd rfl (by first | exact Or.inl rfl | exact Or.inr rfl) (pe_tup (pa_cons pe_str (pa_cons (C8.pe_c c__law_word hr (by first | decide | omega) rfl (pa_cons (pv 0) pa_nil)) pa_nil))))
      (pss_cons (ps_set (i := 2) sc.nd rfl (by first | exact Or.inl rfl | exact Or.inr rfl) (pe_lst (pa_cons (pe_tup (pa_cons (pv 1) pa_nil)) (pa_cons (pe_tup (pa_cons (pv 1) (pa_cons (pe_tup (pa_cons pe_str pa_nil)) (pa_cons (pe_tup (pa_cons pe_str (pa_cons (pe_tup (pa_cons (pv 1) pa_nil)) pa_nil))) (pa_cons (pe_tup (pa_cons pe_str (pa_cons pe_str pa_nil))) pa_nil))))) (pa_cons (pe_tup (pa_cons (pv 1) (pa_cons (pe_tup (pa_cons pe_str pa_nil)) (pa_cons (pv 1) pa_nil)))) pa_nil)))))
      (pss_one (ps_ret (C8.pe_c c__law_pick hr (by first | decide | omega) rfl (pa_cons (pv 0) (pa_cons (pv 2) pa_nil))))))), ?_⟩
  try dsimp only [L2.cxOf]
  obtain ⟨q, rfl, rfl, post⟩ := h
  show WS (g0 K (some q)) _ [.raw (.ref q), .any, .any] _
  repeat walk_at "y"
  refine ⟨_, .cons (.raw _) .nil, q, rfl, rfl, fun z z0 z1 => ?_⟩
  repeat walk_at "y"
  refine ⟨_, .cons (.raw _) (.cons (.ol _) .nil), q, rfl, .inl ⟨_, rfl, by simp, by simp only [List.length_cons, List.length_nil]; decide, fun d hd => ?_⟩⟩
  refine ⟨rfl, post d ?_⟩
  have w1 : okD 1 (.tup [.str "word", .str z]) := okD_2 (okD_str _ _) (okD_str _ _)
  rcases List.mem_cons.mp hd with rfl | hd
  · exact okD_le (by decide) (okD_1 w1)
  rcases List.mem_cons.mp hd with rfl | hd
  · exact okD_le (n := 4) (by decide) (okD_4 (okD_le (by decide) w1) (okD_le (n := 1) (by decide) (okD_1 (okD_str 0 _))) (okD_2 (okD_str _ _) (okD_1 w1)) (okD_le (n := 1) (by decide) (okD_2 (okD_str 0 _) (okD_str 0 _))))
  · cases List.mem_singleton.mp hd
    exact okD_le (n := 2) (by decide) (okD_3 w1 (okD_1 (okD_str _ _)) w1)
theorem cal__law_formula (D : Dn K mg "_law_formula" s__law_formula ["pool"]) (hB : Blt mg) : C8.Cal P w K mg base 5 "_law_formula" (FSp K (spDatum 7)) [] := by
  have sc := sc__law_formula
  refine D.cal sc (fun p rs Φ h => ?_) fun f cdv A outer st H E hr p rs Φ h => ?_
  · obtain ⟨q, _, e, _⟩ := h; rw [e]; rfl
  refine ⟨_, (pss_cons (ps_set (i := 1) sc.nd rfl (by first | exact Or.inl rfl | exact Or.inr rfl) (pe_lst pa_nil))
      (pss_cons (ps_for PassesOwn.never rfl (pi_range1 rfl hB.range (pa_cons (C8.pe_c c__law_draw hr (by first | decide | omega) rfl (pa_cons (pv 0) (pa_cons pe_int pa_nil))) pa_nil)) (pg_name (i := 2) sc.nd rfl (by first | exact Or.inl rfl | exact Or.inr rfl)) (pss_cons (ps_set (i := 3) sc.nd rfl (by first | exact Or.inl rfl | exact Or.inr rfl) (pe_tup (pa_cons pe_str (pa_cons (pe_ix ix_seq (C8.pe_c c__law_word hr (by first | decide | omega) rfl (pa_cons (pv 0) pa_nil)) pe_int (fun _ _ => rfl)) pa_nil))))
      (pss_cons (ps_set (i := 4) sc.nd rfl (by first | exact Or.inl rfl | exact Or.inr rfl) (pe_tup (pa_cons pe_str (pa_cons (pe_tup (pa_cons (pe_tup (pa_cons pe_str (pa_cons (pe_ix ix_seq (C8.pe_c c__law_word hr (by first | decide | omega) rfl (pa_cons (pv 0) pa_nil)) pe_int (fun _ _ => rfl)) pa_nil))) pa_nil)) pa_nil))))
      (pss_one (ps_expr (pe_bm PySem.F.plainAttrs_list PySem.F.slot_list_append PySem.F.type_list_append mt_append (pv 1) (pa_cons (C8.pe_c c__law_pick hr (by first | decide | omega) rfl (pa_cons (pv 0) (pa_cons (pe_lst (pa_cons (pv 3) (pa_cons (pv 3) (pa_cons (pv 3) (pa_cons (pv 4) (pa_cons (pe_tup (pa_cons pe_str (pa_cons (pv 3) (pa_cons (pv 4) (pa_cons pe_non pa_nil))))) (pa_cons (pe_tup (pa_cons pe_str (pa_cons (pv 4) (pa_cons (pe_tup (pa_cons pe_str (pa_cons (pe_tup pa_nil) pa_nil))) pa_nil)))) pa_nil))))))) pa_nil))) pa_nil)))))))
      (pss_one (ps_ret (pe_tup (pa_cons pe_str (pa_cons (pe_callTy call_tupleA (by rfl) hB.tuple (by decide +kernel) (pa_cons (pv 1) pa_nil)) pa_nil))))))), ?_⟩
  try dsimp only [L2.cxOf]
  obtain ⟨q, rfl, rfl, post⟩ := h
  show WS (g0 K (some q)) _ [.raw (.ref q), .any, .any, .any, .any] _
  repeat walk_at "y"
  refine ws_for ?_
  refine wi_range1 ?_
  repeat walk_at "y"
  refine ⟨_, .cons (.raw _) (.cons (.d _) .nil), q, _, rfl, rfl, by decide, by decide, fun r h0 h1 => ?_⟩
  repeat walk_at "y"
  refine ⟨by omega, by omega, fun i sv => ∃ ds a b c, sv = [.raw (.ref q), .own ds, a, b, c] ∧ ds.length = i ∧ ∀ d ∈ ds, okD 5 d, ⟨[], _, _, _, rfl, rfl, fun _ h => nomatch h⟩, fun i x sv' hx hI => ?_, fun sv' hI => ?_⟩
  · obtain ⟨ds, a, b, c, rfl, hl, hok⟩ := hI
    obtain ⟨rfl, hi⟩ := rangeD_get hx
    refine ⟨_, wg_name ?_⟩
    dsimp only [List.set]
    have first : ∀ z : Str, 0 < z.length → ∃ s : Nat, atI z.cps.toList 0 = some s := fun z hz => by
      have : 0 < z.cps.toList.length := by simpa [Str.length] using hz
      exact ⟨_, at_nat (j := 0) rfl (List.getElem?_eq_getElem this)⟩
    repeat walk_at "y"
    refine ⟨_, .cons (.raw _) .nil, q, rfl, rfl, fun z z0 z1 => ?_⟩
    repeat walk_at "y"
    obtain ⟨s, hs⟩ := first z z0
    refine ro_ix3 (by show _ ≤ 16777216; omega) hs ?_
    repeat walk_at "y"
    refine ⟨_, .cons (.raw _) .nil, q, rfl, rfl, fun z2 z20 z21 => ?_⟩
    repeat walk_at "y"
    obtain ⟨s2, hs2⟩ := first z2 z20
    refine ro_ix3 (by show _ ≤ 16777216; omega) hs2 ?_
    repeat walk_at "y"
    refine ⟨_, .cons (.raw _) (.cons (.nl _) .nil), q, rfl, .inl ⟨_, rfl, by simp, by simp only [List.length_cons, List.length_nil]; decide, fun d hd => ?_⟩⟩
    repeat walk_at "y"
    refine ⟨by show _ < 16777216; omega, _, _, _, _, rfl, ?_, ?_⟩
    · rw [List.length_append]; simp [hl]
    · intro e he
      rcases List.mem_append.mp he with he | he
      · exact hok e he
      · cases List.mem_singleton.mp he
        have o1 : okD 1 (.tup [.str "sign", .str ⟨#[s]⟩]) := okD_2 (okD_str _ _) (okD_str _ _)
        have o2 : okD 3 (.tup [.str "row", .tup [.tup [.str "sign", .str ⟨#[s2]⟩]]]) := okD_2 (okD_str _ _) (okD_1 (okD_2 (okD_str _ _) (okD_str _ _)))
        rcases List.mem_cons.mp hd with rfl | hd
        · exact okD_le (by decide) o1
        rcases List.mem_cons.mp hd with rfl | hd
        · exact okD_le (by decide) o1
        rcases List.mem_cons.mp hd with rfl | hd
        · exact okD_le (by decide) o1
        rcases List.mem_cons.mp hd with rfl | hd
        · exact okD_le (by decide) o2
        rcases List.mem_cons.mp hd with rfl | hd
        · exact okD_le (n := 4) (by decide) (okD_4 (okD_str _ _) (okD_le (by decide) o1) o2 (okD_non _))
        · cases List.mem_singleton.mp hd
          exact okD_le (n := 4) (by decide) (okD_3 (okD_str _ _) o2 (okD_le (n := 2) (by decide) (okD_2 (okD_str _ _) (okD_0 _))))
  · obtain ⟨ds, a, b, c, rfl, hl, hok⟩ := hI
    rw [rangeD_len] at hl
    repeat walk_at "y"
    exact post _ (okD_2 (okD_str _ _) (okD_tup (by omega) hok))
end
end Y

namespace Y
open PySem L2
/-! ### the law's own steps -/
inductive St where
  | leaf (x : In) | opn | shut
def encSt : St → D
  | .leaf x => encI x | .opn => .tup [.str "open"] | .shut => .tup [.str "shut"]
/-- a step that is no strong, its datum small -/
def okIn : In → Prop
  | .word w => 0 < w.length ∧ w.length ≤ 12
  | .mark w => 0 < w.length ∧ w.length ≤ 12
  | .formula d => okD 7 d
  | .note _ d => okD 7 d
  | .strong _ => False
  | _ => True
def okSt : St → Prop
  | .leaf x => okIn x | _ => True
/-- the depth behind the steps -/
def runS : Nat → List St → Option Nat
  | d, [] => some d
  | d, .leaf _ :: r => runS d r
  | d, .opn :: r => if d < 9 then runS (d + 1) r else none
  | 0, .shut :: _ => none
  | d + 1, .shut :: r => runS d r
theorem runS_append : ∀ (a b : List St) (d : Nat), runS d (a ++ b) = (runS d a).bind fun e => runS e b
  | [], b, d => by simp [runS]
  | .leaf x :: a, b, d => by rw [List.cons_append, runS, runS, runS_append a b d]
  | .opn :: a, b, d => by
    rw [List.cons_append, runS, runS]
    split
    · exact runS_append a b _
    · rfl
  | .shut :: a, b, 0 => by rw [List.cons_append, runS, runS]; rfl
  | .shut :: a, b, d + 1 => by rw [List.cons_append, runS, runS, runS_append a b d]
theorem runS_shuts : ∀ d : Nat, runS d (List.replicate d .shut) = some 0
  | 0 => rfl
  | d + 1 => by rw [List.replicate_succ, runS]; exact runS_shuts d
structure Steps (ss : List St) : Prop where
  len : ss.length ≤ 100
  ok : ∀ s ∈ ss, okSt s
  run : runS 0 ss = some 0
def notNote : St → Bool
  | .leaf (.note _ _) => false | _ => true
theorem runS_filter : ∀ (ss : List St) (d : Nat), runS d (ss.filter notNote) = runS d ss
  | [], d => rfl
  | .leaf x :: ss, d => by
    rw [List.filter_cons]
    split
    · rw [runS, runS, runS_filter ss]
    · rw [runS, runS_filter ss]
  | .opn :: ss, d => by
    rw [List.filter_cons, if_pos (show notNote .opn = true from rfl), runS, runS]
    split
    · exact runS_filter ss _
    · rfl
  | .shut :: ss, 0 => by rw [List.filter_cons, if_pos (show notNote .shut = true from rfl), runS, runS]
  | .shut :: ss, d + 1 => by rw [List.filter_cons, if_pos (show notNote .shut = true from rfl), runS, runS, runS_filter ss]
theorem Steps.filter {ss : List St} (h : Steps ss) : Steps (ss.filter notNote) :=
  ⟨Nat.le_trans (List.length_filter_le _ _) h.len, fun s hs => h.ok s (List.mem_filter.mp hs).1, by rw [runS_filter]; exact h.run⟩
/-! the rows of the nesting, the outermost first -/
def upd1 (x : In) : List (List In) → List (List In)
  | [] => []
  | [r] => [r ++ [x]]
  | r :: rs => r :: upd1 x rs
def nestS (rows : List (List In)) : St → List (List In)
  | .leaf x => upd1 x rows
  | .opn => rows ++ [[]]
  | .shut => upd1 (.strong (rows.getLast?.getD [])) rows.dropLast
def nested (ss : List St) : List In := (ss.foldl nestS [[]]).headD []
/-- each leaf with its font -/
def emit (f g : Str) : Nat → List St → List (In × Str)
  | _, [] => []
  | d, .leaf x :: r => (x, if d = 0 then f else g) :: emit f g d r
  | d, .opn :: r => emit f g (d + 1) r
  | d, .shut :: r => emit f g (d - 1) r
def flat (f g : Str) : List (List In) → List (In × Str)
  | [] => []
  | r :: rs => inFs f g r ++ (rs.map fun r => inFs g g r).flatten
theorem upd1_concat (x : In) (l : List In) : ∀ rows : List (List In), upd1 x (rows ++ [l]) = rows ++ [l ++ [x]]
  | [] => rfl
  | [r] => rfl
  | r :: s :: rs => by
    have := upd1_concat x l (s :: rs)
    rw [List.cons_append, List.cons_append, upd1, ← List.cons_append, this]
    · rfl
    · simp
theorem flat_concat (f g : Str) (rows : List (List In)) (l : List In) : flat f g (rows ++ [l]) = flat f g rows ++ inFs (if rows = [] then f else g) g l := by
  cases rows with
  | nil => simp [flat]
  | cons r rs => simp [flat]
mutual
def okX : In → Prop
  | .strong xs => xs.length ≤ 200 ∧ okXs xs
  | .word w => 0 < w.length ∧ w.length ≤ 12
  | .mark w => 0 < w.length ∧ w.length ≤ 12
  | .formula d => okD 7 d
  | .note _ d => okD 7 d
  | .gap => True | .tie => True | .hyph => True | .cut => True
def okXs : List In → Prop
  | [] => True
  | x :: xs => okX x ∧ okXs xs
end
theorem okXs_append : ∀ (a b : List In), okXs (a ++ b) ↔ okXs a ∧ okXs b
  | [], b => by simp [okXs]
  | x :: a, b => by rw [List.cons_append, okXs, okXs, okXs_append a b, and_assoc]
theorem deps_append : ∀ (a b : List In), deps (a ++ b) = max (deps a) (deps b)
  | [], b => by simp [deps]
  | x :: a, b => by rw [List.cons_append, deps, deps, deps_append a b, Nat.max_assoc]
theorem okIn_X : ∀ {x : In}, okIn x → okX x ∧ dep x = 0
  | .word _, h => ⟨by rw [okX]; exact h, by rw [dep]⟩
  | .mark _, h => ⟨by rw [okX]; exact h, by rw [dep]⟩
  | .formula _, h => ⟨by rw [okX]; exact h, by rw [dep]⟩
  | .note _ _, h => ⟨by rw [okX]; exact h, by rw [dep]⟩
  | .strong _, h => h.elim
  | .gap, h => ⟨by rw [okX]; trivial, by rw [dep]⟩
  | .tie, h => ⟨by rw [okX]; trivial, by rw [dep]⟩
  | .hyph, h => ⟨by rw [okX]; trivial, by rw [dep]⟩
  | .cut, h => ⟨by rw [okX]; trivial, by rw [dep]⟩
mutual
theorem okX_D : ∀ (x : In), okX x → okD (8 + 2 * dep x) (encI x)
  | .strong xs, h => by
    rw [okX] at h
    rw [dep, encI, show 8 + 2 * (deps xs + 1) = (8 + 2 * deps xs + 1) + 1 by omega]
    exact okD_2 (okD_str _ _) (okD_tup (by rw [encIs_map, List.length_map]; omega) (okXs_D xs h.2))
  | .word w, h => by rw [encI, dep]; exact okD_le (n := 1) (by decide) (okD_2 (okD_str _ _) (okD_str _ _))
  | .mark w, h => by rw [encI, dep]; exact okD_le (n := 1) (by decide) (okD_2 (okD_str _ _) (okD_str _ _))
  | .formula d, h => by rw [okX] at h; rw [encI, dep]; exact okD_2 (okD_str _ _) h
  | .note n d, h => by rw [okX] at h; rw [encI, dep]; exact okD_3 (okD_str _ _) (by trivial) h
  | .gap, h => by rw [encI, dep]; exact okD_le (n := 1) (by decide) (okD_1 (okD_str _ _))
  | .tie, h => by rw [encI, dep]; exact okD_le (n := 1) (by decide) (okD_1 (okD_str _ _))
  | .hyph, h => by rw [encI, dep]; exact okD_le (n := 1) (by decide) (okD_1 (okD_str _ _))
  | .cut, h => by rw [encI, dep]; exact okD_le (n := 1) (by decide) (okD_1 (okD_str _ _))
theorem okXs_D : ∀ (xs : List In), okXs xs → ∀ y ∈ encIs xs, okD (8 + 2 * deps xs) y
  | [], _, y, hy => by rw [encIs] at hy; cases hy
  | x :: xs, h, y, hy => by
    rw [okXs] at h
    rw [encIs] at hy
    rw [deps]
    rcases List.mem_cons.mp hy with rfl | hy
    · exact okD_le (by omega) (okX_D x h.1)
    · exact okD_le (by omega) (okXs_D xs h.2 y hy)
end
/-- each row's look, by its place -/
def RowsA (k : Nat) : Nat → List (List In) → Prop
  | _, [] => True
  | j, r :: rs => (r.length ≤ k ∧ okXs r ∧ deps r + j ≤ 9) ∧ RowsA k (j + 1) rs
theorem RowsA.up {k : Nat} : ∀ {j : Nat} {rows : List (List In)}, RowsA k j rows → RowsA (k + 1) j rows
  | _, [], _ => trivial
  | j, r :: rs, h => ⟨⟨Nat.le_succ_of_le h.1.1, h.1.2⟩, RowsA.up h.2⟩
theorem RowsA.concat {k : Nat} {l : List In} : ∀ {j : Nat} {rows : List (List In)}, RowsA k j (rows ++ [l]) ↔ RowsA k j rows ∧ l.length ≤ k ∧ okXs l ∧ deps l + (j + rows.length) ≤ 9
  | j, [] => by simp [RowsA]
  | j, r :: rs => by
    rw [List.cons_append, RowsA, RowsA.concat, RowsA, List.length_cons, show j + 1 + rs.length = j + (rs.length + 1) by omega]
    simp only [and_assoc]
structure Nest (f g : Str) (rows : List (List In)) (d k : Nat) (em : List (In × Str)) : Prop where
  len : rows.length = d + 1
  al : RowsA k 0 rows
  fl : flat f g rows = em
theorem Nest.step {f g : Str} {rows : List (List In)} {d k : Nat} {em : List (In × Str)} (h : Nest f g rows d k em) (s : St) (hk : k < 200) (ok : okSt s) {e : Nat} (hr : runS d [s] = some e) : Nest f g (nestS rows s) e (k + 1) (em ++ emit f g d [s]) := by
  obtain ⟨ini, l, rfl⟩ : ∃ ini l, rows = ini ++ [l] := by
    rcases List.eq_nil_or_concat rows with rfl | ⟨a, b, rfl⟩
    · have := h.len; simp at this
    · exact ⟨a, b, by rw [List.concat_eq_append]⟩
  have hlen := h.len
  rw [List.length_append, List.length_singleton] at hlen
  have hi : ini.length = d := by omega
  obtain ⟨a1, a2, a3, a4⟩ := RowsA.concat.mp h.al
  cases s with
  | leaf x =>
    cases hr
    obtain ⟨x1, x2⟩ := okIn_X (x := x) ok
    show Nest f g (upd1 x (ini ++ [l])) _ _ _
    rw [upd1_concat]
    refine ⟨by rw [List.length_append]; simp; omega, RowsA.concat.mpr ⟨a1.up, by simp; omega, (okXs_append _ _).mpr ⟨a3, by rw [okXs]; exact ⟨x1, by rw [okXs]; trivial⟩⟩, ?_⟩, ?_⟩
    · rw [deps_append, deps, deps, x2]; omega
    · have hx : inF (if ini = [] then f else g) g x = emit f g d [.leaf x] := by
        have e1 : (if ini = [] then f else g) = if d = 0 then f else g := by
          subst hi
          cases ini <;> rfl
        rw [e1]
        cases x with
        | strong _ => exact ok.elim
        | _ => simp only [inF, emit]
      rw [flat_concat, inFs_append, ← List.append_assoc, ← flat_concat, h.fl, ← hx]
      simp only [inFs, List.append_nil]
  | opn =>
    rw [runS] at hr
    split at hr
    · cases hr
      refine ⟨by show (ini ++ [l] ++ [[]]).length = _; simp; omega, RowsA.concat.mpr ⟨h.al.up, by simp, by rw [okXs]; trivial, by rw [deps]; simp; omega⟩, ?_⟩
      show flat f g (ini ++ [l] ++ [[]]) = _
      rw [flat_concat, h.fl]
      simp only [inFs, emit]
    · cases hr
  | shut =>
    cases d with
    | zero => cases hr
    | succ d =>
      cases hr
      obtain ⟨ini, m, rfl⟩ : ∃ i m, ini = i ++ [m] := by
        rcases List.eq_nil_or_concat ini with rfl | ⟨a, b, rfl⟩
        · simp at hi
        · exact ⟨a, b, by rw [List.concat_eq_append]⟩
      have es : nestS (ini ++ [m] ++ [l]) .shut = ini ++ [m ++ [.strong l]] := by
        show upd1 (.strong ((ini ++ [m] ++ [l]).getLast?.getD [])) (ini ++ [m] ++ [l]).dropLast = _
        rw [List.getLast?_concat, List.dropLast_concat, upd1_concat]
        rfl
      rw [es]
      obtain ⟨b1, b2, b3, b4⟩ := RowsA.concat.mp a1
      rw [List.length_append, List.length_singleton] at hi a4
      refine ⟨by rw [List.length_append]; simp; omega, RowsA.concat.mpr ⟨b1.up, by simp; omega, (okXs_append _ _).mpr ⟨b3, by rw [okXs, okX]; exact ⟨⟨by omega, a3⟩, by rw [okXs]; trivial⟩⟩, ?_⟩, ?_⟩
      · rw [deps_append, deps, deps, dep]; omega
      · have := h.fl
        rw [flat_concat] at this
        rw [flat_concat, inFs_append, ← List.append_assoc, ← flat_concat]
        rw [if_neg (by simp)] at this
        simp only [inFs, inF, List.append_nil, emit]
        exact this
theorem emit_append (f g : Str) : ∀ (a b : List St) (d e : Nat), runS d a = some e → emit f g d (a ++ b) = emit f g d a ++ emit f g e b
  | [], b, d, e, h => by cases h; rfl
  | .leaf x :: a, b, d, e, h => by rw [runS] at h; rw [List.cons_append, emit, emit, emit_append f g a b d e h]; rfl
  | .opn :: a, b, d, e, h => by
    rw [runS] at h
    split at h
    · rw [List.cons_append, emit, emit, emit_append f g a b _ e h]
    · cases h
  | .shut :: a, b, 0, e, h => by rw [runS] at h; cases h
  | .shut :: a, b, d + 1, e, h => by rw [runS] at h; rw [List.cons_append, emit, emit]; exact emit_append f g a b d e h
theorem Nest.start (f g : Str) : Nest f g [[]] 0 0 [] := ⟨rfl, ⟨⟨Nat.le_refl _, by rw [okXs]; trivial, by rw [deps]; decide⟩, trivial⟩, by simp [flat, inFs]⟩
theorem Nest.run {f g : Str} : ∀ (ss : List St) {rows : List (List In)} {d k : Nat} {em : List (In × Str)}, Nest f g rows d k em → k + ss.length ≤ 200 → (∀ s ∈ ss, okSt s) → ∀ {e : Nat}, runS d ss = some e → Nest f g (ss.foldl nestS rows) e (k + ss.length) (em ++ emit f g d ss)
  | [], _, _, _, _, h, _, _, _, hr => by cases hr; simpa [emit] using h
  | s :: ss, rows, d, k, em, h, hk, ok, e, hr => by
    rw [show s :: ss = [s] ++ ss from rfl, runS_append] at hr
    cases hs : runS d [s] with
    | none => rw [hs] at hr; cases hr
    | some e1 =>
      rw [hs] at hr
      rw [List.length_cons] at hk
      have h1 := h.step s (by omega) (ok s (.head _)) hs
      have h2 := Nest.run ss h1 (by omega) (fun x hx => ok x (.tail _ hx)) hr
      rw [show s :: ss = [s] ++ ss from rfl, emit_append f g [s] ss d e1 hs, List.foldl_append, List.length_append, List.length_singleton, ← List.append_assoc, show k + (1 + ss.length) = k + 1 + ss.length by omega]
      exact h2
theorem nested_ok {ss : List St} (h : Steps ss) (f g : Str) : inFs f g (nested ss) = emit f g 0 ss ∧ (nested ss).length ≤ 100 ∧ okXs (nested ss) ∧ deps (nested ss) ≤ 9 ∧ ss.foldl nestS [[]] = [nested ss] := by
  have hl := h.len
  have n := Nest.run ss (Nest.start f g) (by omega) h.ok h.run
  have e : ss.foldl nestS [[]] = [nested ss] := by
    unfold nested
    match q : ss.foldl nestS [[]], n.len with
    | [r], _ => rfl
  rw [e] at n
  obtain ⟨⟨a1, a2, a3⟩, _⟩ := n.al
  have := n.fl
  rw [show flat f g [nested ss] = inFs f g (nested ss) by simp [flat]] at this
  exact ⟨this, by omega, a2, by omega, e⟩
theorem emit_len (f g : Str) : ∀ (ss : List St) (d : Nat), (emit f g d ss).length ≤ ss.length
  | [], d => by simp [emit]
  | .leaf x :: ss, d => by rw [emit, List.length_cons, List.length_cons]; have := emit_len f g ss d; omega
  | .opn :: ss, d => by rw [emit, List.length_cons]; have := emit_len f g ss (d + 1); omega
  | .shut :: ss, d => by rw [emit, List.length_cons]; have := emit_len f g ss (d - 1); omega
theorem solN_le {p : In × Str} (h : okIn p.1) : (solidsIn p.2 p.1).length ≤ 12 := by
  obtain ⟨x, f⟩ := p
  cases x <;> simp only [solidsIn, List.length_map, List.length_singleton, List.length_nil] <;> first | decide | exact Nat.zero_le _ | (have := h.2; simpa [Str.length] using this)
theorem emit_sum (f g : Str) : ∀ (ss : List St) (d : Nat), (∀ s ∈ ss, okSt s) → ((emit f g d ss).map fun p => (solidsIn p.2 p.1).length).sum ≤ 12 * ss.length
  | [], d, _ => by simp [emit]
  | .leaf x :: ss, d, ok => by
    rw [emit, List.map_cons, List.sum_cons, List.length_cons]
    have := emit_sum f g ss d fun s hs => ok s (.tail _ hs)
    have := solN_le (p := (x, if d = 0 then f else g)) (ok (.leaf x) (.head _))
    dsimp only at *
    omega
  | .opn :: ss, d, ok => by rw [emit, List.length_cons]; have := emit_sum f g ss (d + 1) fun s hs => ok s (.tail _ hs); omega
  | .shut :: ss, d, ok => by rw [emit, List.length_cons]; have := emit_sum f g ss (d - 1) fun s hs => ok s (.tail _ hs); omega
end Y

set_option maxHeartbeats 4000000
namespace Y
open PySem L2 PySem.Spec PyProof.Rows
local macro_rules | `(tactic| walk_at "y1") => `(tactic| first
  | with_reducible refine ws_asg ?_
  | with_reducible refine ws_next ?_
  | with_reducible refine ws_brk ?_
  | with_reducible refine ws_cont ?_
  | with_reducible refine ws_if ?_
  | ((with_reducible refine' ws_setL ?e ?_); (case e => rfl))
  | ((with_reducible refine' ws_app ?e ?_); (case e => rfl))
  | ((with_reducible refine' ws_ext ?e ?_); (case e => rfl))
  | with_reducible refine ws_asgG ?_
  | ((with_reducible refine' ws_retOwn ?e ?_); (case e => rfl))
  | with_reducible refine ws_ret ?_
  | with_reducible refine ws_retN ?_
  | with_reducible refine ws_drop ?_)
local macro_rules | `(tactic| walk_at "y2") => `(tactic| first
  | ((with_reducible refine' we_d ?e ?_); (case e => rfl))
  | ((with_reducible refine' we_raw ?e ?_); (case e => rfl))
  | ((with_reducible refine' we_ro ?e ?_); (case e => rfl))
  | ((with_reducible refine' we_m ?e ?_); (case e => rfl))
  | with_reducible refine we_cint ?_
  | with_reducible refine we_cstr ?_
  | with_reducible refine we_cbl ?_
  | with_reducible refine we_cnon ?_
  | with_reducible refine we_op ?_
  | with_reducible refine we_un ?_
  | with_reducible refine we_cb ?_
  | with_reducible refine we_tup ?_
  | with_reducible refine we_lst ?_
  | with_reducible refine wa_nil ?_
  | with_reducible refine wa_cons ?_
  | with_reducible refine we_bm0 ?_
  | with_reducible refine we_bm ?_
  | with_reducible refine we_m0 ?_
  | with_reducible refine we_m1 ?_
  | with_reducible refine we_sl ?_
  | with_reducible refine wo_none ?_
  | with_reducible refine wo_some ?_
  | with_reducible refine we_fld ?_
  | with_reducible refine we_call ?_
  | with_reducible refine we_mk ?_
  | with_reducible refine we_mkS ?_
  | with_reducible refine wt_test ?_
  | with_reducible refine wt_val ?_
  | with_reducible refine wt_and ?_
  | with_reducible refine wt_or ?_
  | with_reducible refine wt_not ?_
  | with_reducible refine wt_yes ?_
  | with_reducible refine wt_truth ?_
  | with_reducible refine we_andV ?_
  | with_reducible refine we_orV ?_
  | with_reducible refine we_notV ?_
  | with_reducible refine we_if ?_
  | with_reducible refine we_craw ?_)
local macro_rules | `(tactic| walk_at "y3") => `(tactic| first
  | with_reducible refine ro_plusI ?_
  | with_reducible refine ro_eqI ?_
  | with_reducible refine ro_eqS ?_
  | with_reducible refine ro_neI ?_
  | with_reducible refine ro_neS ?_
  | ((with_reducible refine' ro_I0 ?e ?_); (case e => rfl))
  | ((with_reducible refine' ro_I ?c ?e ?_); (case e => rfl); (case c => first | decide | omega | exact Or.inr (by decide) | exact Or.inl (by decide) | exact ⟨by decide, by decide +kernel⟩ | exact ⟨by decide, by decide, by decide⟩ | exact Or.inl ⟨by omega, by omega⟩ | exact Or.inr ⟨by omega, by omega⟩ | assumption))
  | ((with_reducible refine' ro_ix1 ?a ?b ?_); (case a => rfl); (case b => first | exact at0 | rfl))
  | ((with_reducible refine' ro_ix2 ?b ?_); (case b => first | exact at0 | rfl))
  | with_reducible refine ro_isN ?_
  | with_reducible refine ro_isA ?_
  | ((with_reducible refine' rc_len1 ?a ?_); (case a => first | exact Or.inl rfl | exact Or.inr rfl))
  | ((with_reducible refine' rc_isi ?a ?b ?_); (case a => rfl); (case b => first | exact kit_NoneType_int | exact kit_NoneType_bool | exact kit_NoneType_str | exact kit_NoneType_tuple | exact kit_NoneType_list | exact kit_bool_int | exact kit_bool_bool | exact kit_bool_str | exact kit_bool_tuple | exact kit_bool_list | exact kit_int_int | exact kit_int_bool | exact kit_int_str | exact kit_int_tuple | exact kit_int_list | exact kit_str_int | exact kit_str_bool | exact kit_str_str | exact kit_str_tuple | exact kit_str_list | exact kit_tuple_int | exact kit_tuple_bool | exact kit_tuple_str | exact kit_tuple_tuple | exact kit_tuple_list | exact kit_list_int | exact kit_list_bool | exact kit_list_str | exact kit_list_tuple | exact kit_list_list))
  | with_reducible refine rcA_abs ?_
  | with_reducible refine rcA_max ?_
  | with_reducible refine rcA_min ?_
  | with_reducible refine rcA_intI ?_
  | with_reducible refine rcA_intB ?_
  | ((with_reducible refine' rcA_list ?a ?_); (case a => first | exact Or.inl rfl | exact Or.inr rfl))
  | ((with_reducible refine' rcA_tuple ?a ?_); (case a => first | exact Or.inl rfl | exact Or.inr rfl)))
local macro_rules | `(tactic| walk_at "y4") => `(tactic| first
  | ((with_reducible refine' ite_t ?e ?_); (case e => rfl))
  | ((with_reducible refine' ite_f ?e ?_); (case e => rfl))
  | refine ⟨_, rfl, (show _ ≤ sizeLine by simp only [List.length_cons, List.length_nil]; decide), ?_⟩
  | refine ⟨_, rfl, ?_⟩
  | refine ⟨rfl, ?_⟩
  | refine ⟨_, _, rfl, rfl, ?_⟩)
local macro_rules | `(tactic| walk_at "z") => `(tactic| ((first | walk_at "y1" | walk_at "y2" | walk_at "y3" | walk_at "y4"); try dsimp only [List.set, Int.reduceToNat]))
local macro_rules | `(tactic| walk_at "y") => `(tactic| first | walk_at "z" | (with_reducible refine ws_seq ?_))
local macro_rules | `(tactic| walk_at "s") => `(tactic| ((with_reducible refine ws_seq ?_); repeat walk_at "z"))

abbrev s__law_steps : Stmt := top 25
abbrev N__law_steps : List Str := ["pool", "kinds", "steps", "deep", "k", "kind"]
theorem sc__law_steps : FnScope N__law_steps ["pool"] (C8.fnScope s__law_steps) := C8.fnScope_by (by decide +kernel)
def spSteps : DSp := fun p rs Φ => ∃ q : Addr, p = some q ∧ rs = [.raw (.ref q)] ∧ ∀ ss : List St, Steps ss → ss.length ≤ 90 → Φ (.nl (ss.map encSt))
def kindsD : List D := [.str "word", .str "word", .str "word", .str "word", .str "formula", .str "note", .str "mark", .str "gap", .str "gap", .str "gap", .str "tie", .str "tie", .str "tie", .str "hyph", .str "hyph", .str "hyph", .str "cut", .str "open", .str "open", .str "open", .str "shut", .str "shut", .str "shut"]
theorem kinds_cases {d : D} (h : d ∈ kindsD) : d = .str "word" ∨ d = .str "formula" ∨ d = .str "note" ∨ d = .str "mark" ∨ d = .str "gap" ∨ d = .str "tie" ∨ d = .str "hyph" ∨ d = .str "cut" ∨ d = .str "open" ∨ d = .str "shut" := by
  unfold kindsD at h
  simp only [List.mem_cons, List.not_mem_nil, or_false] at h
  rcases h with h | h | h | h | h | h | h | h | h | h | h | h | h | h | h | h | h | h | h | h | h | h | h <;> simp [h]
theorem rep_shut : ∀ d : Nat, (List.replicate d [D.tup [.str "shut"]]).flatten = (List.replicate d St.shut).map encSt
  | 0 => rfl
  | d + 1 => by rw [List.replicate_succ, List.flatten_cons, rep_shut d, List.replicate_succ, List.map_cons]; rfl
/-- steps so far: their number, the depth -/
structure Part (ss : List St) (n d : Nat) : Prop where
  len : ss.length = n
  ok : ∀ s ∈ ss, okSt s
  run : runS 0 ss = some d
  d9 : d ≤ 9
theorem Part.add {ss : List St} {n d e : Nat} (h : Part ss n d) {s : St} (ok : okSt s) (hr : runS d [s] = some e) (h9 : e ≤ 9) : Part (ss ++ [s]) (n + 1) e :=
  ⟨by rw [List.length_append, h.len]; rfl, fun x hx => by
    rcases List.mem_append.mp hx with hx | hx
    · exact h.ok x hx
    · cases List.mem_singleton.mp hx; exact ok, by rw [runS_append, h.run]; exact hr, h9⟩
section
variable {P : Program} {w : World} {K : PySem.W.Frag} {mg : Str → Option Value} {base : Heap}
variable (c__law_draw : C8.Cal P w K mg base 1 "_law_draw" (FSp K spDraw) []) (c__law_pick : C8.Cal P w K mg base 2 "_law_pick" (FSp K spPick) []) (c__law_few : C8.Cal P w K mg base 3 "_law_few" (FSp K spFew) []) (c__law_word : C8.Cal P w K mg base 4 "_law_word" (FSp K spWord) [])
  (c__law_formula : C8.Cal P w K mg base 5 "_law_formula" (FSp K (spDatum 7)) []) (c__law_inner : C8.Cal P w K mg base 5 "_law_inner" (FSp K (spDatum 5)) [])
include c__law_draw c__law_pick c__law_few c__law_word c__law_formula c__law_inner
theorem cal__law_steps (D : Dn K mg "_law_steps" s__law_steps ["pool"]) (hB : Blt mg) : C8.Cal P w K mg base 6 "_law_steps" (FSp K spSteps) [] := by
  have sc := sc__law_steps
  refine D.cal sc (fun p rs Φ h => ?_) fun f cdv A outer st H E hr p rs Φ h => ?_
  · obtain ⟨q, _, e, _⟩ := h; rw [e]; rfl
  refine ⟨_, (pss_cons (ps_set (i := 1) sc.nd rfl (by first | exact Or.inl rfl | exact Or.inr rfl) (pe_lst (pa_cons pe_str (pa_cons pe_str (pa_cons pe_str (pa_cons pe_str (pa_cons pe_str (pa_cons pe_str (pa_cons pe_str (pa_cons pe_str (pa_cons pe_str (pa_cons pe_str (pa_cons pe_str (pa_cons pe_str (pa_cons pe_str pa_nil)))))))))))))))
      (pss_cons (ps_set (i := 1) sc.nd rfl (by first | exact Or.inl rfl | exact Or.inr rfl) (pe_op op_plus (pv 1) (pe_lst (pa_cons pe_str (pa_cons pe_str (pa_cons pe_str (pa_cons pe_str (pa_cons pe_str (pa_cons pe_str (pa_cons pe_str (pa_cons pe_str (pa_cons pe_str (pa_cons pe_str pa_nil)))))))))))))
      (pss_cons (ps_set (i := 2) sc.nd rfl (by first | exact Or.inl rfl | exact Or.inr rfl) (pe_lst pa_nil))
      (pss_cons (ps_set (i := 3) sc.nd rfl (by first | exact Or.inl rfl | exact Or.inr rfl) pe_int)
      (pss_cons (ps_for PassesOwn.never rfl (pi_range1 rfl hB.range (pa_cons (C8.pe_c c__law_few hr (by first | decide | omega) rfl (pa_cons (pv 0) (pa_cons pe_int (pa_cons pe_int pa_nil)))) pa_nil)) (pg_name (i := 4) sc.nd rfl (by first | exact Or.inl rfl | exact Or.inr rfl)) (pss_cons (ps_set (i := 5) sc.nd rfl (by first | exact Or.inl rfl | exact Or.inr rfl) (C8.pe_c c__law_pick hr (by first | decide | omega) rfl (pa_cons (pv 0) (pa_cons (pv 1) pa_nil))))
      (pss_cons (ps_if (PW.pt (pw_or (PW.pt (pw_and (pt_cmpR op_eq (pv 5) pe_str (nomark _)) (pw_and1 (pt_cmpR op_eq (pv 3) pe_int (nomark _))))) (pw_or1 (PW.pt (pw_and (pt_cmpR op_eq (pv 5) pe_str (nomark _)) (pw_and1 (pt_cmpR op_eq (pv 3) pe_int (nomark _)))))))) (pss_one (ps_set (i := 5) sc.nd rfl (by first | exact Or.inl rfl | exact Or.inr rfl) pe_str)) pss_nil)
      (pss_cons (ps_set (i := 3) sc.nd rfl (by first | exact Or.inl rfl | exact Or.inr rfl) (pe_op op_sub (pe_op op_plus (pv 3) (pe_callTy call_intA (by rfl) hB.int (by decide +kernel) (pa_cons (pe_cmpR op_eq (pv 5) pe_str (nomark _)) pa_nil))) (pe_callTy call_intA (by rfl) hB.int (by decide +kernel) (pa_cons (pe_cmpR op_eq (pv 5) pe_str (nomark _)) pa_nil))))
      (pss_one (ps_if (PW.pt (pw_or (pt_cmpR op_eq (pv 5) pe_str (nomark _)) (pw_or1 (pt_cmpR op_eq (pv 5) pe_str (nomark _))))) (pss_one (ps_expr (pe_bm PySem.F.plainAttrs_list PySem.F.slot_list_append PySem.F.type_list_append mt_append (pv 2) (pa_cons (pe_tup (pa_cons (pv 5) (pa_cons (C8.pe_c c__law_word hr (by first | decide | omega) rfl (pa_cons (pv 0) pa_nil)) pa_nil))) pa_nil)))) (pss_one (ps_if (pt_cmpR op_eq (pv 5) pe_str (nomark _)) (pss_one (ps_expr (pe_bm PySem.F.plainAttrs_list PySem.F.slot_list_append PySem.F.type_list_append mt_append (pv 2) (pa_cons (pe_tup (pa_cons (pv 5) (pa_cons (C8.pe_c c__law_formula hr (by first | decide | omega) rfl (pa_cons (pv 0) pa_nil)) pa_nil))) pa_nil)))) (pss_one (ps_if (pt_cmpR op_eq (pv 5) pe_str (nomark _)) (pss_one (ps_expr (pe_bm PySem.F.plainAttrs_list PySem.F.slot_list_append PySem.F.type_list_append mt_append (pv 2) (pa_cons (pe_tup (pa_cons (pv 5) (pa_cons (pe_op op_plus pe_int (C8.pe_c c__law_draw hr (by first | decide | omega) rfl (pa_cons (pv 0) (pa_cons pe_int pa_nil)))) (pa_cons (C8.pe_c c__law_inner hr (by first | decide | omega) rfl (pa_cons (pv 0) pa_nil)) pa_nil)))) pa_nil)))) (pss_one (ps_expr (pe_bm PySem.F.plainAttrs_list PySem.F.slot_list_append PySem.F.type_list_append mt_append (pv 2) (pa_cons (pe_tup (pa_cons (pv 5) pa_nil)) pa_nil))))))))))))))
      (pss_one (ps_ret (pe_op op_plus (pv 2) (pe_op op_rep (pe_lst (pa_cons (pe_tup (pa_cons pe_str pa_nil)) pa_nil)) (pv 3)))))))))), ?_⟩
  try dsimp only [L2.cxOf]
  obtain ⟨q, rfl, rfl, post⟩ := h
  show WS (g0 K (some q)) _ [.raw (.ref q), .any, .any, .any, .any, .any] _
  repeat walk_at "y"
  refine ro_plusL (.inl rfl) (.inr rfl) (by simp only [List.length_cons, List.length_nil]; decide) ?_
  repeat walk_at "y"
  refine ws_for ?_
  refine wi_range1 ?_
  repeat walk_at "y"
  refine ⟨_, .cons (.raw _) (.cons (.d _) (.cons (.d _) .nil)), q, _, _, rfl, rfl, by decide, by decide, by decide, by decide, fun r r0 hr1 => ?_⟩
  have r1 : r ≤ 60 := by omega
  repeat walk_at "y"
  refine ⟨by omega, by omega, fun i sv => ∃ ss d a b, sv = [.raw (.ref q), .own kindsD, .own (ss.map encSt), .d (.int (d : Nat)), a, b] ∧ Part ss i d, ⟨[], 0, _, _, rfl, ⟨rfl, fun _ h => (nomatch h), rfl, Nat.zero_le _⟩⟩, fun i x sv' hx hI => ?_, fun sv' hI => ?_⟩
  · obtain ⟨ss, d, a, b, rfl, hp⟩ := hI
    obtain ⟨rfl, hi⟩ := rangeD_get hx
    have hlen : (ss.map encSt).length < 16777216 := by rw [List.length_map, hp.len]; omega
    refine ⟨_, wg_name ?_⟩
    dsimp only [List.set]
    repeat walk_at "y"
    refine ⟨_, .cons (.raw _) (.cons (.ol _) .nil), q, rfl, .inl ⟨_, rfl, by simp [kindsD], by simp only [kindsD, List.length_cons, List.length_nil]; decide, fun k hk => ?_⟩⟩
    have fin : ∀ (s : St) (e : Nat) (z : Int) (u v : Sv), z = e → okSt s → runS d [s] = some e → e ≤ 9 → ∃ ss1 d1 a b, [Sv.raw (.ref q), .own kindsD, .m none (.lst (ss.map encSt ++ [encSt s])), .d (.int z), u, v] = [Sv.raw (.ref q), .own kindsD, .own (ss1.map encSt), .d (.int (d1 : Nat)), a, b] ∧ Part ss1 (i + 1) d1 := fun s e z u v hz ok hr h9 =>
      ⟨ss ++ [s], e, u, v, by rw [hz, List.map_append]; rfl, hp.add ok hr h9⟩
    have d9 := hp.d9
    rcases kinds_cases hk with rfl | rfl | rfl | rfl | rfl | rfl | rfl | rfl | rfl | rfl
    · repeat walk_at "y"
      refine ⟨_, .cons (.raw _) .nil, q, rfl, rfl, fun z z0 z1 => ?_⟩
      repeat walk_at "y"
      exact ⟨hlen, fin (.leaf (.word z)) d _ _ _ (by rw [if_neg (by decide +kernel), if_neg (by decide +kernel)]; omega) ⟨z0, z1⟩ rfl d9⟩
    · repeat walk_at "y"
      refine ⟨_, .cons (.raw _) .nil, q, rfl, rfl, fun z hz => ?_⟩
      repeat walk_at "y"
      exact ⟨hlen, fin (.leaf (.formula z)) d _ _ _ (by rw [if_neg (by decide +kernel), if_neg (by decide +kernel)]; omega) hz rfl d9⟩
    · repeat walk_at "y"
      refine ⟨_, .cons (.raw _) (.cons (.d _) .nil), q, _, rfl, rfl, by decide, by decide, fun n n0 n1 => ?_⟩
      repeat walk_at "y"
      refine ⟨_, .cons (.raw _) .nil, q, rfl, rfl, fun z hz => ?_⟩
      repeat walk_at "y"
      exact ⟨hlen, fin (.leaf (.note (1 + n) z)) d _ _ _ (by rw [if_neg (by decide +kernel), if_neg (by decide +kernel)]; omega) (okD_le (n := 5) (by decide) hz) rfl d9⟩
    · repeat walk_at "y"
      refine ⟨_, .cons (.raw _) .nil, q, rfl, rfl, fun z z0 z1 => ?_⟩
      repeat walk_at "y"
      exact ⟨hlen, fin (.leaf (.mark z)) d _ _ _ (by rw [if_neg (by decide +kernel), if_neg (by decide +kernel)]; omega) ⟨z0, z1⟩ rfl d9⟩
    · repeat walk_at "y"
      exact ⟨hlen, fin (.leaf .gap) d _ _ _ (by rw [if_neg (by decide +kernel), if_neg (by decide +kernel)]; omega) trivial rfl d9⟩
    · repeat walk_at "y"
      exact ⟨hlen, fin (.leaf .tie) d _ _ _ (by rw [if_neg (by decide +kernel), if_neg (by decide +kernel)]; omega) trivial rfl d9⟩
    · repeat walk_at "y"
      exact ⟨hlen, fin (.leaf .hyph) d _ _ _ (by rw [if_neg (by decide +kernel), if_neg (by decide +kernel)]; omega) trivial rfl d9⟩
    · repeat walk_at "y"
      exact ⟨hlen, fin (.leaf .cut) d _ _ _ (by rw [if_neg (by decide +kernel), if_neg (by decide +kernel)]; omega) trivial rfl d9⟩
    · repeat walk_at "y"
      refine ifD (p := (d : Int) = 9) (fun h9 => ?_) (fun h9 => ?_)
      · repeat walk_at "y"
        exact ⟨hlen, fin (.leaf .gap) d _ _ _ (by rw [if_neg (by decide +kernel), if_neg (by decide +kernel)]; omega) trivial rfl d9⟩
      · repeat walk_at "y"
        exact ⟨hlen, fin .opn (d + 1) _ _ _ (by rw [if_pos (by decide +kernel), if_neg (by decide +kernel)]; omega) trivial (by rw [runS, if_pos (by omega)]; rfl) (by omega)⟩
    · repeat walk_at "y"
      refine ifD (p := (d : Int) = 0) (fun h9 => ?_) (fun h9 => ?_)
      · repeat walk_at "y"
        exact ⟨hlen, fin (.leaf .gap) d _ _ _ (by rw [if_neg (by decide +kernel), if_neg (by decide +kernel)]; omega) trivial rfl d9⟩
      · repeat walk_at "y"
        exact ⟨hlen, fin .shut (d - 1) _ _ _ (by rw [if_neg (by decide +kernel), if_pos (by decide +kernel)]; omega) trivial (by cases d with | zero => omega | succ d => rfl) (by omega)⟩
  · obtain ⟨ss, d, a, b, rfl, hp⟩ := hI
    rw [rangeD_len] at hp
    have d9 := hp.d9
    have hl := hp.len
    repeat walk_at "y"
    refine ro_rep (.inr rfl) (by omega) (by omega) (by rw [Int.toNat_natCast]; show 1 * d ≤ 16777216; omega) ?_
    rw [Int.toNat_natCast, rep_shut]
    refine ro_plusL (.inl rfl) (.inr rfl) (by rw [List.length_map, List.length_map, List.length_replicate]; show _ ≤ 16777216; omega) ?_
    rw [← List.map_append]
    refine ⟨rfl, post _ ⟨by rw [List.length_append, List.length_replicate]; omega, fun s hs => ?_, by rw [runS_append, hp.run]; exact runS_shuts d⟩ (by rw [List.length_append, List.length_replicate]; omega)⟩
    rcases List.mem_append.mp hs with hs | hs
    · exact hp.ok s hs
    · rw [(List.mem_replicate.mp hs).2]; trivial
end
end Y

namespace Y
open PySem L2
/-! ### the law's own answer -/
def rankB : Bt → Nat
  | .hyph => 1 | .gap => 2 | .tie => 3 | .cut => 4
def rankOf (bs : List (Bt × Str)) : Nat := bs.foldl (fun n b => max n (rankB b.1)) 0
theorem rankOf_snoc (bs : List (Bt × Str)) (b : Bt × Str) : rankOf (bs ++ [b]) = max (rankOf bs) (rankB b.1) := by
  unfold rankOf; rw [List.foldl_append]; rfl
def roomD (bs : List (Bt × Str)) : Str := (roomOf bs).getD ""
theorem roomOf_snoc (b : Bt × Str) : ∀ bs : List (Bt × Str), roomOf (bs ++ [b]) = match roomOf bs with | some f => some f | none => if b.1 = .gap ∨ b.1 = .tie then some b.2 else none
  | [] => by
    obtain ⟨b, f⟩ := b
    rfl
  | (c, f) :: bs => by
    rw [List.cons_append, roomOf, roomOf, roomOf_snoc b bs]
    split <;> rfl
theorem roomOf_ne {bs : List (Bt × Str)} (h : ∀ b ∈ bs, b.2 ≠ "") : ∀ {f : Str}, roomOf bs = some f → f ≠ "" := by
  intro f e
  induction bs with
  | nil => cases e
  | cons b bs ih =>
    obtain ⟨c, g⟩ := b
    rw [roomOf] at e
    split at e
    · cases e; exact h (c, _) (.head _)
    · exact ih (fun b hb => h b (.tail _ hb)) e
/-- one step of the law's due, in its own words -/
structure DS where
  so : List So
  jo : List Jo
  ma : List (Nat × Str)
  deep : Nat
  rank : Nat
  room : Str
def kindS : So → Bool := isLetter
def dueJ (rank : Nat) (room : Str) (l r : So) : Jo :=
  if rank = 4 then .cut else if rank = 3 then .tie room else if rank = 2 then .gap room
  else if rank = 1 ∧ isLetter l = true ∧ isLetter r = true then .hyph else .none
theorem fold_ge (k : Nat) : ∀ (bs : List (Bt × Str)) (n : Nat), k ≤ bs.foldl (fun n b => max n (rankB b.1)) n ↔ k ≤ n ∨ ∃ b ∈ bs, k ≤ rankB b.1
  | [], n => by simp
  | b :: bs, n => by
    rw [List.foldl_cons, fold_ge k bs]
    constructor
    · rintro (h | ⟨c, hc, h⟩)
      · by_cases h2 : k ≤ n
        · exact .inl h2
        · exact .inr ⟨b, .head _, by omega⟩
      · exact .inr ⟨c, .tail _ hc, h⟩
    · rintro (h | ⟨c, hc, h⟩)
      · exact .inl (by omega)
      · rcases List.mem_cons.mp hc with rfl | hc
        · exact .inl (by omega)
        · exact .inr ⟨c, hc, h⟩
theorem rank_ge {k : Nat} (hk : 0 < k) (bs : List (Bt × Str)) : k ≤ rankOf bs ↔ ∃ b ∈ bs, k ≤ rankB b.1 := by
  unfold rankOf
  rw [fold_ge]
  exact ⟨fun h => h.resolve_left (by omega), .inr⟩
theorem rank_le (bs : List (Bt × Str)) : rankOf bs ≤ 4 := by
  have : ¬ 5 ≤ rankOf bs := fun h => by
    obtain ⟨b, _, h⟩ := (rank_ge (by decide) bs).mp h
    cases b with | mk b f => cases b <;> simp [rankB] at h
  omega
theorem dueJ_eq (l r : So) (bs : List (Bt × Str)) : dueJ (rankOf bs) (roomD bs) l r = jointOf l r bs := by
  have hle := rank_le bs
  have mem : ∀ b : Bt, b ∈ bs.map (·.1) ↔ ∃ c ∈ bs, c.1 = b := fun b => List.mem_map
  have c4 : Bt.cut ∈ bs.map (·.1) ↔ 4 ≤ rankOf bs := by
    rw [mem, rank_ge (by decide)]
    exact ⟨fun ⟨c, hc, e⟩ => ⟨c, hc, by rw [e]; decide⟩, fun ⟨c, hc, e⟩ => ⟨c, hc, by cases c with | mk c f => cases c <;> simp [rankB] at e ⊢⟩⟩
  have c3 : (Bt.cut ∈ bs.map (·.1) ∨ Bt.tie ∈ bs.map (·.1)) ↔ 3 ≤ rankOf bs := by
    rw [mem, mem, rank_ge (by decide)]
    constructor
    · rintro (⟨c, hc, e⟩ | ⟨c, hc, e⟩) <;> exact ⟨c, hc, by rw [e]; decide⟩
    · rintro ⟨c, hc, e⟩
      cases c with | mk c f => cases c <;> simp [rankB] at e
                               · exact .inr ⟨_, hc, rfl⟩
                               · exact .inl ⟨_, hc, rfl⟩
  have c2 : (Bt.cut ∈ bs.map (·.1) ∨ Bt.tie ∈ bs.map (·.1) ∨ Bt.gap ∈ bs.map (·.1)) ↔ 2 ≤ rankOf bs := by
    rw [mem, mem, mem, rank_ge (by decide)]
    constructor
    · rintro (⟨c, hc, e⟩ | ⟨c, hc, e⟩ | ⟨c, hc, e⟩) <;> exact ⟨c, hc, by rw [e]; decide⟩
    · rintro ⟨c, hc, e⟩
      cases c with | mk c f => cases c <;> simp [rankB] at e
                               · exact .inr (.inr ⟨_, hc, rfl⟩)
                               · exact .inr (.inl ⟨_, hc, rfl⟩)
                               · exact .inl ⟨_, hc, rfl⟩
  have c1 : (Bt.cut ∈ bs.map (·.1) ∨ Bt.tie ∈ bs.map (·.1) ∨ Bt.gap ∈ bs.map (·.1) ∨ Bt.hyph ∈ bs.map (·.1)) ↔ 1 ≤ rankOf bs := by
    rw [mem, mem, mem, mem, rank_ge (by decide)]
    constructor
    · rintro (⟨c, hc, e⟩ | ⟨c, hc, e⟩ | ⟨c, hc, e⟩ | ⟨c, hc, e⟩) <;> exact ⟨c, hc, by rw [e]; decide⟩
    · rintro ⟨c, hc, e⟩
      cases c with | mk c f => cases c
                               · exact .inr (.inr (.inr ⟨_, hc, rfl⟩))
                               · exact .inr (.inr (.inl ⟨_, hc, rfl⟩))
                               · exact .inr (.inl ⟨_, hc, rfl⟩)
                               · exact .inl ⟨_, hc, rfl⟩
  unfold dueJ jointOf
  by_cases h4 : Bt.cut ∈ bs.map (·.1)
  · rw [if_pos (by have := c4.mp h4; omega), if_pos h4]
  have n4 : ¬ 4 ≤ rankOf bs := fun h => h4 (c4.mpr h)
  rw [if_neg (by omega), if_neg h4]
  by_cases h3 : Bt.tie ∈ bs.map (·.1)
  · rw [if_pos (by have := c3.mp (.inr h3); omega), if_pos h3]; rfl
  have n3 : ¬ 3 ≤ rankOf bs := fun h => (c3.mpr h).elim h4 h3
  rw [if_neg (by omega), if_neg h3]
  by_cases h2 : Bt.gap ∈ bs.map (·.1)
  · rw [if_pos (by have := c2.mp (.inr (.inr h2)); omega), if_pos h2]; rfl
  have n2 : ¬ 2 ≤ rankOf bs := fun h => (c2.mpr h).elim h4 fun h => h.elim h3 h2
  rw [if_neg (by omega), if_neg h2]
  have e1 : (rankOf bs = 1) ↔ Bt.hyph ∈ bs.map (·.1) := ⟨fun h => (c1.mpr (by omega)).elim (fun h => absurd h h4) fun h => h.elim (fun h => absurd h h3) fun h => h.elim (fun h => absurd h h2) id, fun h => by have := c1.mp (.inr (.inr (.inr h))); omega⟩
  simp only [e1]
def ownOf (f : Str) : St → List So
  | .leaf x => solidsIn f x | _ => []
theorem step1_eq (s : SS) (f : Str) (x : In) : step1 s (x, f) = (solidsIn f x).foldl addSolid (addBt (addMark s x) f x) := by
  cases x <;> rfl
theorem addBt_fonts {s : SS} {f : Str} (x : In) (hf : f ≠ "") (h : ∀ b ∈ s.bt, b.2 ≠ "") : ∀ b ∈ (addBt s f x).bt, b.2 ≠ "" := by
  unfold addBt
  cases btOf x with
  | none => exact h
  | some c =>
    intro b hb
    rcases List.mem_append.mp hb with hb | hb
    · exact h b hb
    · cases List.mem_singleton.mp hb; exact hf
theorem fold_fonts : ∀ (l : List So) {s : SS}, (∀ b ∈ s.bt, b.2 ≠ "") → ∀ b ∈ (l.foldl addSolid s).bt, b.2 ≠ ""
  | [], _, h => h
  | x :: l, s, h => fold_fonts l (s := addSolid s x) fun _ h => nomatch h
theorem strs_tps {K : PySem.W.Frag} {F : Hp} : ∀ {ss : List Str} {xs : List V}, Tps K F xs (ss.map D.str) → xs = ss.map V.str
  | [], _, .nil => rfl
  | s :: ss, _, .cons a t => by cases a; rw [List.map_cons, strs_tps t]
theorem rm_index {Γ : G} {x : Rv} {Φ : Rv → Prop} {ss : List Str} {s : Str} {j : Nat} (hx : asL x = some (ss.map D.str)) (hj : ss[j]? = some s) (hm : ∀ m < j, ss[m]? ≠ some s) (q : Φ (.d (.int j))) : RM Γ (rIndex Γ.K) x [.d (.str s)] Φ := fun H0 F0 H F H1 F1 u us A hu hus Q f => by
  obtain ⟨v, rfl, hv⟩ := p1 hus
  cases hv
  obtain ⟨a, xs, rfl, sq, t⟩ := A.asL hu hx
  have := strs_tps t
  subst this
  refine ⟨a, _, .str s, j, .str s, rfl, rfl, sq, rfl, by simp [flatV], by rw [List.getElem?_map, hj]; rfl, by simp [eqV], fun m z' hlt hz => ?_, f.val A (r := .d _) (.int _) q⟩
  rw [List.getElem?_map] at hz
  cases e : ss[m]? with
  | none => rw [e] at hz; cases hz
  | some w =>
    rw [e] at hz
    cases hz
    have : w ≠ s := fun z => hm m hlt (by rw [e, z])
    simp [eqV, this]
end Y

set_option maxHeartbeats 4000000
namespace Y
open PySem L2 PySem.Spec PyProof.Rows
local macro_rules | `(tactic| walk_at "y1") => `(tactic| first
  | with_reducible refine ws_asg ?_
  | with_reducible refine ws_next ?_
  | with_reducible refine ws_brk ?_
  | with_reducible refine ws_cont ?_
  | with_reducible refine ws_if ?_
  | ((with_reducible refine' ws_setL ?e ?_); (case e => rfl))
  | ((with_reducible refine' ws_app ?e ?_); (case e => rfl))
  | ((with_reducible refine' ws_ext ?e ?_); (case e => rfl))
  | with_reducible refine ws_asgG ?_
  | ((with_reducible refine' ws_retOwn ?e ?_); (case e => rfl))
  | with_reducible refine ws_ret ?_
  | with_reducible refine ws_retN ?_
  | with_reducible refine ws_drop ?_)
local macro_rules | `(tactic| walk_at "y2") => `(tactic| first
  | ((with_reducible refine' we_d ?e ?_); (case e => rfl))
  | ((with_reducible refine' we_raw ?e ?_); (case e => rfl))
  | ((with_reducible refine' we_ro ?e ?_); (case e => rfl))
  | ((with_reducible refine' we_m ?e ?_); (case e => rfl))
  | with_reducible refine we_cint ?_
  | with_reducible refine we_cstr ?_
  | with_reducible refine we_cbl ?_
  | with_reducible refine we_cnon ?_
  | with_reducible refine we_op ?_
  | with_reducible refine we_un ?_
  | with_reducible refine we_cb ?_
  | with_reducible refine we_tup ?_
  | with_reducible refine we_lst ?_
  | with_reducible refine wa_nil ?_
  | with_reducible refine wa_cons ?_
  | with_reducible refine we_bm0 ?_
  | with_reducible refine we_bm ?_
  | with_reducible refine we_m0 ?_
  | with_reducible refine we_m1 ?_
  | with_reducible refine we_sl ?_
  | with_reducible refine wo_none ?_
  | with_reducible refine wo_some ?_
  | with_reducible refine we_fld ?_
  | with_reducible refine we_call ?_
  | with_reducible refine we_mk ?_
  | with_reducible refine we_mkS ?_
  | with_reducible refine wt_test ?_
  | with_reducible refine wt_val ?_
  | with_reducible refine wt_and ?_
  | with_reducible refine wt_or ?_
  | with_reducible refine wt_not ?_
  | with_reducible refine wt_yes ?_
  | with_reducible refine wt_truth ?_
  | with_reducible refine we_andV ?_
  | with_reducible refine we_orV ?_
  | with_reducible refine we_notV ?_
  | with_reducible refine we_if ?_
  | with_reducible refine we_craw ?_)
local macro_rules | `(tactic| walk_at "y3") => `(tactic| first
  | with_reducible refine ro_plusI ?_
  | with_reducible refine ro_eqI ?_
  | with_reducible refine ro_eqS ?_
  | with_reducible refine ro_neI ?_
  | with_reducible refine ro_neS ?_
  | ((with_reducible refine' ro_I0 ?e ?_); (case e => rfl))
  | ((with_reducible refine' ro_I ?c ?e ?_); (case e => rfl); (case c => first | decide | omega | exact Or.inr (by decide) | exact Or.inl (by decide) | exact ⟨by decide, by decide +kernel⟩ | exact ⟨by decide, by decide, by decide⟩ | exact Or.inl ⟨by omega, by omega⟩ | exact Or.inr ⟨by omega, by omega⟩ | assumption))
  | ((with_reducible refine' ro_ix1 ?a ?b ?_); (case a => rfl); (case b => first | exact at0 | rfl))
  | ((with_reducible refine' ro_ix2 ?b ?_); (case b => first | exact at0 | rfl))
  | with_reducible refine ro_isN ?_
  | with_reducible refine ro_isA ?_
  | ((with_reducible refine' rc_len1 ?a ?_); (case a => first | exact Or.inl rfl | exact Or.inr rfl))
  | ((with_reducible refine' rc_isi ?a ?b ?_); (case a => rfl); (case b => first | exact kit_NoneType_int | exact kit_NoneType_bool | exact kit_NoneType_str | exact kit_NoneType_tuple | exact kit_NoneType_list | exact kit_bool_int | exact kit_bool_bool | exact kit_bool_str | exact kit_bool_tuple | exact kit_bool_list | exact kit_int_int | exact kit_int_bool | exact kit_int_str | exact kit_int_tuple | exact kit_int_list | exact kit_str_int | exact kit_str_bool | exact kit_str_str | exact kit_str_tuple | exact kit_str_list | exact kit_tuple_int | exact kit_tuple_bool | exact kit_tuple_str | exact kit_tuple_tuple | exact kit_tuple_list | exact kit_list_int | exact kit_list_bool | exact kit_list_str | exact kit_list_tuple | exact kit_list_list))
  | with_reducible refine rcA_abs ?_
  | with_reducible refine rcA_max ?_
  | with_reducible refine rcA_min ?_
  | with_reducible refine rcA_intI ?_
  | with_reducible refine rcA_intB ?_
  | ((with_reducible refine' rcA_list ?a ?_); (case a => first | exact Or.inl rfl | exact Or.inr rfl))
  | ((with_reducible refine' rcA_tuple ?a ?_); (case a => first | exact Or.inl rfl | exact Or.inr rfl)))
local macro_rules | `(tactic| walk_at "y4") => `(tactic| first
  | ((with_reducible refine' ite_t ?e ?_); (case e => rfl))
  | ((with_reducible refine' ite_f ?e ?_); (case e => rfl))
  | refine ⟨_, rfl, (show _ ≤ sizeLine by simp only [List.length_cons, List.length_nil]; decide), ?_⟩
  | refine ⟨_, rfl, ?_⟩
  | refine ⟨rfl, ?_⟩
  | refine ⟨_, _, rfl, rfl, ?_⟩)
local macro_rules | `(tactic| walk_at "z") => `(tactic| ((first | walk_at "y1" | walk_at "y2" | walk_at "y3" | walk_at "y4"); try dsimp only [List.set, Int.reduceToNat]))
local macro_rules | `(tactic| walk_at "y") => `(tactic| first | walk_at "z" | (with_reducible refine ws_seq ?_))
local macro_rules | `(tactic| walk_at "s") => `(tactic| ((with_reducible refine ws_seq ?_); repeat walk_at "z"))

abbrev s__law_own : Stmt := top 27
abbrev N__law_own : List Str := ["step", "font", "char"]
theorem sc__law_own : FnScope N__law_own ["step", "font"] (C8.fnScope s__law_own) := C8.fnScope_by (by decide +kernel)
abbrev s__law_joint : Stmt := top 28
abbrev N__law_joint : List Str := ["rank", "room", "left", "right"]
theorem sc__law_joint : FnScope N__law_joint ["rank", "room", "left", "right"] (C8.fnScope s__law_joint) := C8.fnScope_by (by decide +kernel)
def spOwn : DSp := fun _ rs Φ => ∃ (s : St) (f : Str), rs = [.d (encSt s), .d (.str f)] ∧ okSt s ∧ Φ (.nl ((ownOf f s).map encS))
def spLJ : DSp := fun _ rs Φ => ∃ (rank : Nat) (room : Str) (l r : So) (lk rk : Str), rs = [.d (.int rank), .d (.str room), .d (.str lk), .d (.str rk)] ∧ decide (lk = ("letter" : Str)) = isLetter l ∧ decide (rk = ("letter" : Str)) = isLetter r ∧ rank ≤ 4 ∧ Φ (.d (encJ (dueJ rank room l r)))
section
variable {P : Program} {w : World} {K : PySem.W.Frag} {mg : Str → Option Value} {base : Heap}
theorem cal__law_own (D : Dn K mg "_law_own" s__law_own ["step", "font"]) (hB : Blt mg) : C8.Cal P w K mg base 1 "_law_own" (FSp K spOwn) [] := by
  have sc := sc__law_own
  refine D.cal sc (fun p rs Φ h => ?_) fun f cdv A outer st H E hr p rs Φ h => ?_
  · obtain ⟨x, f, e, _⟩ := h; rw [e]; rfl
  refine ⟨_, (pss_cons (ps_if (pt_cmpR op_eq (pe_ix ix_seq (pv 0) pe_int (fun _ _ => rfl)) pe_str (nomark _)) (pss_one (ps_ret (pe_lc (own := [("char", 2)]) (g := (gName 2)) (tt := tYes) (te := (tTup (tCons (tC (.str "letter")) (tCons (tVar 1) (tCons (tVar 2) tNil))))) (by rfl) sc.nd (pi_str (pe_ix ix_seq (pv 0) pe_int (fun _ _ => rfl))) (blkOk_by (N := N__law_own) (sc := C8.fnScope s__law_own) (by decide +kernel)) (fun _ _ _ _ _ => pg_name (i := 2) sc.nd rfl (by first | exact Or.inl rfl | exact Or.inr rfl)) (fun _ _ _ _ _ => pts_nil) (fun _ _ _ _ _ => (pe_tup (pa_cons pe_str (pa_cons (pv 1) (pa_cons (pv 2) pa_nil)))))))) pss_nil)
      (pss_cons (ps_if (PW.pt (pw_or (pt_cmpR op_eq (pe_ix ix_seq (pv 0) pe_int (fun _ _ => rfl)) pe_str (nomark _)) (pw_or1 (pt_cmpR op_eq (pe_ix ix_seq (pv 0) pe_int (fun _ _ => rfl)) pe_str (nomark _))))) (pss_one (ps_ret (pe_lst (pa_cons (pe_tup (pa_cons (pe_ix ix_seq (pv 0) pe_int (fun _ _ => rfl)) (pa_cons (pe_ix ix_seq (pv 0) pe_int (fun _ _ => rfl)) pa_nil))) pa_nil)))) pss_nil)
      (pss_one (ps_ret (pe_lst pa_nil))))), ?_⟩
  try dsimp only [L2.cxOf]
  obtain ⟨x, f, rfl, ok, post⟩ := h
  show WS (g0 K p) _ [.d (encSt x), .d (.str f), .any] _
  cases x with
  | opn =>
    simp only [encSt]
    repeat walk_at "y"
    exact post
  | shut =>
    simp only [encSt]
    repeat walk_at "y"
    exact post
  | leaf x =>
    cases x with
    | strong xs => exact ok.elim
    | word z =>
      simp only [encSt, encI]
      repeat walk_at "y"
      refine we_lcM (fun x => .tup [.str "letter", .str f, x]) ?_
      refine wi_str ?_
      repeat walk_at "y"
      have hz : (signsD z).length ≤ 12 := by have := ok.2; simpa [signsD, Str.length] using this
      refine ⟨by show _ ≤ 16777216; omega, fun i x hx => ⟨[2], by simp, wg_name ?_⟩, rfl, ?_⟩
      · dsimp only [List.map, wipeS, List.set]
        repeat walk_at "y"
      · have e : (signsD z).map (fun x => Y.D.tup [.str "letter", .str f, x]) = (ownOf f (.leaf (.word z))).map encS := by
          simp [signsD, ownOf, solidsIn, encS]
        rw [e]
        exact post
    | _ =>
      simp only [encSt, encI]
      repeat walk_at "y"
      exact post
theorem cal__law_joint (D : Dn K mg "_law_joint" s__law_joint ["rank", "room", "left", "right"]) (hB : Blt mg) : C8.Cal P w K mg base 1 "_law_joint" (FSp K spLJ) [] := by
  have sc := sc__law_joint
  refine D.cal sc (fun p rs Φ h => ?_) fun f cdv A outer st H E hr p rs Φ h => ?_
  · obtain ⟨_, _, _, _, _, _, e, _⟩ := h; rw [e]; rfl
  refine ⟨_, (pss_cons (ps_if (pt_cmpR op_eq (pv 0) pe_int (nomark _)) (pss_one (ps_ret (pe_tup (pa_cons pe_str pa_nil)))) pss_nil)
      (pss_cons (ps_if (pt_cmpR op_gt (pv 0) pe_int (nomark _)) (pss_one (ps_ret (pe_tup (pa_cons (pe_ix ix_seq (pe_lst (pa_cons pe_str (pa_cons pe_str pa_nil))) (pe_op op_sub (pv 0) pe_int) (fun _ _ => rfl)) (pa_cons (pv 1) pa_nil))))) pss_nil)
      (pss_cons (ps_if (PW.pt (pw_and (pt_cmpR op_eq (pv 0) pe_int (nomark _)) (pw_and (pt_cmpR op_eq (pv 2) pe_str (nomark _)) (pw_and1 (pt_cmpR op_eq (pv 3) pe_str (nomark _)))))) (pss_one (ps_ret (pe_tup (pa_cons pe_str pa_nil)))) pss_nil)
      (pss_one (ps_ret (pe_tup (pa_cons pe_str pa_nil))))))), ?_⟩
  try dsimp only [L2.cxOf]
  obtain ⟨rank, room, l, r, lk, rk, rfl, hlk, hrk, h4, post⟩ := h
  show WS (g0 K p) _ [.d (.int rank), .d (.str room), .d (.str lk), .d (.str rk)] _
  match rank, h4, post with
  | 4, _, post =>
    repeat walk_at "y"
    exact post
  | 3, _, post =>
    repeat walk_at "y"
    exact post
  | 2, _, post =>
    repeat walk_at "y"
    exact post
  | 1, _, post =>
    repeat walk_at "y"
    rw [hlk]
    have no : ¬ (isLetter l = true ∧ isLetter r = true) → Φ (.d (encJ .none)) := fun hn => by
      have e : dueJ 1 room l r = .none := by
        unfold dueJ
        rw [if_neg (by decide), if_neg (by decide), if_neg (by decide), if_neg fun h => hn h.2]
      rw [e] at post
      exact post
    cases hl1 : isLetter l with
    | false =>
      repeat walk_at "y"
      exact no fun h => by rw [hl1] at h; cases h.1
    | true =>
      repeat walk_at "y"
      rw [hrk]
      cases hr1 : isLetter r with
      | false =>
        repeat walk_at "y"
        exact no fun h => by rw [hr1] at h; cases h.2
      | true =>
        repeat walk_at "y"
        have e : dueJ 1 room l r = .hyph := by
          unfold dueJ
          rw [if_neg (by decide), if_neg (by decide), if_neg (by decide), if_pos ⟨rfl, hl1, hr1⟩]
        rw [e] at post
        exact post
  | 0, _, post =>
    repeat walk_at "y"
    exact post
end
end Y

set_option maxHeartbeats 4000000
namespace Y
open PySem L2 PySem.Spec PyProof.Rows
local macro_rules | `(tactic| walk_at "y1") => `(tactic| first
  | with_reducible refine ws_asg ?_
  | with_reducible refine ws_next ?_
  | with_reducible refine ws_brk ?_
  | with_reducible refine ws_cont ?_
  | with_reducible refine ws_if ?_
  | ((with_reducible refine' ws_setL ?e ?_); (case e => rfl))
  | ((with_reducible refine' ws_app ?e ?_); (case e => rfl))
  | ((with_reducible refine' ws_ext ?e ?_); (case e => rfl))
  | with_reducible refine ws_asgG ?_
  | ((with_reducible refine' ws_retOwn ?e ?_); (case e => rfl))
  | with_reducible refine ws_ret ?_
  | with_reducible refine ws_retN ?_
  | with_reducible refine ws_drop ?_)
local macro_rules | `(tactic| walk_at "y2") => `(tactic| first
  | ((with_reducible refine' we_d ?e ?_); (case e => rfl))
  | ((with_reducible refine' we_raw ?e ?_); (case e => rfl))
  | ((with_reducible refine' we_ro ?e ?_); (case e => rfl))
  | ((with_reducible refine' we_m ?e ?_); (case e => rfl))
  | with_reducible refine we_cint ?_
  | with_reducible refine we_cstr ?_
  | with_reducible refine we_cbl ?_
  | with_reducible refine we_cnon ?_
  | with_reducible refine we_op ?_
  | with_reducible refine we_un ?_
  | with_reducible refine we_cb ?_
  | with_reducible refine we_tup ?_
  | with_reducible refine we_lst ?_
  | with_reducible refine wa_nil ?_
  | with_reducible refine wa_cons ?_
  | with_reducible refine we_bm0 ?_
  | with_reducible refine we_bm ?_
  | with_reducible refine we_m0 ?_
  | with_reducible refine we_m1 ?_
  | with_reducible refine we_sl ?_
  | with_reducible refine wo_none ?_
  | with_reducible refine wo_some ?_
  | with_reducible refine we_fld ?_
  | with_reducible refine we_call ?_
  | with_reducible refine we_mk ?_
  | with_reducible refine we_mkS ?_
  | with_reducible refine wt_test ?_
  | with_reducible refine wt_val ?_
  | with_reducible refine wt_and ?_
  | with_reducible refine wt_or ?_
  | with_reducible refine wt_not ?_
  | with_reducible refine wt_yes ?_
  | with_reducible refine wt_truth ?_
  | with_reducible refine we_andV ?_
  | with_reducible refine we_orV ?_
  | with_reducible refine we_notV ?_
  | with_reducible refine we_if ?_
  | with_reducible refine we_craw ?_)
local macro_rules | `(tactic| walk_at "y3") => `(tactic| first
  | with_reducible refine ro_plusI ?_
  | with_reducible refine ro_eqI ?_
  | with_reducible refine ro_eqS ?_
  | with_reducible refine ro_neI ?_
  | with_reducible refine ro_neS ?_
  | ((with_reducible refine' ro_I0 ?e ?_); (case e => rfl))
  | ((with_reducible refine' ro_I ?c ?e ?_); (case e => rfl); (case c => first | decide | omega | exact Or.inr (by decide) | exact Or.inl (by decide) | exact ⟨by decide, by decide +kernel⟩ | exact ⟨by decide, by decide, by decide⟩ | exact Or.inl ⟨by omega, by omega⟩ | exact Or.inr ⟨by omega, by omega⟩ | assumption))
  | ((with_reducible refine' ro_ix1 ?a ?b ?_); (case a => rfl); (case b => first | exact at0 | rfl))
  | ((with_reducible refine' ro_ix2 ?b ?_); (case b => first | exact at0 | rfl))
  | with_reducible refine ro_isN ?_
  | with_reducible refine ro_isA ?_
  | ((with_reducible refine' rc_len1 ?a ?_); (case a => first | exact Or.inl rfl | exact Or.inr rfl))
  | ((with_reducible refine' rc_isi ?a ?b ?_); (case a => rfl); (case b => first | exact kit_NoneType_int | exact kit_NoneType_bool | exact kit_NoneType_str | exact kit_NoneType_tuple | exact kit_NoneType_list | exact kit_bool_int | exact kit_bool_bool | exact kit_bool_str | exact kit_bool_tuple | exact kit_bool_list | exact kit_int_int | exact kit_int_bool | exact kit_int_str | exact kit_int_tuple | exact kit_int_list | exact kit_str_int | exact kit_str_bool | exact kit_str_str | exact kit_str_tuple | exact kit_str_list | exact kit_tuple_int | exact kit_tuple_bool | exact kit_tuple_str | exact kit_tuple_tuple | exact kit_tuple_list | exact kit_list_int | exact kit_list_bool | exact kit_list_str | exact kit_list_tuple | exact kit_list_list))
  | with_reducible refine rcA_abs ?_
  | with_reducible refine rcA_max ?_
  | with_reducible refine rcA_min ?_
  | with_reducible refine rcA_intI ?_
  | with_reducible refine rcA_intB ?_
  | ((with_reducible refine' rcA_list ?a ?_); (case a => first | exact Or.inl rfl | exact Or.inr rfl))
  | ((with_reducible refine' rcA_tuple ?a ?_); (case a => first | exact Or.inl rfl | exact Or.inr rfl)))
local macro_rules | `(tactic| walk_at "y4") => `(tactic| first
  | ((with_reducible refine' ite_t ?e ?_); (case e => rfl))
  | ((with_reducible refine' ite_f ?e ?_); (case e => rfl))
  | refine ⟨_, rfl, (show _ ≤ sizeLine by simp only [List.length_cons, List.length_nil]; decide), ?_⟩
  | refine ⟨_, rfl, ?_⟩
  | refine ⟨rfl, ?_⟩
  | refine ⟨_, _, rfl, rfl, ?_⟩)
local macro_rules | `(tactic| walk_at "z") => `(tactic| ((first | walk_at "y1" | walk_at "y2" | walk_at "y3" | walk_at "y4"); try dsimp only [List.set, Int.reduceToNat]))
local macro_rules | `(tactic| walk_at "y") => `(tactic| first | walk_at "z" | (with_reducible refine ws_seq ?_))
local macro_rules | `(tactic| walk_at "s") => `(tactic| ((with_reducible refine ws_seq ?_); repeat walk_at "z"))

abbrev s__law_due : Stmt := top 29
abbrev N__law_due : List Str := ["told", "steps", "ranks", "solids", "joints", "marks", "deep", "rank", "room", "step", "font", "solid"]
theorem sc__law_due : FnScope N__law_due ["told", "steps"] (C8.fnScope s__law_due) := C8.fnScope_by (by decide +kernel)
def ranksD : List D := [.str "hyph", .str "gap", .str "tie", .str "cut"]
def dueOf (f g : Str) (ss : List St) : SS := (emit f g 0 ss).foldl step1 ⟨[], [], [], []⟩
def spDue : DSp := fun _ rs Φ => ∃ (a : D) (f g : Str) (rest : List D) (ss : List St), rs = [.d (.tup (a :: .str f :: .str g :: rest)), .l (ss.map encSt)] ∧ f ≠ "" ∧ g ≠ "" ∧ Steps ss ∧ Φ (.d (encSS (dueOf f g ss)))
def svD (t : D) (ss : List St) (s : SS) (d : Int) (r : List Sv) : List Sv := [.d t, .ro (ss.map encSt), .own ranksD, .own (s.so.map encS), .own (s.jo.map encJ), .own (s.ma.map encM), .d (.int d), .d (.int (rankOf s.bt)), .d (.str (roomD s.bt))] ++ r
def markSt (s : SS) : St → SS
  | .leaf x => addMark s x | _ => s
def btSt (s : SS) (f : Str) : St → SS
  | .leaf x => addBt s f x | _ => s
theorem emit_one (f g : Str) (d e : Nat) (st : St) (s : SS) (ok : okSt st) (hr : runS d [st] = some e) : (emit f g d [st]).foldl step1 s = (ownOf (if e = 0 then f else g) st).foldl addSolid (btSt (markSt s st) (if e = 0 then f else g) st) := by
  cases st with
  | leaf x => cases hr; simp only [emit, List.foldl_cons, List.foldl_nil, step1_eq]; rfl
  | opn => rfl
  | shut => rfl
theorem roomD_snoc {bs : List (Bt × Str)} {b : Bt} {f : Str} (h : ∀ c ∈ bs, c.2 ≠ "") (hb : b = .gap ∨ b = .tie) : roomD (bs ++ [(b, f)]) = if roomD bs = Str.ofString "" then f else roomD bs := by
  unfold roomD
  rw [roomOf_snoc]
  cases e : roomOf bs with
  | none => dsimp only [Option.getD]; rw [if_pos hb]; rfl
  | some r => dsimp only [Option.getD]; rw [if_neg (roomOf_ne h e)]
theorem roomD_snoc2 {bs : List (Bt × Str)} {b : Bt} {f : Str} (hb : ¬ (b = .gap ∨ b = .tie)) : roomD (bs ++ [(b, f)]) = roomD bs := by
  unfold roomD
  rw [roomOf_snoc]
  cases e : roomOf bs with
  | none => dsimp only; rw [if_neg hb]
  | some r => rfl
section
variable {P : Program} {w : World} {K : PySem.W.Frag} {mg : Str → Option Value} {base : Heap}
theorem cal__law_due (D : Dn K mg "_law_due" s__law_due ["told", "steps"]) (hB : Blt mg) (c__law_own : C8.Cal P w K mg base 1 "_law_own" (FSp K spOwn) []) (c__law_joint : C8.Cal P w K mg base 1 "_law_joint" (FSp K spLJ) []) : C8.Cal P w K mg base 2 "_law_due" (FSp K spDue) [] := by
  have sc := sc__law_due
  refine D.cal sc (fun p rs Φ h => ?_) fun f cdv A outer st H E hr p rs Φ h => ?_
  · obtain ⟨a, f, g, rest, ss, e, _⟩ := h; rw [e]; rfl
  refine ⟨_, (pss_cons (ps_set (i := 2) sc.nd rfl (by first | exact Or.inl rfl | exact Or.inr rfl) (pe_lst (pa_cons pe_str (pa_cons pe_str (pa_cons pe_str (pa_cons pe_str pa_nil))))))
      (pss_cons (ps_set (i := 3) sc.nd rfl (by first | exact Or.inl rfl | exact Or.inr rfl) (pe_lst pa_nil))
      (pss_cons (ps_set (i := 4) sc.nd rfl (by first | exact Or.inl rfl | exact Or.inr rfl) (pe_lst pa_nil))
      (pss_cons (ps_set (i := 5) sc.nd rfl (by first | exact Or.inl rfl | exact Or.inr rfl) (pe_lst pa_nil))
      (pss_cons (ps_set (i := 6) sc.nd rfl (by first | exact Or.inl rfl | exact Or.inr rfl) pe_int)
      (pss_cons (ps_set (i := 7) sc.nd rfl (by first | exact Or.inl rfl | exact Or.inr rfl) pe_int)
      (pss_cons (ps_set (i := 8) sc.nd rfl (by first | exact Or.inl rfl | exact Or.inr rfl) pe_str)
      (pss_cons (ps_for PassesOwn.never rfl (pi_list (pv 1)) (pg_name (i := 9) sc.nd rfl (by first | exact Or.inl rfl | exact Or.inr rfl)) (pss_cons (ps_set (i := 6) sc.nd rfl (by first | exact Or.inl rfl | exact Or.inr rfl) (pe_op op_sub (pe_op op_plus (pv 6) (pe_callTy call_intA (by rfl) hB.int (by decide +kernel) (pa_cons (pe_cmpR op_eq (pe_ix ix_seq (pv 9) pe_int (fun _ _ => rfl)) pe_str (nomark _)) pa_nil))) (pe_callTy call_intA (by rfl) hB.int (by decide +kernel) (pa_cons (pe_cmpR op_eq (pe_ix ix_seq (pv 9) pe_int (fun _ _ => rfl)) pe_str (nomark _)) pa_nil))))
      (pss_cons (ps_set (i := 10) sc.nd rfl (by first | exact Or.inl rfl | exact Or.inr rfl) (pe_ix ix_seq (pv 0) (pe_op op_plus pe_int (pe_callTy call_intA (by rfl) hB.int (by decide +kernel) (pa_cons (pe_cmpR op_gt (pv 6) pe_int (nomark _)) pa_nil))) (fun _ _ => rfl)))
      (pss_cons (ps_if (pt_cmpR op_eq (pe_ix ix_seq (pv 9) pe_int (fun _ _ => rfl)) pe_str (nomark _)) (pss_one (ps_expr (pe_bm PySem.F.plainAttrs_list PySem.F.slot_list_append PySem.F.type_list_append mt_append (pv 5) (pa_cons (pe_tup (pa_cons (pe_callB (call_maxA (by rfl)) (by rfl) hB.max (by decide +kernel) (pa_cons pe_int (pa_cons (pe_op op_sub (pe_callB call_lenA (by rfl) hB.len PySem.boot_len (pa_cons (pv 3) pa_nil)) pe_int) pa_nil))) (pa_cons (pe_ix ix_seq (pv 9) pe_int (fun _ _ => rfl)) pa_nil))) pa_nil)))) pss_nil)
      (pss_cons (ps_if (pt_cmpR op_in_seq (pe_ix ix_seq (pv 9) pe_int (fun _ _ => rfl)) (pv 2) rfl) (pss_one (ps_set (i := 7) sc.nd rfl (by first | exact Or.inl rfl | exact Or.inr rfl) (pe_callB (call_maxA (by rfl)) (by rfl) hB.max (by decide +kernel) (pa_cons (pv 7) (pa_cons (pe_op op_plus pe_int (pe_bm PySem.F.plainAttrs_list PySem.F.slot_list_index PySem.F.type_list_index mt_index (pv 2) (pa_cons (pe_ix ix_seq (pv 9) pe_int (fun _ _ => rfl)) pa_nil))) pa_nil))))) pss_nil)
      (pss_cons (ps_if (PW.pt (pw_and (pt_cmpR op_in_seq (pe_ix ix_seq (pv 9) pe_int (fun _ _ => rfl)) (pe_tup (pa_cons pe_str (pa_cons pe_str pa_nil))) rfl) (pw_and1 (pt_cmpR op_eq (pv 8) pe_str (nomark _))))) (pss_one (ps_set (i := 8) sc.nd rfl (by first | exact Or.inl rfl | exact Or.inr rfl) (pv 10))) pss_nil)
      (pss_one (ps_for PassesOwn.never rfl (pi_list (C8.pe_c c__law_own hr (by first | decide | omega) rfl (pa_cons (pv 9) (pa_cons (pv 10) pa_nil)))) (pg_name (i := 11) sc.nd rfl (by first | exact Or.inl rfl | exact Or.inr rfl)) (pss_cons (ps_if (pt_truth (pv 3) (fun _ => rfl)) (pss_one (ps_expr (pe_bm PySem.F.plainAttrs_list PySem.F.slot_list_append PySem.F.type_list_append mt_append (pv 4) (pa_cons (C8.pe_c c__law_joint hr (by first | decide | omega) rfl (pa_cons (pv 7) (pa_cons (pv 8) (pa_cons (pe_ix ix_seq (pe_ix ix_seq (pv 3) (pe_un un_neg pe_int) (fun _ _ => rfl)) pe_int (fun _ _ => rfl)) (pa_cons (pe_ix ix_seq (pv 11) pe_int (fun _ _ => rfl)) pa_nil))))) pa_nil)))) pss_nil)
      (pss_cons (ps_expr (pe_bm PySem.F.plainAttrs_list PySem.F.slot_list_append PySem.F.type_list_append mt_append (pv 3) (pa_cons (pv 11) pa_nil)))
      (pss_cons (ps_set (i := 7) sc.nd rfl (by first | exact Or.inl rfl | exact Or.inr rfl) pe_int)
      (pss_one (ps_set (i := 8) sc.nd rfl (by first | exact Or.inl rfl | exact Or.inr rfl) pe_str)))))))))))))
      (pss_one (ps_ret (pe_tup (pa_cons (pe_callTy call_tupleA (by rfl) hB.tuple (by decide +kernel) (pa_cons (pv 3) pa_nil)) (pa_cons (pe_callTy call_tupleA (by rfl) hB.tuple (by decide +kernel) (pa_cons (pv 4) pa_nil)) (pa_cons (pe_callTy call_tupleA (by rfl) hB.tuple (by decide +kernel) (pa_cons (pv 5) pa_nil)) pa_nil)))))))))))))), ?_⟩
  try dsimp only [L2.cxOf]
  obtain ⟨a, f, g, rest, ss, rfl, nf, ng, hS, post⟩ := h
  show WS (g0 K p) _ [.d (.tup (a :: .str f :: .str g :: rest)), .ro (ss.map encSt), .any, .any, .any, .any, .any, .any, .any, .any, .any, .any] _
  repeat walk_at "y"
  refine ws_for ?_
  refine wi_list ?_
  repeat walk_at "y"
  have hlen := hS.len
  refine ⟨fun i sv => ∃ d x y z, runS 0 (ss.take i) = some d ∧ (∀ b ∈ (dueOf f g (ss.take i)).bt, b.2 ≠ "") ∧ sv = svD (.tup (a :: .str f :: .str g :: rest)) ss (dueOf f g (ss.take i)) (d : Nat) [x, y, z], ⟨0, _, _, _, rfl, (fun _ h => (nomatch h)), rfl⟩, fun i x sv' hx hI => ?_, fun sv' hI => ?_⟩
  · obtain ⟨d, x1, x2, x3, hd, hbt, rfl⟩ := hI
    rw [List.getElem?_map] at hx
    cases hxi : ss[i]? with
    | none => rw [hxi] at hx; cases hx
    | some s =>
      rw [hxi] at hx
      cases hx
      obtain ⟨hi, ez⟩ := List.getElem?_eq_some_iff.mp hxi
      have ok : okSt s := hS.ok s (List.mem_of_getElem? hxi)
      have et : ss.take (i + 1) = ss.take i ++ [s] := by rw [List.take_succ_eq_append_getElem hi, ez]
      obtain ⟨e, he⟩ : ∃ e, runS d [s] = some e := by
        have h0 := hS.run
        rw [← List.take_append_drop (i + 1) ss, runS_append, et, runS_append, hd] at h0
        cases q : runS d [s] with
        | some e => exact ⟨e, rfl⟩
        | none =>
          change (runS d [s]).bind _ = _ at h0
          rw [q] at h0; cases h0
      have he1 : runS 0 (ss.take (i + 1)) = some e := by rw [et, runS_append, hd]; exact he
      have iv : SInv (dueOf f g (ss.take i)) ((emit f g 0 (ss.take i)).map solN).sum (emit f g 0 (ss.take i)).length := by
        have := SInv.folds (emit f g 0 (ss.take i)) (s := ⟨[], [], [], []⟩) (n := 0) (i := 0) ⟨rfl, Nat.le_refl _, Nat.le_refl _, Nat.le_refl _⟩
        rw [Nat.zero_add, Nat.zero_add] at this
        exact this
      have b1 : ((emit f g 0 (ss.take i)).map solN).sum ≤ 12 * 100 := Nat.le_trans (emit_sum f g (ss.take i) 0 fun s hs => hS.ok s (List.mem_of_mem_take hs)) (by rw [List.length_take]; omega)
      have b2 : (emit f g 0 (ss.take i)).length ≤ 100 := Nat.le_trans (emit_len f g (ss.take i) 0) (by rw [List.length_take]; omega)
      have es : dueOf f g (ss.take (i + 1)) = (ownOf (if e = 0 then f else g) s).foldl addSolid (btSt (markSt (dueOf f g (ss.take i)) s) (if e = 0 then f else g) s) := by
        unfold dueOf
        rw [et, emit_append f g (ss.take i) [s] 0 d hd, List.foldl_append, emit_one f g d e s _ ok he]
      have l1 := iv.so; have l2 := iv.jo; have l3 := iv.ma; have l4 := iv.bt
      generalize dueOf f g (ss.take i) = u at hbt l1 l2 l3 l4 es ⊢
      refine ⟨_, wg_name ?_⟩
      show WS _ _ (svD (.tup (a :: .str f :: .str g :: rest)) ss u d [.d (encSt s), x2, x3]) _
      refine ws_cut (fun sv => sv = svD (.tup (a :: .str f :: .str g :: rest)) ss u e [.d (encSt s), x2, x3]) ?_ fun sv q => ?_
      · have close : ∀ (z : Int), z = e → (svD (.tup (a :: .str f :: .str g :: rest)) ss u z [.d (encSt s), x2, x3]) = svD (.tup (a :: .str f :: .str g :: rest)) ss u e [.d (encSt s), x2, x3] := fun z hz => by rw [hz]
        cases s with
        | opn =>
          have hde : e = d + 1 := by
            rw [runS] at he
            split at he
            · cases he; rfl
            · cases he
          simp only [encSt, svD, List.cons_append, List.nil_append] at close ⊢
          repeat walk_at "y"
          exact close _ (by rw [if_pos (by decide +kernel), if_neg (by decide +kernel)]; omega)
        | shut =>
          have hde : e + 1 = d := by
            cases d with
            | zero => cases he
            | succ d => cases he; rfl
          simp only [encSt, svD, List.cons_append, List.nil_append] at close ⊢
          repeat walk_at "y"
          exact close _ (by rw [if_neg (by decide +kernel), if_pos (by decide +kernel)]; omega)
        | leaf x =>
          cases he
          cases x with
          | strong _ => exact ok.elim
          | _ =>
            simp only [encSt, encI, svD, List.cons_append, List.nil_append] at close ⊢
            repeat walk_at "y"
            exact close _ (by rw [if_neg (by decide +kernel), if_neg (by decide +kernel)]; omega)
      subst q
      refine ws_cut (fun sv => sv = svD (.tup (a :: .str f :: .str g :: rest)) ss u e [.d (encSt s), .d (.str (if e = 0 then f else g)), x3]) ?_ fun sv q => ?_
      · simp only [svD, List.cons_append, List.nil_append]
        cases e with
        | zero =>
          repeat walk_at "y"
          refine ro_ix2 (d := .str f) (at_nat (j := 1) (by rw [if_neg (by decide)]; rfl) rfl) ?_
          rw [if_pos (show (0 : Nat) = 0 from rfl)]
          exact ⟨_, rfl, rfl⟩
        | succ e =>
          repeat walk_at "y"
          refine ro_ix2 (d := .str g) (at_nat (j := 2) (by rw [if_pos (decide_eq_true (by omega))]; rfl) rfl) ?_
          rw [if_neg (show ¬ (e + 1 = 0) by omega)]
          exact ⟨_, rfl, rfl⟩
      subst q
      have hfo : (if e = 0 then f else g) ≠ "" := by split <;> assumption
      generalize (if e = 0 then f else g) = fo at es hfo ⊢
      refine ws_cut (fun sv => sv = svD (.tup (a :: .str f :: .str g :: rest)) ss (markSt u s) e [.d (encSt s), .d (.str fo), x3]) ?_ fun sv q => ?_
      · cases s with
        | opn =>
          simp only [encSt, svD, List.cons_append, List.nil_append]
          repeat walk_at "y"
          rfl
        | shut =>
          simp only [encSt, svD, List.cons_append, List.nil_append]
          repeat walk_at "y"
          rfl
        | leaf x =>
          cases x with
          | strong _ => exact ok.elim
          | mark z =>
            simp only [encSt, encI, svD, List.cons_append, List.nil_append]
            repeat walk_at "y"
            have e1 : (if (((u.so.map encS).length : Int) - 1 > 0) then ((u.so.map encS).length : Int) - 1 else 0) = ((u.so.length - 1 : Nat) : Int) := by
              rw [List.length_map]; split <;> omega
            rw [e1]
            refine ⟨by rw [List.length_map]; show _ < 16777216; omega, ?_⟩
            simp only [markSt, addMark, List.map_append, List.map_cons, List.map_nil, encM]
          | _ =>
            simp only [encSt, encI, svD, List.cons_append, List.nil_append]
            repeat walk_at "y"
            rfl
      subst q
      have hm : (markSt u s).so = u.so ∧ (markSt u s).jo = u.jo ∧ (markSt u s).bt = u.bt := by
        cases s with
        | leaf x => exact ⟨(addMark_so u x).1, (addMark_so u x).2.1, (addMark_so u x).2.2.1⟩
        | _ => exact ⟨rfl, rfl, rfl⟩
      have m1 : (markSt u s).so.length ≤ 1200 := by rw [hm.1]; omega
      have m2 : (markSt u s).jo.length ≤ (markSt u s).so.length := by rw [hm.1, hm.2.1]; omega
      have m3 : ∀ b ∈ (markSt u s).bt, b.2 ≠ "" := by rw [hm.2.2]; exact hbt
      generalize markSt u s = v at es m1 m2 m3 ⊢
      refine ws_cut (fun sv => sv = [.d (.tup (a :: .str f :: .str g :: rest)), .ro (ss.map encSt), .own ranksD, .own (v.so.map encS), .own (v.jo.map encJ), .own (v.ma.map encM), .d (.int (e : Nat)), .d (.int (rankOf (btSt v fo s).bt)), .d (.str (roomD v.bt)), .d (encSt s), .d (.str fo), x3]) ?_ fun sv q => ?_
      · have close : ∀ (z : Int), z = (rankOf (btSt v fo s).bt : Nat) → ([.d (.tup (a :: .str f :: .str g :: rest)), .ro (ss.map encSt), .own ranksD, .own (v.so.map encS), .own (v.jo.map encJ), .own (v.ma.map encM), .d (.int (e : Nat)), .d (.int z), .d (.str (roomD v.bt)), .d (encSt s), .d (.str fo), x3] : List Sv) =
            [.d (.tup (a :: .str f :: .str g :: rest)), .ro (ss.map encSt), .own ranksD, .own (v.so.map encS), .own (v.jo.map encJ), .own (v.ma.map encM), .d (.int (e : Nat)), .d (.int (rankOf (btSt v fo s).bt)), .d (.str (roomD v.bt)), .d (encSt s), .d (.str fo), x3] := fun z hz => by rw [hz]
        have snoc : ∀ b : Bt, (if (1 + ((rankB b - 1 : Nat) : Int)) > (rankOf v.bt : Nat) then (1 + ((rankB b - 1 : Nat) : Int)) else (rankOf v.bt : Nat)) = ((rankOf (v.bt ++ [(b, fo)]) : Nat) : Int) := fun b => by
          rw [rankOf_snoc]
          have : 0 < rankB b := by cases b <;> decide
          dsimp only
          split <;> omega
        cases s with
        | opn =>
          simp only [encSt, svD, List.cons_append, List.nil_append] at close ⊢
          repeat walk_at "y"
          refine ro_inS (ss := ["hyph", "gap", "tie", "cut"]) (.inl rfl) ?_
          repeat walk_at "y"
          rfl
        | shut =>
          simp only [encSt, svD, List.cons_append, List.nil_append] at close ⊢
          repeat walk_at "y"
          refine ro_inS (ss := ["hyph", "gap", "tie", "cut"]) (.inl rfl) ?_
          repeat walk_at "y"
          rfl
        | leaf x =>
          cases x with
          | strong _ => exact ok.elim
          | hyph =>
            simp only [encSt, encI, svD, List.cons_append, List.nil_append] at close ⊢
            repeat walk_at "y"
            refine ro_inS (ss := ["hyph", "gap", "tie", "cut"]) (.inl rfl) ?_
            repeat walk_at "y"
            refine ⟨⟨rfl, rfl⟩, ?_⟩
            repeat walk_at "y"
            refine rm_index (ss := ["hyph", "gap", "tie", "cut"]) (j := 0) rfl rfl (by decide +kernel) ?_
            repeat walk_at "y"
            exact close _ (snoc .hyph)
          | gap =>
            simp only [encSt, encI, svD, List.cons_append, List.nil_append] at close ⊢
            repeat walk_at "y"
            refine ro_inS (ss := ["hyph", "gap", "tie", "cut"]) (.inl rfl) ?_
            repeat walk_at "y"
            refine ⟨⟨rfl, rfl⟩, ?_⟩
            repeat walk_at "y"
            refine rm_index (ss := ["hyph", "gap", "tie", "cut"]) (j := 1) rfl rfl (by decide +kernel) ?_
            repeat walk_at "y"
            exact close _ (snoc .gap)
          | tie =>
            simp only [encSt, encI, svD, List.cons_append, List.nil_append] at close ⊢
            repeat walk_at "y"
            refine ro_inS (ss := ["hyph", "gap", "tie", "cut"]) (.inl rfl) ?_
            repeat walk_at "y"
            refine ⟨⟨rfl, rfl⟩, ?_⟩
            repeat walk_at "y"
            refine rm_index (ss := ["hyph", "gap", "tie", "cut"]) (j := 2) rfl rfl (by decide +kernel) ?_
            repeat walk_at "y"
            exact close _ (snoc .tie)
          | cut =>
            simp only [encSt, encI, svD, List.cons_append, List.nil_append] at close ⊢
            repeat walk_at "y"
            refine ro_inS (ss := ["hyph", "gap", "tie", "cut"]) (.inl rfl) ?_
            repeat walk_at "y"
            refine ⟨⟨rfl, rfl⟩, ?_⟩
            repeat walk_at "y"
            refine rm_index (ss := ["hyph", "gap", "tie", "cut"]) (j := 3) rfl rfl (by decide +kernel) ?_
            repeat walk_at "y"
            exact close _ (snoc .cut)
          | _ =>
            simp only [encSt, encI, svD, List.cons_append, List.nil_append] at close ⊢
            repeat walk_at "y"
            refine ro_inS (ss := ["hyph", "gap", "tie", "cut"]) (.inl rfl) ?_
            repeat walk_at "y"
            rfl
      subst q
      refine ws_cut (fun sv => sv = svD (.tup (a :: .str f :: .str g :: rest)) ss (btSt v fo s) e [.d (encSt s), .d (.str fo), x3]) ?_ fun sv q => ?_
      · cases s with
        | opn =>
          simp only [encSt, svD, List.cons_append, List.nil_append]
          repeat walk_at "y"
          refine ro_inS (ss := ["gap", "tie"]) (.inr rfl) ?_
          repeat walk_at "y"
          rfl
        | shut =>
          simp only [encSt, svD, List.cons_append, List.nil_append]
          repeat walk_at "y"
          refine ro_inS (ss := ["gap", "tie"]) (.inr rfl) ?_
          repeat walk_at "y"
          rfl
        | leaf x =>
          cases x with
          | strong _ => exact ok.elim
          | gap =>
            simp only [encSt, encI, svD, List.cons_append, List.nil_append]
            repeat walk_at "y"
            refine ro_inS (ss := ["gap", "tie"]) (.inr rfl) ?_
            repeat walk_at "y"
            refine ifD (p := roomD v.bt = Str.ofString "") (fun h => ?_) (fun h => ?_)
            · repeat walk_at "y"
              simp only [btSt, addBt, btOf]
              rw [roomD_snoc m3 (.inl rfl), if_pos h]
            · repeat walk_at "y"
              simp only [btSt, addBt, btOf]
              rw [roomD_snoc m3 (.inl rfl), if_neg h]
          | tie =>
            simp only [encSt, encI, svD, List.cons_append, List.nil_append]
            repeat walk_at "y"
            refine ro_inS (ss := ["gap", "tie"]) (.inr rfl) ?_
            repeat walk_at "y"
            refine ifD (p := roomD v.bt = Str.ofString "") (fun h => ?_) (fun h => ?_)
            · repeat walk_at "y"
              simp only [btSt, addBt, btOf]
              rw [roomD_snoc m3 (.inr rfl), if_pos h]
            · repeat walk_at "y"
              simp only [btSt, addBt, btOf]
              rw [roomD_snoc m3 (.inr rfl), if_neg h]
          | hyph =>
            simp only [encSt, encI, svD, List.cons_append, List.nil_append]
            repeat walk_at "y"
            refine ro_inS (ss := ["gap", "tie"]) (.inr rfl) ?_
            repeat walk_at "y"
            simp only [btSt, addBt, btOf]
            rw [roomD_snoc2 (by simp)]
          | cut =>
            simp only [encSt, encI, svD, List.cons_append, List.nil_append]
            repeat walk_at "y"
            refine ro_inS (ss := ["gap", "tie"]) (.inr rfl) ?_
            repeat walk_at "y"
            simp only [btSt, addBt, btOf]
            rw [roomD_snoc2 (by simp)]
          | _ =>
            simp only [encSt, encI, svD, List.cons_append, List.nil_append]
            repeat walk_at "y"
            refine ro_inS (ss := ["gap", "tie"]) (.inr rfl) ?_
            repeat walk_at "y"
            rfl
      subst q
      have hn : (btSt v fo s).so = v.so ∧ (btSt v fo s).jo = v.jo := by
        cases s with
        | leaf x => exact ⟨(addBt_so v fo x).1, (addBt_so v fo x).2.1⟩
        | _ => exact ⟨rfl, rfl⟩
      have n3 : ∀ b ∈ (btSt v fo s).bt, b.2 ≠ "" := by
        cases s with
        | leaf x => exact addBt_fonts x hfo m3
        | _ => exact m3
      have n1 : (btSt v fo s).so.length ≤ 1200 := by rw [hn.1]; exact m1
      have n2 : (btSt v fo s).jo.length ≤ (btSt v fo s).so.length := by rw [hn.1, hn.2]; exact m2
      have no : (ownOf fo s).length ≤ 12 := by
        cases s with
        | leaf x => exact solN_le (p := (x, fo)) ok
        | _ => exact Nat.zero_le _
      generalize btSt v fo s = y at es n1 n2 n3 ⊢
      refine ws_for ?_
      refine wi_list ?_
      simp only [svD, List.cons_append, List.nil_append]
      repeat walk_at "y"
      refine ⟨_, .cons (.d _) (.cons (.d _) .nil), s, fo, rfl, ok, _, rfl, ?_⟩
      refine ⟨fun j sv => ∃ x3, sv = svD (.tup (a :: .str f :: .str g :: rest)) ss (((ownOf fo s).take j).foldl addSolid y) e [.d (encSt s), .d (.str fo), x3], ⟨_, rfl⟩, fun j z sv' hz hI => ?_, fun sv' hI => ?_⟩
      · obtain ⟨x3, rfl⟩ := hI
        rw [List.getElem?_map] at hz
        cases hzj : (ownOf fo s)[j]? with
        | none => rw [hzj] at hz; cases hz
        | some q =>
          rw [hzj] at hz
          cases hz
          obtain ⟨hj, ej⟩ := List.getElem?_eq_some_iff.mp hzj
          have et : ((ownOf fo s).take (j + 1)).foldl addSolid y = addSolid (((ownOf fo s).take j).foldl addSolid y) q := by
            rw [List.take_succ_eq_append_getElem hj, List.foldl_append, ej]; rfl
          dsimp only
          rw [et]
          have c1 : (((ownOf fo s).take j).foldl addSolid y).so.length ≤ 1300 := by rw [fold_so, List.length_append, List.length_take]; omega
          have c2 := fold_jo ((ownOf fo s).take j) y n2
          generalize ((ownOf fo s).take j).foldl addSolid y = y at c1 c2 ⊢
          refine ⟨_, wg_name ?_⟩
          show WS _ _ (svD (.tup (a :: .str f :: .str g :: rest)) ss y e [.d (encSt s), .d (.str fo), .d (encS q)]) _
          rcases List.eq_nil_or_concat y.so with hn | ⟨ini, la, hn⟩
          · have e2 : addSolid y q = ⟨[q], y.jo, y.ma, []⟩ := by unfold addSolid; rw [hn]; rfl
            rw [e2]
            simp only [svD, List.cons_append, List.nil_append, hn, List.map_nil]
            repeat walk_at "y"
            exact ⟨_, rfl⟩
          · have e2 : addSolid y q = ⟨y.so ++ [q], y.jo ++ [jointOf la q y.bt], y.ma, []⟩ := by unfold addSolid; rw [hn]; simp
            rw [e2]
            have hlast : (y.so.map encS).getLast? = some (encS la) := by rw [hn]; simp
            simp only [svD, List.cons_append, List.nil_append, List.map_append, List.map_cons, List.map_nil]
            have hll : (y.so.map encS).length ≤ 1300 := by rw [List.length_map]; exact c1
            obtain ⟨d0, dr, hd0⟩ : ∃ d0 dr, y.so.map encS = d0 :: dr := by
              cases z : y.so.map encS with
              | nil => rw [z] at hlast; cases hlast
              | cons d0 dr => exact ⟨d0, dr, rfl⟩
            rw [hd0] at hlast hll ⊢
            obtain ⟨lk, lr, el, hlk⟩ := encS_kind la
            obtain ⟨rk, rr, er, hrk⟩ := encS_kind q
            rw [el] at hlast
            rw [er]
            repeat walk_at "y"
            refine ru_I rfl ?_
            refine ro_ix1 rfl (at_last hlast) ?_
            repeat walk_at "y"
            refine ⟨_, .cons (.d _) (.cons (.d _) (.cons (.d _) (.cons (.d _) .nil))), rankOf y.bt, roomD y.bt, la, q, lk, rk, rfl, hlk, hrk, rank_le _, ?_⟩
            rw [dueJ_eq]
            repeat walk_at "y"
            refine ⟨by rw [List.length_map]; show _ < 16777216; omega, ?_⟩
            repeat walk_at "y"
            refine ⟨by show _ < 16777216; omega, ?_⟩
            repeat walk_at "y"
            exact ⟨_, rfl⟩
      · obtain ⟨x3, rfl⟩ := hI
        rw [List.length_map, List.take_length]
        refine ⟨e, .d (encSt s), .d (.str fo), x3, he1, ?_, by rw [es]; rfl⟩
        rw [es]
        exact fold_fonts _ n3
  · obtain ⟨d, x1, x2, x3, hd, hbt, rfl⟩ := hI
    rw [List.length_map, List.take_length]
    simp only [svD, List.cons_append, List.nil_append]
    repeat walk_at "y"
    exact post
end
end Y

set_option maxHeartbeats 4000000
namespace Y
open PySem L2 PySem.Spec PyProof.Rows
local macro_rules | `(tactic| walk_at "y1") => `(tactic| first
  | with_reducible refine ws_asg ?_
  | with_reducible refine ws_next ?_
  | with_reducible refine ws_brk ?_
  | with_reducible refine ws_cont ?_
  | with_reducible refine ws_if ?_
  | ((with_reducible refine' ws_setL ?e ?_); (case e => rfl))
  | ((with_reducible refine' ws_app ?e ?_); (case e => rfl))
  | ((with_reducible refine' ws_ext ?e ?_); (case e => rfl))
  | with_reducible refine ws_asgG ?_
  | ((with_reducible refine' ws_retOwn ?e ?_); (case e => rfl))
  | with_reducible refine ws_ret ?_
  | with_reducible refine ws_retN ?_
  | with_reducible refine ws_drop ?_)
local macro_rules | `(tactic| walk_at "y2") => `(tactic| first
  | ((with_reducible refine' we_d ?e ?_); (case e => rfl))
  | ((with_reducible refine' we_raw ?e ?_); (case e => rfl))
  | ((with_reducible refine' we_ro ?e ?_); (case e => rfl))
  | ((with_reducible refine' we_m ?e ?_); (case e => rfl))
  | with_reducible refine we_cint ?_
  | with_reducible refine we_cstr ?_
  | with_reducible refine we_cbl ?_
  | with_reducible refine we_cnon ?_
  | with_reducible refine we_op ?_
  | with_reducible refine we_un ?_
  | with_reducible refine we_cb ?_
  | with_reducible refine we_tup ?_
  | with_reducible refine we_lst ?_
  | with_reducible refine wa_nil ?_
  | with_reducible refine wa_cons ?_
  | with_reducible refine we_bm0 ?_
  | with_reducible refine we_bm ?_
  | with_reducible refine we_m0 ?_
  | with_reducible refine we_m1 ?_
  | with_reducible refine we_sl ?_
  | with_reducible refine wo_none ?_
  | with_reducible refine wo_some ?_
  | with_reducible refine we_fld ?_
  | with_reducible refine we_call ?_
  | with_reducible refine we_mk ?_
  | with_reducible refine we_mkS ?_
  | with_reducible refine wt_test ?_
  | with_reducible refine wt_val ?_
  | with_reducible refine wt_and ?_
  | with_reducible refine wt_or ?_
  | with_reducible refine wt_not ?_
  | with_reducible refine wt_yes ?_
  | with_reducible refine wt_truth ?_
  | with_reducible refine we_andV ?_
  | with_reducible refine we_orV ?_
  | with_reducible refine we_notV ?_
  | with_reducible refine we_if ?_
  | with_reducible refine we_craw ?_)
local macro_rules | `(tactic| walk_at "y3") => `(tactic| first
  | with_reducible refine ro_plusI ?_
  | with_reducible refine ro_eqI ?_
  | with_reducible refine ro_eqS ?_
  | with_reducible refine ro_neI ?_
  | with_reducible refine ro_neS ?_
  | ((with_reducible refine' ro_I0 ?e ?_); (case e => rfl))
  | ((with_reducible refine' ro_I ?c ?e ?_); (case e => rfl); (case c => first | decide | omega | exact Or.inr (by decide) | exact Or.inl (by decide) | exact ⟨by decide, by decide +kernel⟩ | exact ⟨by decide, by decide, by decide⟩ | exact Or.inl ⟨by omega, by omega⟩ | exact Or.inr ⟨by omega, by omega⟩ | assumption))
  | ((with_reducible refine' ro_ix1 ?a ?b ?_); (case a => rfl); (case b => first | exact at0 | rfl))
  | ((with_reducible refine' ro_ix2 ?b ?_); (case b => first | exact at0 | rfl))
  | with_reducible refine ro_isN ?_
  | with_reducible refine ro_isA ?_
  | ((with_reducible refine' rc_len1 ?a ?_); (case a => first | exact Or.inl rfl | exact Or.inr rfl))
  | ((with_reducible refine' rc_isi ?a ?b ?_); (case a => rfl); (case b => first | exact kit_NoneType_int | exact kit_NoneType_bool | exact kit_NoneType_str | exact kit_NoneType_tuple | exact kit_NoneType_list | exact kit_bool_int | exact kit_bool_bool | exact kit_bool_str | exact kit_bool_tuple | exact kit_bool_list | exact kit_int_int | exact kit_int_bool | exact kit_int_str | exact kit_int_tuple | exact kit_int_list | exact kit_str_int | exact kit_str_bool | exact kit_str_str | exact kit_str_tuple | exact kit_str_list | exact kit_tuple_int | exact kit_tuple_bool | exact kit_tuple_str | exact kit_tuple_tuple | exact kit_tuple_list | exact kit_list_int | exact kit_list_bool | exact kit_list_str | exact kit_list_tuple | exact kit_list_list))
  | with_reducible refine rcA_abs ?_
  | with_reducible refine rcA_max ?_
  | with_reducible refine rcA_min ?_
  | with_reducible refine rcA_intI ?_
  | with_reducible refine rcA_intB ?_
  | ((with_reducible refine' rcA_list ?a ?_); (case a => first | exact Or.inl rfl | exact Or.inr rfl))
  | ((with_reducible refine' rcA_tuple ?a ?_); (case a => first | exact Or.inl rfl | exact Or.inr rfl)))
local macro_rules | `(tactic| walk_at "y4") => `(tactic| first
  | ((with_reducible refine' ite_t ?e ?_); (case e => rfl))
  | ((with_reducible refine' ite_f ?e ?_); (case e => rfl))
  | refine ⟨_, rfl, (show _ ≤ sizeLine by simp only [List.length_cons, List.length_nil]; decide), ?_⟩
  | refine ⟨_, rfl, ?_⟩
  | refine ⟨rfl, ?_⟩
  | refine ⟨_, _, rfl, rfl, ?_⟩)
local macro_rules | `(tactic| walk_at "z") => `(tactic| ((first | walk_at "y1" | walk_at "y2" | walk_at "y3" | walk_at "y4"); try dsimp only [List.set, Int.reduceToNat]))
local macro_rules | `(tactic| walk_at "y") => `(tactic| first | walk_at "z" | (with_reducible refine ws_seq ?_))
local macro_rules | `(tactic| walk_at "s") => `(tactic| ((with_reducible refine ws_seq ?_); repeat walk_at "z"))

abbrev s__law_nested : Stmt := top 26
abbrev N__law_nested : List Str := ["steps", "rows", "step", "inner"]
theorem sc__law_nested : FnScope N__law_nested ["steps"] (C8.fnScope s__law_nested) := C8.fnScope_by (by decide +kernel)
/-! ### raw readings -/
section
variable {K : PySem.W.Frag} {σ : L2.St} {H : Hp} {Q : VK} {T : String} {to te : TE} {t : TA} {D : Ends}
theorem raw_bm {r : V → List V → Hp → VK → Prop} (h : to σ H fun x H1 => tyV K T x H1 ∧ t σ H1 fun xs H2 => r x xs H2 Q) : tBM K T r to t σ H Q := h
theorem raw_bm0 {r : V → List V → Hp → VK → Prop} (h : to σ H fun x H1 => tyV K T x H1 ∧ r x [] H1 Q) : tBM0 K T r to σ H Q := h
theorem raw_var {i : Nat} {v : V} (e : σ[i]? = some (some v)) (h : Q v H) : tVar i σ H Q := ⟨v, e, h⟩
theorem raw_cons {tr : TA} {Q : List V → Hp → Prop} (h : te σ H fun x H1 => tr σ H1 fun xs H2 => Q (x :: xs) H2) : tCons te tr σ H Q := h
theorem raw_nil {Q : List V → Hp → Prop} (h : Q [] H) : tNil σ H Q := h
theorem raw_lst (h : t σ H fun xs H1 => xs.length ≤ sizeLine ∧ ∀ p, H1 p = none → Q (.ref p) (upd H1 p (.lst xs))) : tLst t σ H Q := h
theorem raw_tup (h : t σ H fun xs H1 => xs.length ≤ sizeLine ∧ ∀ p, H1 p = none → Q (.ref p) (upd H1 p (.tup xs))) : tTup t σ H Q := h
theorem raw_op {r : R2} {ta tb : TE} (h : ta σ H fun x H1 => tb σ H1 fun y H2 => r x y H2 Q) : tOp r ta tb σ H Q := h
theorem raw_un {r : V → Hp → VK → Prop} (h : te σ H fun x H1 => r x H1 Q) : tUn r te σ H Q := h
theorem raw_c {v : V} (h : Q v H) : tC v σ H Q := h
theorem raw_cb {r : List V → Hp → VK → Prop} (h : t σ H fun vs H1 => r vs H1 Q) : tCB r t σ H Q := h
theorem raw_drop (h : te σ H fun _ H1 => D.nx σ H1) : tDrop te D σ H := h
theorem raw_asg {i : Nat} (h : te σ H fun x H1 => D.nx (σ.set i (some x)) H1) : tAsg te (gName i) D σ H := h
theorem raw_seq {s u : TS} (h : s { nx := u D, rt := D.rt, bk := D.bk, ct := D.ct } σ H) : tSeq s u D σ H := h
theorem raw_ret (h : te σ H D.rt) : tRet te D σ H := h
end
/-! ### the rows -/
def RowOk (K : PySem.W.Frag) (H0 H F : Hp) (a : Addr) (r : List In) : Prop := H0 a = none ∧ F a = none ∧ ∃ xs, H a = some (.lst xs) ∧ Tps K F xs (r.map encI)
structure RowsR (K : PySem.W.Frag) (H0 H F : Hp) (A : Addr) (refs : List Addr) (rows : List (List In)) : Prop where
  h0 : H0 A = none
  f : F A = none
  g : H A = some (.lst (refs.map V.ref))
  al : Paired (RowOk K H0 H F) refs rows
  nd : refs.Nodup
  na : A ∉ refs
section
variable {K : PySem.W.Frag} {p : Option Addr} {H0 F0 H F H1 F1 : Hp} {σ : L2.St} {sv : List Sv} {A : Addr} {refs : List Addr} {rows : List (List In)}
theorem RowOk.nx (k0 : Ok K p H0 F0) (n : Nx K p H F H1 F1) {a : Addr} {r : List In} (h : RowOk K H0 H F a r) : RowOk K H0 H1 F1 a r := by
  obtain ⟨h1, h2, xs, h3, h4⟩ := h
  exact ⟨h1, n.none h3 h2, xs, n.fr _ _ h3 (k0.ne h1), h4.mono n.fz⟩
theorem RowOk.upd {a b : Addr} {o : HO} {r : List In} (h : RowOk K H0 H F a r) (ne : a ≠ b) : RowOk K H0 (upd H b o) F a r := by
  obtain ⟨h1, h2, xs, h3, h4⟩ := h
  exact ⟨h1, h2, xs, by rw [upd_ne ne]; exact h3, h4⟩
theorem RowsR.nx (k0 : Ok K p H0 F0) (n : Nx K p H F H1 F1) (h : RowsR K H0 H F A refs rows) : RowsR K H0 H1 F1 A refs rows :=
  ⟨h.h0, n.none h.g h.f, n.fr _ _ h.g (k0.ne h.h0), Paired.mapP h.al fun _ _ z => z.nx k0 n, h.nd, h.na⟩
theorem Rel.wrR (R : Rel K p H0 F0 σ H F sv) (nm : ∀ (i : Nat) q m, sv[i]? ≠ some (.m q m)) {a : Addr} {o : HO} (h : H0 a = none) (hf : F a = none) : Rel K p H0 F0 σ (upd H a o) F sv where
  ok0 := R.ok0
  nx := R.nx.wr R.ok0 h hf
  len := R.len
  sl := fun i s e => by
    obtain ⟨o, h1, h2⟩ := R.sl i s e
    refine ⟨o, h1, ?_⟩
    cases s with
    | m q m => exact absurd e (nm i q m)
    | any => exact h2
    | d x => exact h2
    | ro ds => exact h2
    | raw u => exact h2
  sep := fun i j a q r ds es ne e1 => absurd e1 (nm i q ds)
theorem pairedR_append {R : Addr → List In → Prop} : ∀ {as : List Addr} {rs : List (List In)} {a : Addr} {r : List In}, Paired R as rs → R a r → Paired R (as ++ [a]) (rs ++ [r])
  | _, _, _, _, .nil, h => .cons h .nil
  | _, _, _, _, .cons x t, h => .cons x (pairedR_append t h)
theorem pairedR_last {R : Addr → List In → Prop} : ∀ {as : List Addr} {ini : List (List In)} {l : List In}, Paired R as (ini ++ [l]) → ∃ ai a, as = ai ++ [a] ∧ Paired R ai ini ∧ R a l
  | _, [], _, .cons x .nil => ⟨[], _, rfl, .nil, x⟩
  | _, r :: ini, _, .cons x t => by
    obtain ⟨ai, a, rfl, t, h⟩ := pairedR_last t
    exact ⟨_ :: ai, a, rfl, .cons x t, h⟩
theorem pairedR_mem {R : Addr → List In → Prop} : ∀ {as : List Addr} {rs : List (List In)} {a : Addr}, Paired R as rs → a ∈ as → ∃ r, R a r
  | _, _, _, .cons x t, h => by
    rcases List.mem_cons.mp h with rfl | h
    · exact ⟨_, x⟩
    · exact pairedR_mem t h
theorem pairedR_imp {R S : Addr → List In → Prop} : ∀ {as : List Addr} {rs : List (List In)}, Paired R as rs → (∀ a r, a ∈ as → R a r → S a r) → Paired S as rs
  | _, _, .nil, _ => .nil
  | _, _, .cons x t, h => .cons (h _ _ (.head _) x) (pairedR_imp t fun a r m => h a r (.tail _ m))
/-- rows.append([]) -/
theorem RowsR.opn (h : RowsR K H0 H F A refs rows) (b : Nx K p H0 F0 H F) (k0 : Ok K p H0 F0) {q : Addr} (hq : H q = none) : RowsR K H0 (upd (upd H q (.lst [])) A (.lst (refs.map V.ref ++ [.ref q]))) F A (refs ++ [q]) (rows ++ [[]]) := by
  have qA : q ≠ A := fun e => by rw [e, h.g] at hq; cases hq
  have qn : q ∉ refs := fun m => by
    obtain ⟨r, _, _, xs, g, _⟩ := pairedR_mem h.al m
    rw [g] at hq; cases hq
  refine ⟨h.h0, h.f, by rw [upd_same, List.map_append]; rfl, pairedR_append (pairedR_imp h.al fun a r m z => ?_) ?_, ?_, ?_⟩
  · exact (z.upd (b := q) (fun e => qn (by rw [← e]; exact m))).upd (b := A) (fun e => h.na (by rw [← e]; exact m))
  · exact ⟨b.back hq, b.ok.ofF hq, [], by rw [upd_ne qA, upd_same], .nil⟩
  · rw [List.nodup_append]
    exact ⟨h.nd, by simp, fun a ha b hb e => by cases List.mem_singleton.mp hb; exact qn (by rw [← e]; exact ha)⟩
  · rw [List.mem_append, not_or]
    exact ⟨h.na, fun e => qA (List.mem_singleton.mp e).symm⟩
/-- rows[-1].append(x) -/
theorem RowsR.put {ini : List (List In)} {l : List In} {ri : List Addr} {a : Addr} (h : RowsR K H0 H F A (ri ++ [a]) (ini ++ [l])) {xs : List V} (g : H a = some (.lst xs)) {v : V} {x : In} (t : Tp K F v (encI x)) : RowsR K H0 (upd H a (.lst (xs ++ [v]))) F A (ri ++ [a]) (ini ++ [l ++ [x]]) := by
  obtain ⟨ai, b, e, t1, t2⟩ := pairedR_last h.al
  obtain ⟨rfl, e2⟩ := List.append_inj' e rfl
  cases e2
  have aA : A ≠ a := fun e => h.na (by rw [e]; simp)
  have nd := List.nodup_append.mp h.nd
  refine ⟨h.h0, h.f, by rw [upd_ne aA]; exact h.g, pairedR_append (pairedR_imp t1 fun c r m z => z.upd fun e => nd.2.2 c m a (by simp) e) ?_, h.nd, h.na⟩
  obtain ⟨h1, h2, ys, h3, h4⟩ := t2
  rw [g] at h3
  cases h3
  exact ⟨h1, h2, _, upd_same, by rw [List.map_append]; exact h4.append (.cons t .nil)⟩
/-- rows.pop() -/
theorem RowsR.pop {ini : List (List In)} {l : List In} {ri : List Addr} {a : Addr} (h : RowsR K H0 H F A (ri ++ [a]) (ini ++ [l])) : RowsR K H0 (upd H A (.lst (ri.map V.ref))) F A ri ini ∧ RowOk K H0 (upd H A (.lst (ri.map V.ref))) F a l := by
  obtain ⟨ai, b, e, t1, t2⟩ := pairedR_last h.al
  obtain ⟨rfl, e2⟩ := List.append_inj' e rfl
  cases e2
  have nd := List.nodup_append.mp h.nd
  have na : A ∉ ri ∧ A ≠ a := by have := h.na; rw [List.mem_append, not_or] at this; exact ⟨this.1, fun e => this.2 (by rw [e]; simp)⟩
  exact ⟨⟨h.h0, h.f, upd_same, pairedR_imp t1 fun c r m z => z.upd fun e => na.1 (by rw [← e]; exact m), nd.1, na.1⟩, t2.upd fun e => na.2 e.symm⟩
end
def opOf : St → Bool
  | .opn => true | _ => false
def shOf : St → Bool
  | .shut => true | _ => false
def bodyT (K : PySem.W.Frag) : TS :=
  tIfS (tTest (tOp rEq (tOp (rIx K) (tVar 2) (tC (.int 0))) (tC (.str "open")))) (tDrop (tBM K "list" rAppend (tVar 1) (tCons (tLst tNil) tNil)))
    (tIfS (tTest (tOp rEq (tOp (rIx K) (tVar 2) (tC (.int 0))) (tC (.str "shut"))))
      (tSeq (tAsg (tTup (tCons (tC (.str "strong")) (tCons (tCB (rTupA K) (tCons (tBM0 K "list" rPop (tVar 1)) tNil)) tNil))) (gName 3))
        (tDrop (tBM K "list" rAppend (tOp (rIx K) (tVar 1) (tUn (rU fun i => V.int (-i)) (tC (.int 1)))) (tCons (tVar 3) tNil))))
      (tDrop (tBM K "list" rAppend (tOp (rIx K) (tVar 1) (tUn (rU fun i => V.int (-i)) (tC (.int 1)))) (tCons (tVar 2) tNil))))
theorem wt_open (K : PySem.W.Frag) (p : Option Addr) (A : Addr) (S : List D) (s : St) (ok : okSt s) : WT (g0 K p) (tTest (tOp rEq (tOp (rIx K) (tVar 2) (tC (.int 0))) (tC (.str "open")))) [.ro S, .raw (.ref A), .d (encSt s), .any] fun b => b = opOf s := by
  cases s with
  | leaf x =>
    cases x with
    | strong _ => exact ok.elim
    | _ => simp only [encSt, encI]; repeat walk_at "y"
           rfl
  | _ => simp only [encSt]; repeat walk_at "y"
         rfl
theorem wt_shut (K : PySem.W.Frag) (p : Option Addr) (A : Addr) (S : List D) (s : St) (ok : okSt s) : WT (g0 K p) (tTest (tOp rEq (tOp (rIx K) (tVar 2) (tC (.int 0))) (tC (.str "shut")))) [.ro S, .raw (.ref A), .d (encSt s), .any] fun b => b = shOf s := by
  cases s with
  | leaf x =>
    cases x with
    | strong _ => exact ok.elim
    | _ => simp only [encSt, encI]; repeat walk_at "y"
           rfl
  | _ => simp only [encSt]; repeat walk_at "y"
         rfl
def svN (S : List D) (A : Addr) (x y : Sv) : List Sv := [.ro S, .raw (.ref A), x, y]
theorem last_ix {a : Addr} {ri : List Addr} : atI ((ri ++ [a]).map V.ref) (-1) = some (.ref a) := at_last (by simp)
theorem nested_body {K : PySem.W.Frag} {p : Option Addr} {H0 F0 H F : Hp} {σ : L2.St} {S : List D} {A : Addr} {refs : List Addr} {rows : List (List In)} {s : St} (R : Rel K p H0 F0 σ H F [.ro S, .raw (.ref A), .d (encSt s), .any]) (N : RowsR K H0 H F A refs rows) (ok : okSt s)
    (ne : rows ≠ []) (n2 : s = .shut → 2 ≤ rows.length) (l1 : rows.length < 1000) (l2 : ∀ r ∈ rows, r.length < 1000) (D : Ends)
    (k : ∀ σ' H' F' refs', Same F F' → Rel K p H0 F0 σ' H' F' [.ro S, .raw (.ref A), .any, .any] → RowsR K H0 H' F' A refs' (nestS rows s) → D.nx σ' H') : bodyT K D σ H := by
  have nm : ∀ (s : St) (i : Nat) q m, ([.ro S, .raw (.ref A), .d (encSt s), .any] : List Sv)[i]? ≠ some (.m q m) := fun s i q m e => by
    match i, e with
    | 0, e => cases e
    | 1, e => cases e
    | 2, e => cases e
    | 3, e => cases e
  have slotA : ∀ {H' F'}, Rel K p H0 F0 σ H' F' [.ro S, .raw (.ref A), .d (encSt s), .any] → σ[1]? = some (some (.ref A)) := fun R' => by
    obtain ⟨o, h1, h2⟩ := R'.sl 1 _ rfl
    rw [h1, show o = some (.ref A) from h2]
  obtain ⟨ini, l, rfl⟩ : ∃ ini l, rows = ini ++ [l] := by
    rcases List.eq_nil_or_concat rows with e | ⟨a, b, e⟩
    · exact absurd e ne
    · exact ⟨a, b, by rw [e, List.concat_eq_append]⟩
  have ll : l.length < 1000 := l2 l (by simp)
  have hrl : refs.length = (ini ++ [l]).length := Paired.length N.al
  obtain ⟨ri, a, rfl, t1, t2⟩ := pairedR_last N.al
  have weak : ∀ {H' F'}, Rel K p H0 F0 σ H' F' [.ro S, .raw (.ref A), .d (encSt s), .any] → Rel K p H0 F0 σ H' F' [.ro S, .raw (.ref A), .any, .any] := fun R' => R'.weak 2 (s := .any) (fun _ _ z => nomatch z) fun _ _ => trivial
  refine wt_open K p A S s ok H0 F0 σ H F R exc0 _ fun b H1 F1 hb n => ?_
  have N1 := N.nx R.ok0 n
  have R1 := R.step n
  cases s with
  | opn =>
    subst hb
    refine iteT (raw_drop (raw_bm (raw_var (slotA R1) ⟨.inl ⟨rfl, _, SqL.of N1.g⟩, raw_cons (raw_lst (raw_nil ⟨by decide, fun q hq => raw_nil ?_⟩))⟩)))
    have qA : q ≠ A := fun e => by rw [e, N1.g] at hq; cases hq
    refine ⟨A, _, _, rfl, rfl, by rw [upd_ne fun e => qA e.symm]; exact N1.g, by rw [List.length_map, hrl]; show _ < 16777216; omega, ?_⟩
    have q0 : H0 q = none := R1.nx.back hq
    have qF : F1 q = none := R1.ok.ofF hq
    exact k σ _ F1 _ n.fz (weak ((R1.wrR (nm _) q0 qF).wrR (nm _) N1.h0 N1.f)) (N1.opn R1.nx R1.ok0 hq)
  | leaf x =>
    subst hb
    refine iteF ?_
    refine wt_shut K p A S _ ok H0 F0 σ H1 F1 R1 exc0 _ fun b H2 F2 hb n2 => ?_
    have N2 := N1.nx R.ok0 n2
    have R2 := R1.step n2
    subst hb
    refine iteF ?_
    obtain ⟨ai, a', e, _, t2'⟩ := pairedR_last N2.al
    obtain ⟨rfl, e2⟩ := List.append_inj' e rfl
    cases e2
    obtain ⟨a0, af, xs, ag, at_⟩ := t2'
    obtain ⟨o, h1, v, rfl, tv⟩ := R2.sl 2 _ rfl
    refine raw_drop (raw_bm (raw_op (raw_var (slotA R2) (raw_un (raw_c ⟨1, rfl, .inl ⟨A, _, _, _, rfl, rfl, SqL.of N2.g, last_ix, ⟨.inl ⟨rfl, _, SqL.of ag⟩, raw_cons (raw_var h1 (raw_nil ?_))⟩⟩⟩)))))
    have lx : xs.length = l.length := by rw [at_.length, List.length_map]
    refine ⟨a, xs, v, rfl, rfl, ag, by rw [lx]; show _ < 16777216; omega, ?_⟩
    have ex : nestS (ini ++ [l]) (.leaf x) = ini ++ [l ++ [x]] := upd1_concat x l ini
    exact k σ _ F2 _ (n.fz.trans n2.fz) (weak (R2.wrR (nm _) a0 af)) (by rw [ex]; exact N2.put ag tv)
  | shut =>
    subst hb
    refine iteF ?_
    refine wt_shut K p A S _ ok H0 F0 σ H1 F1 R1 exc0 _ fun b H2 F2 hb n3 => ?_
    have N2 := N1.nx R.ok0 n3
    have R2 := R1.step n3
    subst hb
    refine iteT (raw_seq (raw_asg (raw_tup (raw_cons (raw_c (raw_cons (raw_cb (raw_cons (raw_bm0 (raw_var (slotA R2) ⟨.inl ⟨rfl, _, SqL.of N2.g⟩, A, _, .ref a, rfl, rfl, N2.g, by simp, raw_nil ?_⟩))))))))))
    obtain ⟨m1, m2⟩ := N2.pop
    rw [show ((ri ++ [a]).map V.ref).dropLast = ri.map V.ref by rw [List.map_append]; simp]
    have R3 := R2.wrR (nm _) (o := .lst (ri.map V.ref)) N2.h0 N2.f
    generalize upd H2 A (.lst (ri.map V.ref)) = H3 at m1 m2 R3 ⊢
    obtain ⟨a0, af, xs, ag, at_⟩ := m2
    refine rcA_tuple (Γ := g0 K p) (x := .o (.lst (l.map encI))) (Φ := fun r => r = .d (.tup (l.map encI))) (.inl rfl) rfl H0 F0 H3 F2 H3 F2 [.ref a] ⟨R.ok0, R3.nx, Nx.refl R3.ok⟩ (.cons ⟨a, _, rfl, ag, R.ok0.ne a0, at_⟩ .nil) _ fun v r H4 F4 hr n4 o4 => raw_nil ?_
    subst hr
    have R4 := R3.step n4
    have N4 := m1.nx R.ok0 n4
    have t4 : Tps K F4 [.str "strong", v] [.str "strong", .tup (l.map encI)] := .cons (.str _) (.cons o4 .nil)
    refine ⟨by show 2 ≤ sizeLine; decide, fun q hq => ?_⟩
    have m5 := Nx.new (o := .tup [.str "strong", v]) n4.ok hq
    have R5 := R4.step m5
    have N5 := N4.nx R.ok0 m5
    have tq : Tp K (upd F4 q (.tup [.str "strong", v])) (.ref q) (encI (.strong l)) := by
      rw [encI, encIs_map]
      exact Tp.tup (SqT.of upd_same) (t4.mono m5.fz)
    have fz5 : Same F (upd F4 q (.tup [.str "strong", v])) := ((n.fz.trans n3.fz).trans n4.fz).trans m5.fz
    generalize upd F4 q (.tup [.str "strong", v]) = F5 at R5 N5 tq fz5 ⊢
    generalize upd H4 q (.tup [.str "strong", v]) = H5 at R5 N5 ⊢
    have R6 : Rel K p H0 F0 (σ.set 3 (some (.ref q))) H5 F5 [.ro S, .raw (.ref A), .d (encSt .shut), .d (encI (.strong l))] := R5.put 3 (s := .d (encI (.strong l))) ⟨_, rfl, tq⟩ (fun _ _ z => nomatch z)
    have li : 2 ≤ (ini ++ [l]).length := n2 rfl
    obtain ⟨ini, m, rfl⟩ : ∃ i m, ini = i ++ [m] := by
      rcases List.eq_nil_or_concat ini with e | ⟨a, b, e⟩
      · rw [e] at li; simp at li
      · exact ⟨a, b, by rw [e, List.concat_eq_append]⟩
    obtain ⟨rj, c, rfl, _, c0, cf, ys, cg, ct⟩ := pairedR_last N5.al
    have s1 : (σ.set 3 (some (V.ref q)))[1]? = some (some (.ref A)) := by
      obtain ⟨o, h1, h2⟩ := R6.sl 1 _ rfl
      rw [h1, show o = some (.ref A) from h2]
    obtain ⟨o, h1, w, rfl, tw⟩ := R6.sl 3 _ rfl
    refine raw_drop (raw_bm (raw_op (raw_var s1 (raw_un (raw_c ⟨1, rfl, .inl ⟨A, _, _, _, rfl, rfl, SqL.of N5.g, last_ix, ⟨.inl ⟨rfl, _, SqL.of cg⟩, raw_cons (raw_var h1 (raw_nil ?_))⟩⟩⟩)))))
    have lm : m.length < 1000 := l2 m (by simp)
    have lx : ys.length = m.length := by rw [ct.length, List.length_map]
    refine ⟨c, ys, w, rfl, rfl, cg, by rw [lx]; show _ < 16777216; omega, ?_⟩
    have ex : nestS (ini ++ [m] ++ [l]) .shut = ini ++ [m ++ [.strong l]] := by
      show upd1 (.strong ((ini ++ [m] ++ [l]).getLast?.getD [])) (ini ++ [m] ++ [l]).dropLast = _
      rw [List.getLast?_concat, List.dropLast_concat, upd1_concat]
      rfl
    have nm6 : ∀ (i : Nat) q m, ([.ro S, .raw (.ref A), .d (encSt .shut), .d (encI (.strong l))] : List Sv)[i]? ≠ some (.m q m) := fun i q m e => by
      match i, e with
      | 0, e => cases e
      | 1, e => cases e
      | 2, e => cases e
      | 3, e => cases e
    have R7 := R6.wrR nm6 (o := .lst (ys ++ [w])) c0 cf
    exact k _ _ F5 _ fz5 ((R7.weak 2 (s := .any) (fun _ _ z => nomatch z) fun _ _ => trivial).weak 3 (s := .any) (fun _ _ z => nomatch z) fun _ _ => trivial) (by rw [ex]; exact N5.put cg tw)
theorem RowsA.len {k : Nat} : ∀ {j : Nat} {rows : List (List In)}, RowsA k j rows → rows = [] ∨ rows.length + j ≤ 10
  | _, [], _ => .inl rfl
  | j, r :: rs, h => .inr (by
    have := h.1.2.2
    rcases RowsA.len h.2 with e | e
    · rw [e]; simp; omega
    · rw [List.length_cons]; omega)
theorem RowsA.mem {k : Nat} : ∀ {j : Nat} {rows : List (List In)}, RowsA k j rows → ∀ r ∈ rows, r.length ≤ k
  | _, [], _, r, h => nomatch h
  | j, r :: rs, h, x, hx => by
    rcases List.mem_cons.mp hx with rfl | hx
    · exact h.1.1
    · exact RowsA.mem h.2 x hx
def spNested : DSp := fun _ rs Φ => ∃ ss : List St, rs = [.l (ss.map encSt)] ∧ Steps ss ∧ Φ (.d (.tup (encIs (nested ss))))
section
variable {P : Program} {w : World} {K : PySem.W.Frag} {mg : Str → Option Value} {base : Heap}
theorem nested_ws {p : Option Addr} {ss : List St} (hS : Steps ss) {Φ : Rv → Prop} (post : Φ (.d (.tup (encIs (nested ss))))) : WS (g0 K p) (tSeq (tAsg (tLst (tCons (tLst tNil) tNil)) (gName 1)) (tSeq (tFor (iList K (tVar 0)) (gName 2) (bodyT K)) (tRet (tCB (rTupA K) (tCons (tOp (rIx K) (tVar 1) (tC (.int 0))) tNil)))))
    [.ro (ss.map encSt), .any, .any, .any] { nx := fun _ => Φ (.d .non), rt := fun r _ => Φ r } := fun H0 F0 σ H F R X Dd S => by
  have nm : ∀ (i : Nat) q m, ([.ro (ss.map encSt), .any, .any, .any] : List Sv)[i]? ≠ some (.m q m) := fun i q m e => by
    match i, e with
    | 0, e => cases e
    | 1, e => cases e
    | 2, e => cases e
    | 3, e => cases e
  refine raw_seq (raw_asg (raw_lst (raw_cons (raw_lst (raw_nil ⟨by decide, fun q hq => raw_nil ⟨by show 1 ≤ sizeLine; decide, fun A hA => ?_⟩⟩)))))
  have Aq : A ≠ q := fun e => by rw [e, upd_same] at hA; cases hA
  have hA' : H A = none := by rw [upd_ne Aq] at hA; exact hA
  have N1 : RowsR K H0 (upd (upd H q (.lst [])) A (.lst [.ref q])) F A [q] [[]] := ⟨R.nx.back hA', R.ok.ofF hA', upd_same, .cons ⟨R.nx.back hq, R.ok.ofF hq, [], by rw [upd_ne fun e => Aq e.symm, upd_same], .nil⟩ .nil, by simp, by simpa using Aq⟩
  have R1 : Rel K p H0 F0 (σ.set 1 (some (.ref A))) (upd (upd H q (.lst [])) A (.lst [.ref q])) F [.ro (ss.map encSt), .raw (.ref A), .any, .any] :=
    ((R.wrR nm (R.nx.back hq) (R.ok.ofF hq)).wrR nm (R.nx.back hA') (R.ok.ofF hA')).put 1 (s := .raw (.ref A)) rfl fun _ _ z => nomatch z
  show tSeq (tFor (iList K (tVar 0)) (gName 2) (bodyT K)) (tRet (tCB (rTupA K) (tCons (tOp (rIx K) (tVar 1) (tC (.int 0))) tNil))) Dd _ _
  refine raw_seq (s := tFor (iList K (tVar 0)) (gName 2) (bodyT K)) ?_
  refine (wi_list (we_ro rfl ⟨ss.map encSt, rfl, rfl⟩) : WI (g0 K p) (iList K (tVar 0)) [.ro (ss.map encSt), .raw (.ref A), .any, .any] fun ds => ds = ss.map encSt) H0 F0 _ _ F R1 exc0 _ fun J ds H2 F2 e n W => ?_
  subst e
  have N2 := N1.nx R.ok0 n
  have R2 := R1.step n
  refine ⟨fun i m σ' H' => m = ss.length - i ∧ i ≤ ss.length ∧ ∃ F' refs, Same F2 F' ∧ Rel K p H0 F0 σ' H' F' [.ro (ss.map encSt), .raw (.ref A), .any, .any] ∧ RowsR K H0 H' F' A refs ((ss.take i).foldl nestS [[]]), ⟨ss.length, by simp, Nat.zero_le _, F2, [q], Same.refl _, R2, N2⟩, ?_⟩
  rintro i m σ' H' ⟨rfl, hi, F', refs, s', R', N'⟩
  have w := W H' F' s' R'.nx
  by_cases hlt : i < ss.length
  · obtain ⟨go, yl⟩ := w.2 i (encSt ss[i]) (by rw [List.getElem?_map, List.getElem?_eq_getElem hlt]; rfl)
    have et : ss.take (i + 1) = ss.take i ++ [ss[i]] := List.take_succ_eq_append_getElem hlt
    refine .inr ⟨go, fun σ2 H2 => ∃ F' refs, Same F2 F' ∧ Rel K p H0 F0 σ2 H2 F' [.ro (ss.map encSt), .raw (.ref A), .any, .any] ∧ RowsR K H0 H2 F' A refs ((ss.take (i + 1)).foldl nestS [[]]), fun σ2 H2 z => ⟨ss.length - (i + 1), by omega, rfl, hlt, z⟩, fun v H'' y => ?_⟩
    obtain ⟨F'', n'', tv⟩ := yl v H'' y
    have ok : okSt ss[i] := hS.ok _ (List.getElem_mem hlt)
    obtain ⟨d, hd⟩ : ∃ d, runS 0 (ss.take i) = some d := by
      have h0 := hS.run
      rw [← List.take_append_drop i ss, runS_append] at h0
      cases q : runS 0 (ss.take i) with
      | some d => exact ⟨d, rfl⟩
      | none => rw [q] at h0; cases h0
    obtain ⟨e, he⟩ : ∃ e, runS d [ss[i]] = some e := by
      have h0 := hS.run
      rw [← List.take_append_drop (i + 1) ss, runS_append, et, runS_append, hd] at h0
      cases q : runS d [ss[i]] with
      | some e => exact ⟨e, rfl⟩
      | none =>
        change (runS d [ss[i]]).bind _ = _ at h0
        rw [q] at h0; cases h0
    have hl := hS.len
    have ne := Nest.run (ss.take i) (Nest.start "" "") (by rw [List.length_take]; omega) (fun s hs => hS.ok s (List.mem_of_mem_take hs)) hd
    have hrows : (ss.take i).foldl nestS [[]] ≠ [] := fun z => by have := ne.len; rw [z] at this; simp at this
    have lrows := (RowsA.len ne.al).resolve_left hrows
    have R3 : Rel K p H0 F0 (σ'.set 2 (some v)) H'' F'' [.ro (ss.map encSt), .raw (.ref A), .d (encSt ss[i]), .any] := (R'.step n'').put 2 (s := .d (encSt ss[i])) ⟨_, rfl, tv⟩ fun _ _ z => nomatch z
    refine nested_body R3 (N'.nx R.ok0 n'') ok hrows (fun z => ?_) (by omega) (fun r hr => ?_) _ fun σ3 H3 F3 refs3 fz R4 N4 => ⟨F3, refs3, (s'.trans n''.fz).trans fz, R4, by rw [et, List.foldl_append]; exact N4⟩
    · rw [z] at he
      have := ne.len
      cases d with
      | zero => cases he
      | succ d => omega
    · have := RowsA.mem ne.al r hr
      rw [List.length_take] at this
      omega
  · have e : i = ss.length := by omega
    subst e
    refine .inl ⟨w.1 _ (by simp), ?_⟩
    rw [List.take_length, (nested_ok hS "" "").2.2.2.2] at N'
    obtain ⟨a, rfl, a0, af, xs, ag, at_⟩ : ∃ a, refs = [a] ∧ RowOk K H0 H' F' a (nested ss) := by
      cases N'.al with
      | cons x t => cases t; exact ⟨_, rfl, x⟩
    have slot : σ'[1]? = some (some (.ref A)) := by
      obtain ⟨o, h1, h2⟩ := R'.sl 1 _ rfl
      rw [h1, show o = some (.ref A) from h2]
    refine raw_ret (raw_cb (raw_cons (raw_op (raw_var slot (raw_c (.inl ⟨A, _, 0, .ref a, rfl, rfl, SqL.of N'.g, at0, raw_nil ?_⟩))))))
    refine rcA_tuple (Γ := g0 K p) (x := .o (.lst ((nested ss).map encI))) (Φ := fun r => r = .d (.tup ((nested ss).map encI))) (.inl rfl) rfl H0 F0 H' F' H' F' [.ref a] ⟨R.ok0, R'.nx, Nx.refl R'.ok⟩ (.cons ⟨a, _, rfl, ag, R.ok0.ne a0, at_⟩ .nil) _ fun v r H4 F4 hr n4 o4 => ?_
    subst hr
    rw [encIs_map] at post
    exact S.rt v _ _ H4 F4 _ post rfl (R'.step n4) o4
theorem cal__law_nested (D : Dn K mg "_law_nested" s__law_nested ["steps"]) (hB : Blt mg) : C8.Cal P w K mg base 1 "_law_nested" (FSp K spNested) [] := by
  have sc := sc__law_nested
  refine D.cal sc (fun p rs Φ h => ?_) fun f cdv A outer st H E hr p rs Φ h => ?_
  · obtain ⟨ss, e, _⟩ := h; rw [e]; rfl
  obtain ⟨ss, rfl, hS, post⟩ := h
  exact ⟨_, (pss_cons (ps_set (i := 1) sc.nd rfl (by first | exact Or.inl rfl | exact Or.inr rfl) (pe_lst (pa_cons (pe_lst pa_nil) pa_nil)))
      (pss_cons (ps_for PassesOwn.never rfl (pi_list (pv 0)) (pg_name (i := 2) sc.nd rfl (by first | exact Or.inl rfl | exact Or.inr rfl)) (pss_one (ps_if (pt_cmpR op_eq (pe_ix ix_seq (pv 2) pe_int (fun _ _ => rfl)) pe_str (nomark _)) (pss_one (ps_expr (pe_bm PySem.F.plainAttrs_list PySem.F.slot_list_append PySem.F.type_list_append mt_append (pv 1) (pa_cons (pe_lst pa_nil) pa_nil)))) (pss_one (ps_if (pt_cmpR op_eq (pe_ix ix_seq (pv 2) pe_int (fun _ _ => rfl)) pe_str (nomark _)) (pss_cons (ps_set (i := 3) sc.nd rfl (by first | exact Or.inl rfl | exact Or.inr rfl) (pe_tup (pa_cons pe_str (pa_cons (pe_callTy call_tupleA (by rfl) hB.tuple (by decide +kernel) (pa_cons (pe_bm0 PySem.F.plainAttrs_list PySem.F.slot_list_pop PySem.F.type_list_pop mt_pop (pv 1)) pa_nil)) pa_nil))))
      (pss_one (ps_expr (pe_bm PySem.F.plainAttrs_list PySem.F.slot_list_append PySem.F.type_list_append mt_append (pe_ix ix_seq (pv 1) (pe_un un_neg pe_int) (fun _ _ => rfl)) (pa_cons (pv 3) pa_nil))))) (pss_one (ps_expr (pe_bm PySem.F.plainAttrs_list PySem.F.slot_list_append PySem.F.type_list_append mt_append (pe_ix ix_seq (pv 1) (pe_un un_neg pe_int) (fun _ _ => rfl)) (pa_cons (pv 2) pa_nil)))))))))
      (pss_one (ps_ret (pe_callTy call_tupleA (by rfl) hB.tuple (by decide +kernel) (pa_cons (pe_ix ix_seq (pv 1) pe_int (fun _ _ => rfl)) pa_nil)))))), nested_ws hS post⟩
end
end Y

set_option maxHeartbeats 4000000
namespace Y
open PySem L2 PySem.Spec PyProof.Rows
local macro_rules | `(tactic| walk_at "y1") => `(tactic| first
  | with_reducible refine ws_asg ?_
  | with_reducible refine ws_next ?_
  | with_reducible refine ws_brk ?_
  | with_reducible refine ws_cont ?_
  | with_reducible refine ws_if ?_
  | ((with_reducible refine' ws_setL ?e ?_); (case e => rfl))
  | ((with_reducible refine' ws_app ?e ?_); (case e => rfl))
  | ((with_reducible refine' ws_ext ?e ?_); (case e => rfl))
  | with_reducible refine ws_asgG ?_
  | ((with_reducible refine' ws_retOwn ?e ?_); (case e => rfl))
  | with_reducible refine ws_ret ?_
  | with_reducible refine ws_retN ?_
  | with_reducible refine ws_drop ?_)
local macro_rules | `(tactic| walk_at "y2") => `(tactic| first
  | ((with_reducible refine' we_d ?e ?_); (case e => rfl))
  | ((with_reducible refine' we_raw ?e ?_); (case e => rfl))
  | ((with_reducible refine' we_ro ?e ?_); (case e => rfl))
  | ((with_reducible refine' we_m ?e ?_); (case e => rfl))
  | with_reducible refine we_cint ?_
  | with_reducible refine we_cstr ?_
  | with_reducible refine we_cbl ?_
  | with_reducible refine we_cnon ?_
  | with_reducible refine we_op ?_
  | with_reducible refine we_un ?_
  | with_reducible refine we_cb ?_
  | with_reducible refine we_tup ?_
  | with_reducible refine we_lst ?_
  | with_reducible refine wa_nil ?_
  | with_reducible refine wa_cons ?_
  | with_reducible refine we_bm0 ?_
  | with_reducible refine we_bm ?_
  | with_reducible refine we_m0 ?_
  | with_reducible refine we_m1 ?_
  | with_reducible refine we_sl ?_
  | with_reducible refine wo_none ?_
  | with_reducible refine wo_some ?_
  | with_reducible refine we_fld ?_
  | with_reducible refine we_call ?_
  | with_reducible refine we_mk ?_
  | with_reducible refine we_mkS ?_
  | with_reducible refine wt_test ?_
  | with_reducible refine wt_val ?_
  | with_reducible refine wt_and ?_
  | with_reducible refine wt_or ?_
  | with_reducible refine wt_not ?_
  | with_reducible refine wt_yes ?_
  | with_reducible refine wt_truth ?_
  | with_reducible refine we_andV ?_
  | with_reducible refine we_orV ?_
  | with_reducible refine we_notV ?_
  | with_reducible refine we_if ?_
  | with_reducible refine we_craw ?_)
local macro_rules | `(tactic| walk_at "y3") => `(tactic| first
  | with_reducible refine ro_plusI ?_
  | with_reducible refine ro_eqI ?_
  | with_reducible refine ro_eqS ?_
  | with_reducible refine ro_neI ?_
  | with_reducible refine ro_neS ?_
  | ((with_reducible refine' ro_I0 ?e ?_); (case e => rfl))
  | ((with_reducible refine' ro_I ?c ?e ?_); (case e => rfl); (case c => first | decide | omega | exact Or.inr (by decide) | exact Or.inl (by decide) | exact ⟨by decide, by decide +kernel⟩ | exact ⟨by decide, by decide, by decide⟩ | exact Or.inl ⟨by omega, by omega⟩ | exact Or.inr ⟨by omega, by omega⟩ | assumption))
  | ((with_reducible refine' ro_ix1 ?a ?b ?_); (case a => rfl); (case b => first | exact at0 | rfl))
  | ((with_reducible refine' ro_ix2 ?b ?_); (case b => first | exact at0 | rfl))
  | with_reducible refine ro_isN ?_
  | with_reducible refine ro_isA ?_
  | ((with_reducible refine' rc_len1 ?a ?_); (case a => first | exact Or.inl rfl | exact Or.inr rfl))
  | ((with_reducible refine' rc_isi ?a ?b ?_); (case a => rfl); (case b => first | exact kit_NoneType_int | exact kit_NoneType_bool | exact kit_NoneType_str | exact kit_NoneType_tuple | exact kit_NoneType_list | exact kit_bool_int | exact kit_bool_bool | exact kit_bool_str | exact kit_bool_tuple | exact kit_bool_list | exact kit_int_int | exact kit_int_bool | exact kit_int_str | exact kit_int_tuple | exact kit_int_list | exact kit_str_int | exact kit_str_bool | exact kit_str_str | exact kit_str_tuple | exact kit_str_list | exact kit_tuple_int | exact kit_tuple_bool | exact kit_tuple_str | exact kit_tuple_tuple | exact kit_tuple_list | exact kit_list_int | exact kit_list_bool | exact kit_list_str | exact kit_list_tuple | exact kit_list_list))
  | with_reducible refine rcA_abs ?_
  | with_reducible refine rcA_max ?_
  | with_reducible refine rcA_min ?_
  | with_reducible refine rcA_intI ?_
  | with_reducible refine rcA_intB ?_
  | ((with_reducible refine' rcA_list ?a ?_); (case a => first | exact Or.inl rfl | exact Or.inr rfl))
  | ((with_reducible refine' rcA_tuple ?a ?_); (case a => first | exact Or.inl rfl | exact Or.inr rfl)))
local macro_rules | `(tactic| walk_at "y4") => `(tactic| first
  | ((with_reducible refine' ite_t ?e ?_); (case e => rfl))
  | ((with_reducible refine' ite_f ?e ?_); (case e => rfl))
  | refine ⟨_, rfl, (show _ ≤ sizeLine by simp only [List.length_cons, List.length_nil]; decide), ?_⟩
  | refine ⟨_, rfl, ?_⟩
  | refine ⟨rfl, ?_⟩
  | refine ⟨_, _, rfl, rfl, ?_⟩)
local macro_rules | `(tactic| walk_at "z") => `(tactic| ((first | walk_at "y1" | walk_at "y2" | walk_at "y3" | walk_at "y4"); try dsimp only [List.set, Int.reduceToNat]))
local macro_rules | `(tactic| walk_at "y") => `(tactic| first | walk_at "z" | (with_reducible refine ws_seq ?_))
local macro_rules | `(tactic| walk_at "s") => `(tactic| ((with_reducible refine ws_seq ?_); repeat walk_at "z"))

abbrev s__law_pool : Stmt := top 13
abbrev N__law_pool : List Str := ["script"]
theorem sc__law_pool : FnScope N__law_pool ["script"] (C8.fnScope s__law_pool) := C8.fnScope_by (by decide +kernel)
def spPool : DSp := fun _ rs Φ => ∃ ns : List Int, rs = [.l (ns.map D.int)] ∧ Φ (.nl (poolD ns 0 0 0 1))
theorem rs_tup {Γ : G} {Φ : Rv → Prop} {ds : List D} {lo hi : Option Int} (hn : ¬ (HT.sIx ds.length 0 lo = 0 ∧ HT.sIx ds.length ds.length hi = ds.length)) (q : Φ (.d (.tup (cutD ds lo hi)))) : RS Γ (rSlT Γ.K) (.d (.tup ds)) lo hi Φ := fun H0 F0 H F H1 F1 u A hu Q f => by
  obtain ⟨a, xs, rfl, s, t⟩ := A.tup hu
  exact ⟨a, xs, rfl, s, by rw [t.length]; exact hn, Fin'.newT A f A.n (cut_tps t lo hi) q⟩
/-! ### what the two sides are -/
structure Inl (xs : List In) (ss : List St) : Prop where
  st : Steps ss
  em : ∀ f g, inFs f g xs = emit f g 0 ss
  len : xs.length ≤ 200
  ok : okXs xs
  dp : deps xs ≤ 9
theorem Inl.base {ss : List St} (h : Steps ss) : Inl (nested ss) ss :=
  ⟨h, fun f g => (nested_ok h f g).1, by have := (nested_ok h "" "").2.1; omega, (nested_ok h "" "").2.2.1, (nested_ok h "" "").2.2.2.1⟩
theorem Inl.cons {xs : List In} {ss : List St} (h : Inl xs ss) {x : In} (ok : okIn x) (l1 : ss.length < 100) (l2 : xs.length < 200) : Inl (x :: xs) (.leaf x :: ss) := by
  obtain ⟨o1, o2⟩ := okIn_X ok
  refine ⟨⟨by rw [List.length_cons]; omega, fun s hs => ?_, by rw [runS]; exact h.st.run⟩, fun f g => ?_, by rw [List.length_cons]; omega, by rw [okXs]; exact ⟨o1, h.ok⟩, by rw [deps, o2]; have := h.dp; omega⟩
  · rcases List.mem_cons.mp hs with rfl | hs
    · exact ok
    · exact h.st.ok s hs
  · rw [inFs, h.em, emit]
    cases x with
    | strong _ => exact ok.elim
    | _ => rfl
theorem Inl.eq {xs : List In} {ss : List St} (h : Inl xs ss) (f g : Str) : solidsOf f g xs = dueOf f g ss := by
  unfold solidsOf dueOf
  rw [h.em]
theorem Inl.l1 {xs : List In} {ss : List St} (h : Inl xs ss) (f g : Str) : (inFs f g xs).length ≤ 1000000 := by
  rw [h.em]; have := emit_len f g ss 0; have := h.st.len; omega
theorem Inl.l2 {xs : List In} {ss : List St} (h : Inl xs ss) (f g : Str) : ((inFs f g xs).map solN).sum ≤ 1000000 := by
  rw [h.em]
  have e : ((emit f g 0 ss).map solN).sum ≤ 12 * ss.length := emit_sum f g ss 0 h.st.ok
  have := h.st.len; omega
theorem emit_ok {f g : Str} : ∀ {ss : List St} {d : Nat}, (∀ s ∈ ss, okSt s) → ∀ p ∈ emit f g d ss, okIn p.1
  | [], d, _, p, h => by rw [emit] at h; cases h
  | .leaf x :: ss, d, ok, p, h => by
    rw [emit] at h
    rcases List.mem_cons.mp h with rfl | h
    · exact ok (.leaf x) (.head _)
    · exact emit_ok (fun s hs => ok s (.tail _ hs)) p h
  | .opn :: ss, d, ok, p, h => by rw [emit] at h; exact emit_ok (fun s hs => ok s (.tail _ hs)) p h
  | .shut :: ss, d, ok, p, h => by rw [emit] at h; exact emit_ok (fun s hs => ok s (.tail _ hs)) p h
theorem okS {f : Str} {x : In} (h : okIn x) {s : So} (hs : s ∈ solidsIn f x) : okD 9 (encS s) := by
  cases x with
  | word z =>
    obtain ⟨c, _, rfl⟩ := List.mem_map.mp hs
    exact okD_le (n := 1) (by decide) (okD_3 (okD_str _ _) (okD_str _ _) (okD_str _ _))
  | formula d => cases List.mem_singleton.mp hs; exact okD_2 (n := 8) (okD_str _ _) (okD_le (n := 7) (by decide) h)
  | note n d => cases List.mem_singleton.mp hs; exact okD_le (n := 1) (by decide) (okD_2 (okD_str _ _) (by trivial))
  | _ => exact absurd hs (by simp [solidsIn])
theorem okJ (j : Jo) : okD 9 (encJ j) := by
  cases j <;> first | exact okD_1 (n := 8) (okD_str _ _) | exact okD_2 (n := 8) (okD_str _ _) (okD_str _ _)
theorem okM (m : Nat × Str) : okD 9 (encM m) := okD_2 (n := 8) (by trivial) (okD_str _ _)
theorem fold_okS : ∀ (ps : List (In × Str)) {s : SS}, (∀ p ∈ ps, okIn p.1) → (∀ x ∈ s.so, okD 9 (encS x)) → ∀ x ∈ (ps.foldl step1 s).so, okD 9 (encS x)
  | [], _, _, h => h
  | p :: ps, s, hp, h => fold_okS ps (fun q hq => hp q (.tail _ hq)) fun x hx => by
    rw [show step1 s p = addBt ((solidsIn p.2 p.1).foldl addSolid (addMark s p.1)) p.2 p.1 from rfl, (addBt_so _ _ _).1, fold_so, (addMark_so s p.1).1] at hx
    rcases List.mem_append.mp hx with hx | hx
    · exact h x hx
    · exact okS (hp p (.head _)) hx
theorem due_okD (f g : Str) {ss : List St} (h : Steps ss) : okD 11 (encSS (dueOf f g ss)) := by
  have iv := SInv.folds (emit f g 0 ss) (s := ⟨[], [], [], []⟩) (n := 0) (i := 0) ⟨rfl, Nat.le_refl _, Nat.le_refl _, Nat.le_refl _⟩
  rw [Nat.zero_add, Nat.zero_add] at iv
  have e : ((emit f g 0 ss).map solN).sum ≤ 12 * ss.length := emit_sum f g ss 0 h.ok
  have e2 := emit_len f g ss 0
  have l := h.len
  have l1 := iv.so; have l2 := iv.jo; have l3 := iv.ma
  have o1 := fold_okS (emit f g 0 ss) (s := ⟨[], [], [], []⟩) (emit_ok h.ok) fun _ h => (nomatch h)
  change (dueOf f g ss).so.length = _ at l1
  change (dueOf f g ss).jo.length ≤ _ at l2
  change (dueOf f g ss).ma.length ≤ _ at l3
  change ∀ x ∈ (dueOf f g ss).so, _ at o1
  unfold encSS
  refine okD_3 (okD_tup (by rw [List.length_map]; omega) fun x hx => ?_) (okD_tup (by rw [List.length_map]; omega) fun x hx => ?_) (okD_tup (by rw [List.length_map]; omega) fun x hx => ?_)
  · obtain ⟨y, hy, rfl⟩ := List.mem_map.mp hx; exact o1 y hy
  · obtain ⟨y, hy, rfl⟩ := List.mem_map.mp hx; exact okJ y
  · obtain ⟨y, hy, rfl⟩ := List.mem_map.mp hx; exact okM y
theorem Inl.okT {xs : List In} {ss : List St} (h : Inl xs ss) : okD 30 (.tup (encIs xs)) :=
  okD_tup (by rw [encIs_map, List.length_map]; have := h.len; omega) fun y hy => okD_le (by have := h.dp; omega) (okXs_D xs h.ok y hy)
def qN : D → Bool
  | .tup (.str k :: _) => !decide (k = ("note" : Str)) | _ => false
theorem qN_eq : ∀ s : St, qN (encSt s) = notNote s
  | .leaf x => by cases x <;> (simp only [encSt, encI, qN, notNote]; decide +kernel)
  | .opn => by decide +kernel
  | .shut => by decide +kernel
theorem filter_enc (ss : List St) : ((ss.map encSt).filter qN).map id = (ss.filter notNote).map encSt := by
  rw [List.map_id, List.filter_map]
  congr 2
  funext s
  exact qN_eq s
def itemW (n : Int) : Str := toString n ++ "."
theorem itemW_len {n : Int} (h0 : 0 ≤ n) (h1 : n ≤ 1000) : 0 < (itemW n).length ∧ (itemW n).length ≤ 12 := by
  obtain ⟨m, rfl⟩ : ∃ m : Nat, n = (m : Int) := ⟨n.toNat, by omega⟩
  have := small_str m (by omega)
  have e : (itemW (m : Int)).length = (toString (m : Int) : String).length + 1 := by
    have a : (Str.ofString (toString (m : Int))).length = (toString (m : Int) : String).length := PySem.ofString_length _
    have b : (Str.ofString ".").cps.size = 1 := by decide +kernel
    show ((Str.ofString (toString (m : Int))).cps ++ (Str.ofString ".").cps).size = _
    rw [Array.size_append, b]
    exact congrArg (· + 1) a
  omega
section
variable {P : Program} {w : World} {K : PySem.W.Frag} {mg : Str → Option Value} {base : Heap}
theorem cal__law_pool (D : Dn K mg "_law_pool" s__law_pool ["script"]) (hB : Blt mg) : C8.Cal P w K mg base 1 "_law_pool" (FSp K spPool) [] := by
  have sc := sc__law_pool
  refine D.cal sc (fun p rs Φ h => ?_) fun f cdv A outer st H E hr p rs Φ h => ?_
  · obtain ⟨ns, e, _⟩ := h; rw [e]; rfl
  refine ⟨_, (pss_one (ps_ret (pe_lst (pa_cons (pe_callTy call_listA (by rfl) hB.list (by decide +kernel) (pa_cons (pv 0) pa_nil)) (pa_cons pe_int (pa_cons pe_int (pa_cons pe_int (pa_cons pe_int pa_nil)))))))), ?_⟩
  try dsimp only [L2.cxOf]
  obtain ⟨ns, rfl, post⟩ := h
  show WS (g0 K p) _ [.ro (ns.map Y.D.int)] _
  repeat walk_at "y"
  exact post
end
end Y

set_option maxHeartbeats 8000000
namespace Y
open PySem L2 PySem.Spec PyProof.Rows
local macro_rules | `(tactic| walk_at "y1") => `(tactic| first
  | with_reducible refine ws_asg ?_
  | with_reducible refine ws_next ?_
  | with_reducible refine ws_brk ?_
  | with_reducible refine ws_cont ?_
  | with_reducible refine ws_if ?_
  | ((with_reducible refine' ws_setL ?e ?_); (case e => rfl))
  | ((with_reducible refine' ws_app ?e ?_); (case e => rfl))
  | ((with_reducible refine' ws_ext ?e ?_); (case e => rfl))
  | with_reducible refine ws_asgG ?_
  | ((with_reducible refine' ws_retOwn ?e ?_); (case e => rfl))
  | with_reducible refine ws_ret ?_
  | with_reducible refine ws_retN ?_
  | with_reducible refine ws_drop ?_)
local macro_rules | `(tactic| walk_at "y2") => `(tactic| first
  | ((with_reducible refine' we_d ?e ?_); (case e => rfl))
  | ((with_reducible refine' we_raw ?e ?_); (case e => rfl))
  | ((with_reducible refine' we_ro ?e ?_); (case e => rfl))
  | ((with_reducible refine' we_m ?e ?_); (case e => rfl))
  | with_reducible refine we_cint ?_
  | with_reducible refine we_cstr ?_
  | with_reducible refine we_cbl ?_
  | with_reducible refine we_cnon ?_
  | with_reducible refine we_op ?_
  | with_reducible refine we_un ?_
  | with_reducible refine we_cb ?_
  | with_reducible refine we_tup ?_
  | with_reducible refine we_lst ?_
  | with_reducible refine wa_nil ?_
  | with_reducible refine wa_cons ?_
  | with_reducible refine we_bm0 ?_
  | with_reducible refine we_bm ?_
  | with_reducible refine we_m0 ?_
  | with_reducible refine we_m1 ?_
  | with_reducible refine we_sl ?_
  | with_reducible refine wo_none ?_
  | with_reducible refine wo_some ?_
  | with_reducible refine we_fld ?_
  | with_reducible refine we_call ?_
  | with_reducible refine we_mk ?_
  | with_reducible refine we_mkS ?_
  | with_reducible refine wt_test ?_
  | with_reducible refine wt_val ?_
  | with_reducible refine wt_and ?_
  | with_reducible refine wt_or ?_
  | with_reducible refine wt_not ?_
  | with_reducible refine wt_yes ?_
  | with_reducible refine wt_truth ?_
  | with_reducible refine we_andV ?_
  | with_reducible refine we_orV ?_
  | with_reducible refine we_notV ?_
  | with_reducible refine we_if ?_
  | with_reducible refine we_craw ?_)
local macro_rules | `(tactic| walk_at "y3") => `(tactic| first
  | with_reducible refine ro_plusI ?_
  | with_reducible refine ro_eqI ?_
  | with_reducible refine ro_eqS ?_
  | with_reducible refine ro_neI ?_
  | with_reducible refine ro_neS ?_
  | ((with_reducible refine' ro_I0 ?e ?_); (case e => rfl))
  | ((with_reducible refine' ro_I ?c ?e ?_); (case e => rfl); (case c => first | decide | omega | exact Or.inr (by decide) | exact Or.inl (by decide) | exact ⟨by decide, by decide +kernel⟩ | exact ⟨by decide, by decide, by decide⟩ | exact Or.inl ⟨by omega, by omega⟩ | exact Or.inr ⟨by omega, by omega⟩ | assumption))
  | ((with_reducible refine' ro_ix1 ?a ?b ?_); (case a => rfl); (case b => first | exact at0 | rfl))
  | ((with_reducible refine' ro_ix2 ?b ?_); (case b => first | exact at0 | rfl))
  | with_reducible refine ro_isN ?_
  | with_reducible refine ro_isA ?_
  | ((with_reducible refine' rc_len1 ?a ?_); (case a => first | exact Or.inl rfl | exact Or.inr rfl))
  | ((with_reducible refine' rc_isi ?a ?b ?_); (case a => rfl); (case b => first | exact kit_NoneType_int | exact kit_NoneType_bool | exact kit_NoneType_str | exact kit_NoneType_tuple | exact kit_NoneType_list | exact kit_bool_int | exact kit_bool_bool | exact kit_bool_str | exact kit_bool_tuple | exact kit_bool_list | exact kit_int_int | exact kit_int_bool | exact kit_int_str | exact kit_int_tuple | exact kit_int_list | exact kit_str_int | exact kit_str_bool | exact kit_str_str | exact kit_str_tuple | exact kit_str_list | exact kit_tuple_int | exact kit_tuple_bool | exact kit_tuple_str | exact kit_tuple_tuple | exact kit_tuple_list | exact kit_list_int | exact kit_list_bool | exact kit_list_str | exact kit_list_tuple | exact kit_list_list))
  | with_reducible refine rcA_abs ?_
  | with_reducible refine rcA_max ?_
  | with_reducible refine rcA_min ?_
  | with_reducible refine rcA_intI ?_
  | with_reducible refine rcA_intB ?_
  | ((with_reducible refine' rcA_list ?a ?_); (case a => first | exact Or.inl rfl | exact Or.inr rfl))
  | ((with_reducible refine' rcA_tuple ?a ?_); (case a => first | exact Or.inl rfl | exact Or.inr rfl)))
local macro_rules | `(tactic| walk_at "y4") => `(tactic| first
  | ((with_reducible refine' ite_t ?e ?_); (case e => rfl))
  | ((with_reducible refine' ite_f ?e ?_); (case e => rfl))
  | refine ⟨_, rfl, (show _ ≤ sizeLine by simp only [List.length_cons, List.length_nil]; decide), ?_⟩
  | refine ⟨_, rfl, ?_⟩
  | refine ⟨rfl, ?_⟩
  | refine ⟨_, _, rfl, rfl, ?_⟩)
local macro_rules | `(tactic| walk_at "z") => `(tactic| ((first | walk_at "y1" | walk_at "y2" | walk_at "y3" | walk_at "y4"); try dsimp only [List.set, Int.reduceToNat]))
local macro_rules | `(tactic| walk_at "y") => `(tactic| first | walk_at "z" | (with_reducible refine ws_seq ?_))
local macro_rules | `(tactic| walk_at "s") => `(tactic| ((with_reducible refine ws_seq ?_); repeat walk_at "z"))

abbrev s_law : Stmt := top 30
abbrev N_law : List Str := ["script", "pool", "told", "steps", "inlines", "style", "turned", "number", "ahead", "step"]
theorem sc_law : FnScope N_law ["script"] (C8.fnScope s_law) := C8.fnScope_by (by decide +kernel)
theorem raw_first {σ : L2.St} {H : Hp} {te : TE} {D : Ends} {i : Nat} {u : TS} (h : te σ H fun x H1 => u D (σ.set i (some x)) H1) : tSeq (tAsg te (gName i)) u D σ H := h
def spLaw (K : PySem.W.Frag) : Sp := fun vs H Q _ => ∃ (a : Addr) (ns : List Int), vs = [.ref a] ∧ SqL K H a (ns.map V.int) ∧ ns.length ≤ 63 ∧ ∀ H', Q (.bl true) H'
section
variable {P : Program} {w : World} {K : PySem.W.Frag} {mg : Str → Option Value} {base : Heap}
theorem fn_law {f : Addr} {fd : FuncData} (F : C8.Fun K "law" "law" s_law f fd) (hB : Blt mg) {CS CG : Addr} (hC : Cls K CS) (hA : StyA K CS)
    (c__law_pool : C8.Cal P w K mg base 1 "_law_pool" (FSp K spPool) []) (c__law_draw : C8.Cal P w K mg base 1 "_law_draw" (FSp K spDraw) []) (c__law_told_style : C8.Cal P w K mg base 5 "_law_told_style" (FSp K spTold) []) (c__law_steps : C8.Cal P w K mg base 6 "_law_steps" (FSp K spSteps) [])
    (c__law_nested : C8.Cal P w K mg base 1 "_law_nested" (FSp K spNested) []) (c_Style : C8.Mak P w K mg base 3 "Style" CS (ISp K CS (spStyle CG)) []) (c__law_same : C8.Cal P w K mg base 31 "_law_same" (FSp K (spSame 31)) []) (c_solids_of : C8.Cal P w K mg base 22 "solids_of" (FSp K (spSolidsOf K)) [])
    (c__law_due : C8.Cal P w K mg base 2 "_law_due" (FSp K spDue) []) (c_item_inlines : C8.Cal P w K mg base 1 "item_inlines" (FSp K spItem) []) (c_note_inlines : C8.Cal P w K mg base 1 "note_inlines" (FSp K spNote) []) : FnOk P w K mg base C8.CX0 33 f fd ["script"] (spLaw K) := by
  have sc := sc_law
  refine C8.fn0 F sc (fun vs H Q E h => ?_) fun cdv A outer st H vs Q E hr h => ?_
  · obtain ⟨a, ns, rfl, _⟩ := h; rfl
  refine ⟨_, (pss_cons (ps_set (i := 1) sc.nd rfl (by first | exact Or.inl rfl | exact Or.inr rfl) (C8.pe_c c__law_pool hr (by first | decide | omega) rfl (pa_cons (pv 0) pa_nil)))
      (pss_cons (ps_set (i := 2) sc.nd rfl (by first | exact Or.inl rfl | exact Or.inr rfl) (C8.pe_c c__law_told_style hr (by first | decide | omega) rfl (pa_cons (pv 1) pa_nil)))
      (pss_cons (ps_set (i := 3) sc.nd rfl (by first | exact Or.inl rfl | exact Or.inr rfl) (C8.pe_c c__law_steps hr (by first | decide | omega) rfl (pa_cons (pv 1) pa_nil)))
      (pss_cons (ps_set (i := 4) sc.nd rfl (by first | exact Or.inl rfl | exact Or.inr rfl) (C8.pe_c c__law_nested hr (by first | decide | omega) rfl (pa_cons (pv 3) pa_nil)))
      (pss_cons (ps_set (i := 5) sc.nd rfl (by first | exact Or.inl rfl | exact Or.inr rfl) (C8.pe_mk c_Style hr (by first | decide | omega) rfl (pa_cons (pv 2) pa_nil)))
      (pss_cons (ps_if (pt_not (pt_val (C8.pe_c c__law_same hr (by first | decide | omega) rfl (pa_cons (C8.pe_c c_solids_of hr (by first | decide | omega) rfl (pa_cons (pv 5) (pa_cons (pv 4) pa_nil))) (pa_cons (C8.pe_c c__law_due hr (by first | decide | omega) rfl (pa_cons (pv 2) (pa_cons (pv 3) pa_nil))) pa_nil))))) (pss_one (ps_ret pe_bl)) pss_nil)
      (pss_cons (ps_set (i := 6) sc.nd rfl (by first | exact Or.inl rfl | exact Or.inr rfl) (pe_op op_plus (pe_tup (pa_cons (pe_ix ix_seq (pv 2) pe_int (fun _ _ => rfl)) (pa_cons (pe_ix ix_seq (pv 2) pe_int (fun _ _ => rfl)) (pa_cons (pe_ix ix_seq (pv 2) pe_int (fun _ _ => rfl)) pa_nil)))) (pe_slice sl_tup (pv 2) (po_some pe_int) po_none)))
      (pss_cons (ps_if (pt_not (pt_val (C8.pe_c c__law_same hr (by first | decide | omega) rfl (pa_cons (C8.pe_c c_solids_of hr (by first | decide | omega) rfl (pa_cons (C8.pe_mk c_Style hr (by first | decide | omega) rfl (pa_cons (pv 6) pa_nil)) (pa_cons (pv 4) pa_nil))) (pa_cons (C8.pe_c c__law_due hr (by first | decide | omega) rfl (pa_cons (pv 6) (pa_cons (pv 3) pa_nil))) pa_nil))))) (pss_one (ps_ret pe_bl)) pss_nil)
      (pss_cons (ps_set (i := 7) sc.nd rfl (by first | exact Or.inl rfl | exact Or.inr rfl) (pe_op op_plus pe_int (C8.pe_c c__law_draw hr (by first | decide | omega) rfl (pa_cons (pv 1) (pa_cons pe_int pa_nil)))))
      (pss_cons (ps_set (i := 8) sc.nd rfl (by first | exact Or.inl rfl | exact Or.inr rfl) (pe_lst (pa_cons (pe_tup (pa_cons pe_str (pa_cons (pe_op op_plus (pe_callTy call_strA (by rfl) hB.str (by decide +kernel) (pa_cons (pv 7) pa_nil)) pe_str) pa_nil))) (pa_cons (pe_tup (pa_cons pe_str pa_nil)) pa_nil))))
      (pss_cons (ps_if (pt_not (pt_val (C8.pe_c c__law_same hr (by first | decide | omega) rfl (pa_cons (C8.pe_c c_item_inlines hr (by first | decide | omega) rfl (pa_cons (pv 7) (pa_cons (pv 4) pa_nil))) (pa_cons (pe_op op_plus (pe_callTy call_tupleA (by rfl) hB.tuple (by decide +kernel) (pa_cons (pv 8) pa_nil)) (pv 4)) pa_nil))))) (pss_one (ps_ret pe_bl)) pss_nil)
      (pss_cons (ps_if (pt_not (pt_val (C8.pe_c c__law_same hr (by first | decide | omega) rfl (pa_cons (C8.pe_c c_solids_of hr (by first | decide | omega) rfl (pa_cons (pv 5) (pa_cons (pe_op op_plus (pe_callTy call_tupleA (by rfl) hB.tuple (by decide +kernel) (pa_cons (pv 8) pa_nil)) (pv 4)) pa_nil))) (pa_cons (C8.pe_c c__law_due hr (by first | decide | omega) rfl (pa_cons (pv 2) (pa_cons (pe_op op_plus (pv 8) (pv 3)) pa_nil))) pa_nil))))) (pss_one (ps_ret pe_bl)) pss_nil)
      (pss_cons (ps_set (i := 8) sc.nd rfl (by first | exact Or.inl rfl | exact Or.inr rfl) (pe_lst (pa_cons (pe_tup (pa_cons pe_str (pa_cons (pv 7) (pa_cons (pe_tup pa_nil) pa_nil)))) (pa_cons (pe_tup (pa_cons pe_str pa_nil)) pa_nil))))
      (pss_cons (ps_setLc (i := 3) (own := [("step", 9)]) (g := (gName 9)) (tt := (tTest (tOp rNe (tOp (rIx K) (tVar 9) (tC (.int 0))) (tC (.str "note"))))) (te := (tVar 9)) (by rfl) sc.nd rfl rfl (sw_true rfl rfl rfl (by decide +kernel)) (pi_list (pv 3)) (blkOk_by (N := N_law) (sc := C8.fnScope s_law) (by decide +kernel)) (fun _ _ _ _ _ => pg_name (i := 9) sc.nd rfl (by first | exact Or.inl rfl | exact Or.inr rfl)) (fun _ _ _ _ _ => pts_one (pt_cmpR op_ne (pe_ix ix_seq (pv 9) pe_int (fun _ _ => rfl)) pe_str (nomark _))) (fun _ _ _ _ _ => (pv 9)))
      (pss_cons (ps_set (i := 4) sc.nd rfl (by first | exact Or.inl rfl | exact Or.inr rfl) (C8.pe_c c__law_nested hr (by first | decide | omega) rfl (pa_cons (pv 3) pa_nil)))
      (pss_cons (ps_if (pt_not (pt_val (C8.pe_c c__law_same hr (by first | decide | omega) rfl (pa_cons (C8.pe_c c_note_inlines hr (by first | decide | omega) rfl (pa_cons (pv 7) (pa_cons (pv 4) pa_nil))) (pa_cons (pe_op op_plus (pe_callTy call_tupleA (by rfl) hB.tuple (by decide +kernel) (pa_cons (pv 8) pa_nil)) (pv 4)) pa_nil))))) (pss_one (ps_ret pe_bl)) pss_nil)
      (pss_one (ps_ret (C8.pe_c c__law_same hr (by first | decide | omega) rfl (pa_cons (C8.pe_c c_solids_of hr (by first | decide | omega) rfl (pa_cons (pv 5) (pa_cons (pe_op op_plus (pe_callTy call_tupleA (by rfl) hB.tuple (by decide +kernel) (pa_cons (pv 8) pa_nil)) (pv 4)) pa_nil))) (pa_cons (C8.pe_c c__law_due hr (by first | decide | omega) rfl (pa_cons (pv 2) (pa_cons (pe_op op_plus (pv 8) (pv 3)) pa_nil))) pa_nil))))))))))))))))))))), ?_⟩
  try dsimp only [L2.cxOf]
  obtain ⟨a, ns, rfl, hS, hl, post⟩ := h
  refine raw_first ?_
  have k0 : Ok K none H (fun _ => none) := ⟨fun _ _ e => (nomatch e), fun _ e => (nomatch e)⟩
  have R0 : Rel K none H (fun _ => none) (L2.start N_law [.ref a]) H (fun _ => none) [.ro (ns.map Y.D.int), .any, .any, .any, .any, .any, .any, .any, .any, .any] :=
    start_rel (N := N_law) (rs := [.l (ns.map Y.D.int)]) k0 (.cons ⟨a, _, rfl, hS, (fun z => nomatch z), ints_tps ns⟩ .nil)
  have w1 : WE (g0 K none) (tCall (FSp K spPool) [] C8.E0 (tCons (tVar 0) tNil)) [.ro (ns.map Y.D.int), .any, .any, .any, .any, .any, .any, .any, .any, .any] fun r => r = .nl (poolD ns 0 0 0 1) := by
    repeat walk_at "y"
    exact ⟨_, .cons (.l _) .nil, ns, rfl, rfl⟩
  refine w1 H _ _ H _ R0 exc0 _ fun v r H2 F2 er n o => ?_
  subst er
  obtain ⟨q, u, rfl, hq0, hq2, fq, mo⟩ := o
  obtain ⟨xs, rfl, t⟩ := mo.lst
  obtain ⟨l, rfl, rl⟩ := tps_pool t
  have ok2 : Ok K (some q) H2 F2 := ⟨n.ok.sub, fun q' e => by cases e; exact ⟨⟨l, ns, 0, 0, 0, 1, hq2, rl, by decide⟩, fq⟩⟩
  have R2 : Rel K (some q) H2 F2 ((L2.start N_law [.ref a]).set 1 (some (.ref q))) H2 F2 [.any, .raw (.ref q), .any, .any, .any, .any, .any, .any, .any, .any] := by
    refine ⟨ok2, Nx.refl ok2, rfl, fun i s e => ?_, fun i j a q r ds es ne e1 => ?_⟩
    · match i, e with
      | 0, e => cases e; exact ⟨_, rfl, trivial⟩
      | 1, e => cases e; exact ⟨_, rfl, rfl⟩
      | 2, e => cases e; exact ⟨_, rfl, trivial⟩
      | 3, e => cases e; exact ⟨_, rfl, trivial⟩
      | 4, e => cases e; exact ⟨_, rfl, trivial⟩
      | 5, e => cases e; exact ⟨_, rfl, trivial⟩
      | 6, e => cases e; exact ⟨_, rfl, trivial⟩
      | 7, e => cases e; exact ⟨_, rfl, trivial⟩
      | 8, e => cases e; exact ⟨_, rfl, trivial⟩
      | 9, e => cases e; exact ⟨_, rfl, trivial⟩
    · match i, e1 with
      | 0, e => cases e
      | 1, e => cases e
      | 2, e => cases e
      | 3, e => cases e
      | 4, e => cases e
      | 5, e => cases e
      | 6, e => cases e
      | 7, e => cases e
      | 8, e => cases e
      | 9, e => cases e
  refine ws_run (Γ := g0 K (some q)) (E := { nx := fun _ => False, rt := fun r _ => r = .d (.bl true) }) ?_ R2 exc0 ⟨fun _ _ _ _ z => z.elim, fun v r σ' H' F' sv' e _ _ o => by subst e; cases o; exact post H', fun _ _ _ _ z => z.elim, fun _ _ _ _ z => z.elim⟩
  clear R2 R0 w1
  repeat walk_at "y"
  refine ⟨_, .cons (.raw _) .nil, q, rfl, rfl, fun ta td te tg th b c gx gy hb hc => ?_⟩
  have nb : b ≠ "" := fun e => by rw [e] at hb; exact absurd hb (by decide +kernel)
  have nc : c ≠ "" := fun e => by rw [e] at hc; exact absurd hc (by decide +kernel)
  repeat walk_at "y"
  refine ⟨_, .cons (.raw _) .nil, q, rfl, rfl, fun ss hSt hS90 => ?_⟩
  have I0 := Inl.base hSt
  repeat walk_at "y"
  refine ⟨_, .cons (.ol _) .nil, ss, rfl, hSt, ?_⟩
  repeat walk_at "y"
  refine ⟨_, .cons (.d _) .nil, ta, .str b, .str c, td, te, tg, th, gx, gy, rfl, _, rfl, ?_⟩
  refine ws_frz (i := 5) rfl ?_
  dsimp only [List.set, Mo.dat]
  generalize hM : tMake CS (ISp K CS (spStyle CG)) [] C8.E0 (tCons (tVar 6) tNil) = M
  generalize hT : tAsg (tLc (iList K (tVar 3)) (gName 9) (tTest (tOp rNe (tOp (rIx K) (tVar 9) (tC (.int 0))) (tC (.str "note")))) (tVar 9) (([("step", 9)] : List (Str × Nat)).map (·.2))) (gName 3) = T
  repeat walk_at "y"
  refine ⟨_, .cons (.d _) (.cons (.d _) .nil), CS, _, _, b, c, nested ss, rfl, rfl, rfl, hC, hA.n2, hA.n3, by have := I0.dp; omega, I0.l1 b c, I0.l2 b c, ?_⟩
  rw [I0.eq b c]
  repeat walk_at "y"
  refine ⟨_, .cons (.d _) (.cons (.ol _) .nil), ta, b, c, _, ss, rfl, nb, nc, hSt, ?_⟩
  repeat walk_at "y"
  refine ⟨_, .cons (.d _) (.cons (.d _) .nil), _, rfl, okD_le (by decide) (due_okD b c hSt), ?_⟩
  repeat walk_at "y"
  refine rs_tup (show ¬ (HT.sIx 9 0 (some 3) = 0 ∧ HT.sIx 9 9 none = 9) by decide) ?_
  repeat walk_at "y"
  refine ro_plusT (by simp) (show 3 + 6 ≤ sizeLine by decide) ?_
  repeat walk_at "y"
  subst hM
  refine we_frz ?_
  repeat walk_at "y"
  refine ⟨_, .cons (.d _) .nil, ta, .str c, .str b, td, te, tg, th, gx, gy, rfl, _, rfl, ?_⟩
  repeat walk_at "y"
  refine ⟨_, .cons (.d _) (.cons (.d _) .nil), CS, _, _, c, b, nested ss, rfl, rfl, rfl, hC, hA.n2, hA.n3, by have := I0.dp; omega, I0.l1 c b, I0.l2 c b, ?_⟩
  rw [I0.eq c b]
  repeat walk_at "y"
  refine ⟨_, .cons (.d _) (.cons (.ol _) .nil), ta, c, b, _, ss, rfl, nc, nb, hSt, ?_⟩
  repeat walk_at "y"
  refine ⟨_, .cons (.d _) (.cons (.d _) .nil), _, rfl, okD_le (by decide) (due_okD c b hSt), ?_⟩
  repeat walk_at "y"
  refine ⟨_, .cons (.raw _) (.cons (.d _) .nil), q, _, rfl, rfl, by decide, by decide, fun r h0 h1 => ?_⟩
  repeat walk_at "y"
  refine rcA_str (Nat.lt_trans (PySem.Flt.log2_lt_of (k := 62) (by decide) (by omega)) (by decide)) ?_
  repeat walk_at "y"
  have hw := itemW_len (n := 1 + r) (by omega) (by omega)
  refine ro_plusS ?_ ?_
  · obtain ⟨m, hm⟩ : ∃ m : Nat, 1 + r = (m : Int) := ⟨(1 + r).toNat, by omega⟩
    rw [hm]
    have := small_str m (by omega)
    rw [show (Str.ofString (toString (m : Int))).length = (toString (m : Int) : String).length from PySem.ofString_length _]
    show _ + 1 ≤ 16777216
    omega
  have l0 : (encIs (nested ss)).length = (nested ss).length := by rw [encIs_map, List.length_map]
  have I1 := (I0.cons (x := .tie) trivial (by omega) (by have := (nested_ok hSt "" "").2.1; omega)).cons (x := .word (itemW (1 + r))) hw (by rw [List.length_cons]; omega) (by rw [List.length_cons]; have := (nested_ok hSt "" "").2.1; omega)
  repeat walk_at "y"
  refine ⟨_, .cons (.d _) (.cons (.d _) .nil), 1 + r, encIs (nested ss), rfl, by omega, by omega, by rw [l0]; have := I0.len; omega, ?_⟩
  repeat walk_at "y"
  refine ro_plusT (by simp) (by rw [l0]; show _ ≤ 16777216; have := I0.len; simp only [List.length_cons, List.length_nil]; omega) ?_
  repeat walk_at "y"
  refine ⟨_, .cons (.d _) (.cons (.d _) .nil), .tup (encIs (.word (itemW (1 + r)) :: .tie :: nested ss)), by simp only [encIs, encI]; rfl, I1.okT, ?_⟩
  repeat walk_at "y"
  refine ro_plusT (by simp) (by rw [l0]; show _ ≤ 16777216; have := I0.len; simp only [List.length_cons, List.length_nil]; omega) ?_
  repeat walk_at "y"
  refine ⟨_, .cons (.d _) (.cons (.d _) .nil), CS, _, _, b, c, .word (itemW (1 + r)) :: .tie :: nested ss, by simp only [encIs, encI]; rfl, rfl, rfl, hC, hA.n2, hA.n3, by have := I1.dp; omega, I1.l1 b c, I1.l2 b c, ?_⟩
  rw [I1.eq b c]
  repeat walk_at "y"
  refine ro_plusL (.inl rfl) (.inl rfl) (by rw [List.length_map]; show _ ≤ 16777216; simp only [List.length_cons, List.length_nil]; have := hSt.len; omega) ?_
  repeat walk_at "y"
  refine ⟨_, .cons (.d _) (.cons (.nl _) .nil), ta, b, c, _, .leaf (.word (itemW (1 + r))) :: .leaf .tie :: ss, by simp only [encSt, encI, List.map_cons]; rfl, nb, nc, I1.st, ?_⟩
  repeat walk_at "y"
  refine ⟨_, .cons (.d _) (.cons (.d _) .nil), _, rfl, okD_le (by decide) (due_okD b c I1.st), ?_⟩
  repeat walk_at "y"
  subst hT
  refine ws_frz (i := 3) rfl ?_
  dsimp only [List.set, Mo.dat]
  repeat walk_at "y"
  refine we_lcF qN id ?_
  refine wi_list ?_
  repeat walk_at "y"
  refine ⟨by rw [List.length_map]; show _ ≤ 16777216; have := hSt.len; omega, fun i x hx => ?_, ?_⟩
  · rw [List.getElem?_map] at hx
    cases hxi : ss[i]? with
    | none => rw [hxi] at hx; cases hx
    | some s =>
      rw [hxi] at hx
      cases hx
      have ok := hSt.ok s (List.mem_of_getElem? hxi)
      refine ⟨[9], by simp, wg_name ?_⟩
      dsimp only [List.map, wipeS, List.set]
      cases s with
      | leaf x =>
        cases x with
        | strong _ => exact ok.elim
        | _ =>
          simp only [encSt, encI]
          repeat walk_at "y"
          refine fun _ => ?_
          repeat walk_at "y"
          rfl
      | _ =>
        simp only [encSt]
        repeat walk_at "y"
        refine fun _ => ?_
        repeat walk_at "y"
        rfl
  rw [filter_enc]
  have hSf := hSt.filter
  have hf90 : (ss.filter notNote).length ≤ 90 := Nat.le_trans (List.length_filter_le _ _) hS90
  generalize ss.filter notNote = sf at hSf hf90 ⊢
  have I2 := Inl.base hSf
  have l2 : (encIs (nested sf)).length = (nested sf).length := by rw [encIs_map, List.length_map]
  have I3 := (I2.cons (x := .tie) trivial (by omega) (by have := (nested_ok hSf "" "").2.1; omega)).cons (x := .note (1 + r) (.tup [])) (okD_0 6) (by rw [List.length_cons]; omega) (by rw [List.length_cons]; have := (nested_ok hSf "" "").2.1; omega)
  repeat walk_at "y"
  refine ⟨_, .cons (.ol _) .nil, sf, rfl, hSf, ?_⟩
  repeat walk_at "y"
  refine ⟨_, .cons (.d _) (.cons (.d _) .nil), 1 + r, encIs (nested sf), rfl, by rw [l2]; have := I2.len; omega, ?_⟩
  repeat walk_at "y"
  refine ro_plusT (by simp) (by rw [l2]; show _ ≤ 16777216; have := I2.len; simp only [List.length_cons, List.length_nil]; omega) ?_
  repeat walk_at "y"
  refine ⟨_, .cons (.d _) (.cons (.d _) .nil), .tup (encIs (.note (1 + r) (.tup []) :: .tie :: nested sf)), by simp only [encIs, encI]; rfl, I3.okT, ?_⟩
  repeat walk_at "y"
  refine ro_plusT (by simp) (by rw [l2]; show _ ≤ 16777216; have := I2.len; simp only [List.length_cons, List.length_nil]; omega) ?_
  repeat walk_at "y"
  refine ⟨_, .cons (.d _) (.cons (.d _) .nil), CS, _, _, b, c, .note (1 + r) (.tup []) :: .tie :: nested sf, by simp only [encIs, encI]; rfl, rfl, rfl, hC, hA.n2, hA.n3, by have := I3.dp; omega, I3.l1 b c, I3.l2 b c, ?_⟩
  rw [I3.eq b c]
  repeat walk_at "y"
  refine ro_plusL (.inl rfl) (.inl rfl) (by rw [List.length_map]; show _ ≤ 16777216; simp only [List.length_cons, List.length_nil]; have := hSf.len; omega) ?_
  repeat walk_at "y"
  refine ⟨_, .cons (.d _) (.cons (.nl _) .nil), ta, b, c, _, .leaf (.note (1 + r) (.tup [])) :: .leaf .tie :: sf, by simp only [encSt, encI, List.map_cons]; rfl, nb, nc, I3.st, ?_⟩
  repeat walk_at "y"
  refine ⟨_, .cons (.d _) (.cons (.d _) .nil), _, rfl, okD_le (by decide) (due_okD b c I3.st), ?_⟩
  exact ⟨rfl, rfl⟩
end
end Y

set_option maxHeartbeats 8000000
namespace Y
open PySem L2 PySem.Spec PyProof.Rows
def DnF (K : PySem.W.Frag) (x : Str) (st : Stmt) : Prop := ∃ (f : Addr) (oc : Value) (od : Option Addr) (kV dc pm : Value) (an : Option Addr) (cd ct : Value) (sl : Array (Option Value)), PySem.W.nsIn K mainGlobals x = some (some (.ref f)) ∧
  K.lookup f = some ⟨oc, od, .func (PySem.W.fnOf x x (C8.fnArgs st) (C8.fnBody st) (C8.fnScope st) .none kV dc pm an cd ct), sl⟩ ∧ PySem.W.codeIn K cd x = true ∧ PySem.W.keepIn K (.ref f) = true
theorem DnF.mk' {K : PySem.W.Frag} {x : Str} {st : Stmt} {f : Addr} {oc : Value} {od : Option Addr} {kV dc pm : Value} {an : Option Addr} {cd ct : Value} {sl : Array (Option Value)} (a : PySem.W.nsIn K mainGlobals x = some (some (.ref f)))
    (l : K.lookup f = some ⟨oc, od, .func (PySem.W.fnOf x x (C8.fnArgs st) (C8.fnBody st) (C8.fnScope st) .none kV dc pm an cd ct), sl⟩) (c : PySem.W.codeIn K cd x = true) (k : PySem.W.keepIn K (.ref f) = true) : DnF K x st := ⟨f, oc, od, kV, dc, pm, an, cd, ct, sl, a, l, c, k⟩
theorem DnF.dn {K : PySem.W.Frag} {h : Heap} {mg : Str → Option Value} {x : Str} {st : Stmt} (X : K.In h) (G : h.Ns mainGlobals mg) (d : DnF K x st) {ps : List Str} (hb : ∀ (kV doc pm : Value) (an : Option Addr) (cdv ct : Value) (us : List Value), us.length = ps.length → bindArgs (PySem.W.fnOf x x (C8.fnArgs st) (C8.fnBody st) (C8.fnScope st) .none kV doc pm an cdv ct) { pos := us } = pure (ps.zip us)) : Dn K mg x st ps := by
  obtain ⟨f, oc, od, kV, dc, pm, an, cd, ct, sl, a, l, c, k⟩ := d
  have F : C8.Fun K x x st f (PySem.W.fnOf x x (C8.fnArgs st) (C8.fnBody st) (C8.fnScope st) .none kV dc pm an cd ct) := ⟨⟨oc, od, .none, kV, dc, pm, an, cd, ct, sl, rfl, l, c⟩⟩
  exact ⟨f, _, ⟨F, PySem.W.mg_of X G a, k⟩, F.binds rfl hb⟩
def InF (K : PySem.W.Frag) (x qual : Str) (C : Addr) (st : Stmt) : Prop := ∃ (f : Addr) (oc : Value) (od : Option Addr) (kV dc pm : Value) (an : Option Addr) (cd ct : Value) (sl : Array (Option Value)), PySem.W.nsIn K mainGlobals x = some (some (.ref C)) ∧
  PySem.W.findIn K (.ref C) "__init__" = some (some (.ref f)) ∧ PySem.W.isFn K (.ref f) = true ∧ K.lookup f = some ⟨oc, od, .func (PySem.W.fnOf "__init__" qual (C8.fnArgs st) (C8.fnBody st) (C8.fnScope st) .none kV dc pm an cd ct), sl⟩ ∧ PySem.W.codeIn K cd qual = true ∧
  PySem.W.plainGet K C Str.empty = true ∧ PySem.W.hasDictIn K C = true ∧ PySem.W.plainOver K C = true ∧ PySem.W.findIn K (.ref C) "__setattr__" = some (some (.builtin "object.__setattr__")) ∧ PySem.W.makesIn K C = true ∧ PySem.W.keepIn K (.ref C) = true
theorem InF.mk' {K : PySem.W.Frag} {x qual : Str} {C : Addr} {st : Stmt} {f : Addr} {oc : Value} {od : Option Addr} {kV dc pm : Value} {an : Option Addr} {cd ct : Value} {sl : Array (Option Value)} (a : PySem.W.nsIn K mainGlobals x = some (some (.ref C)))
    (fi : PySem.W.findIn K (.ref C) "__init__" = some (some (.ref f))) (is : PySem.W.isFn K (.ref f) = true) (l : K.lookup f = some ⟨oc, od, .func (PySem.W.fnOf "__init__" qual (C8.fnArgs st) (C8.fnBody st) (C8.fnScope st) .none kV dc pm an cd ct), sl⟩) (c : PySem.W.codeIn K cd qual = true)
    (pg : PySem.W.plainGet K C Str.empty = true) (hd : PySem.W.hasDictIn K C = true) (po : PySem.W.plainOver K C = true) (sa : PySem.W.findIn K (.ref C) "__setattr__" = some (some (.builtin "object.__setattr__"))) (mk : PySem.W.makesIn K C = true) (kc : PySem.W.keepIn K (.ref C) = true) : InF K x qual C st :=
  ⟨f, oc, od, kV, dc, pm, an, cd, ct, sl, a, fi, is, l, c, pg, hd, po, sa, mk, kc⟩
theorem InF.in1 {K : PySem.W.Frag} {h : Heap} {mg : Str → Option Value} {x qual : Str} {C : Addr} {st : Stmt} (X : K.In h) (G : h.Ns mainGlobals mg) (d : InF K x qual C st) {ps : List Str} (hb : ∀ (kV doc pm : Value) (an : Option Addr) (cdv ct : Value) (us : List Value), us.length = ps.length → bindArgs (PySem.W.fnOf "__init__" qual (C8.fnArgs st) (C8.fnBody st) (C8.fnScope st) .none kV doc pm an cdv ct) { pos := us } = pure (ps.zip us)) : In1 K mg x qual C st ps := by
  obtain ⟨f, oc, od, kV, dc, pm, an, cd, ct, sl, a, fi, is, l, c, pg, hd, po, sa, mk, kc⟩ := d
  have F : C8.Fun K "__init__" qual st f (PySem.W.fnOf "__init__" qual (C8.fnArgs st) (C8.fnBody st) (C8.fnScope st) .none kV dc pm an cd ct) := ⟨⟨oc, od, .none, kV, dc, pm, an, cd, ct, sl, rfl, l, c⟩⟩
  exact ⟨⟨pg, hd, po, sa⟩, PySem.W.mg_of X G a, f, _, ⟨mk, fi, is, kc⟩, F, F.binds rfl hb⟩
structure BltF (K : PySem.W.Frag) : Prop where
  len : PySem.W.nsIn K mainGlobals "len" = some none
  int : PySem.W.nsIn K mainGlobals "int" = some none
  str : PySem.W.nsIn K mainGlobals "str" = some none
  abs : PySem.W.nsIn K mainGlobals "abs" = some none
  max : PySem.W.nsIn K mainGlobals "max" = some none
  min : PySem.W.nsIn K mainGlobals "min" = some none
  list : PySem.W.nsIn K mainGlobals "list" = some none
  tuple : PySem.W.nsIn K mainGlobals "tuple" = some none
  range : PySem.W.nsIn K mainGlobals "range" = some none
  isinstance : PySem.W.nsIn K mainGlobals "isinstance" = some none
  bool : PySem.W.nsIn K mainGlobals "bool" = some none
theorem BltF.blt {K : PySem.W.Frag} {h : Heap} {mg : Str → Option Value} (X : K.In h) (G : h.Ns mainGlobals mg) (b : BltF K) : Blt mg :=
  ⟨PySem.W.mg_none_of X G b.len, PySem.W.mg_none_of X G b.int, PySem.W.mg_none_of X G b.str, PySem.W.mg_none_of X G b.abs, PySem.W.mg_none_of X G b.max, PySem.W.mg_none_of X G b.min, PySem.W.mg_none_of X G b.list, PySem.W.mg_none_of X G b.tuple, PySem.W.mg_none_of X G b.range, PySem.W.mg_none_of X G b.isinstance, PySem.W.mg_none_of X G b.bool⟩
structure GluA (K : PySem.W.Frag) (C : Addr) : Prop where
  n1 : NoAttr K C "natural"
  n2 : NoAttr K C "stretch"
  n3 : NoAttr K C "shrink"
theorem all_mk {l : PySem.W.OpenLaw} {w : World} {K : PySem.W.Frag} {h : Heap} {mg : Str → Option Value} {fa CS CG : Addr} (X : K.In h) (G : h.Ns mainGlobals mg) (hfa : mg "law" = some (.ref fa)) (fB : BltF K)
    (f02 : DnF K "item_inlines" s_item_inlines) (f03 : DnF K "note_inlines" s_note_inlines) (f04 : DnF K "_in_fonts" s__in_fonts) (f05 : DnF K "_solids_in" s__solids_in) (f06 : DnF K "_joint" s__joint) (f07 : DnF K "solids_of" s_solids_of)
    (f09 : InF K "Glue" "Glue.__init__" CG s_Glue_init) (f10 : GluA K CG) (f11 : InF K "Style" "Style.__init__" CS s_Style_init) (f12 : StyA K CS)
    (f13 : DnF K "_law_pool" s__law_pool) (f14 : DnF K "_law_draw" s__law_draw) (f15 : DnF K "_law_pick" s__law_pick) (f16 : DnF K "_law_rare" s__law_rare) (f17 : DnF K "_law_few" s__law_few) (f18 : DnF K "_law_same" s__law_same)
    (f19 : DnF K "_law_names" s__law_names) (f20 : DnF K "_law_triple" s__law_triple) (f21 : DnF K "_law_told_style" s__law_told_style) (f22 : DnF K "_law_word" s__law_word) (f23 : DnF K "_law_formula" s__law_formula) (f24 : DnF K "_law_inner" s__law_inner)
    (f25 : DnF K "_law_steps" s__law_steps) (f26 : DnF K "_law_nested" s__law_nested) (f27 : DnF K "_law_own" s__law_own) (f28 : DnF K "_law_joint" s__law_joint) (f29 : DnF K "_law_due" s__law_due) (f30 : DnF K "law" s_law) :
    ∃ fd : FuncData, (∀ (s : Shared) (v : Value), BindsTo s fd ⟨[v], []⟩ [("script", v)]) ∧ ∀ base : Heap, K.In base → base.Ns mainGlobals mg → FnOk l.prog w K mg base C8.CX0 33 fa fd ["script"] (spLaw K) := by
  obtain ⟨f, oc, od, kV, dc, pm, an, cd, ct, sl, a, ll, c, k⟩ := f30
  have e := hfa.symm.trans (PySem.W.mg_of X G a)
  cases e
  have F : C8.Fun K "law" "law" s_law fa (PySem.W.fnOf "law" "law" (C8.fnArgs s_law) (C8.fnBody s_law) (C8.fnScope s_law) .none kV dc pm an cd ct) := ⟨⟨oc, od, .none, kV, dc, pm, an, cd, ct, sl, rfl, ll, c⟩⟩
  have hB := fB.blt X G
  have d02 : Dn K mg "item_inlines" s_item_inlines ["n", "inlines"] := f02.dn X G fun _ _ _ _ _ _ us hl => match us, hl with | [_, _], _ => rfl
  have d03 : Dn K mg "note_inlines" s_note_inlines ["n", "inlines"] := f03.dn X G fun _ _ _ _ _ _ us hl => match us, hl with | [_, _], _ => rfl
  have d04 : Dn K mg "_in_fonts" s__in_fonts ["inlines", "font", "strong"] := f04.dn X G fun _ _ _ _ _ _ us hl => match us, hl with | [_, _, _], _ => rfl
  have d05 : Dn K mg "_solids_in" s__solids_in ["inline", "font"] := f05.dn X G fun _ _ _ _ _ _ us hl => match us, hl with | [_, _], _ => rfl
  have d06 : Dn K mg "_joint" s__joint ["left", "right", "between"] := f06.dn X G fun _ _ _ _ _ _ us hl => match us, hl with | [_, _, _], _ => rfl
  have d07 : Dn K mg "solids_of" s_solids_of ["style", "inlines"] := f07.dn X G fun _ _ _ _ _ _ us hl => match us, hl with | [_, _], _ => rfl
  have d13 : Dn K mg "_law_pool" s__law_pool ["script"] := f13.dn X G fun _ _ _ _ _ _ us hl => match us, hl with | [_], _ => rfl
  have d14 : Dn K mg "_law_draw" s__law_draw ["pool", "many"] := f14.dn X G fun _ _ _ _ _ _ us hl => match us, hl with | [_, _], _ => rfl
  have d15 : Dn K mg "_law_pick" s__law_pick ["pool", "row"] := f15.dn X G fun _ _ _ _ _ _ us hl => match us, hl with | [_, _], _ => rfl
  have d16 : Dn K mg "_law_rare" s__law_rare ["pool", "many"] := f16.dn X G fun _ _ _ _ _ _ us hl => match us, hl with | [_, _], _ => rfl
  have d17 : Dn K mg "_law_few" s__law_few ["pool", "usual", "most"] := f17.dn X G fun _ _ _ _ _ _ us hl => match us, hl with | [_, _, _], _ => rfl
  have d18 : Dn K mg "_law_same" s__law_same ["got", "due"] := f18.dn X G fun _ _ _ _ _ _ us hl => match us, hl with | [_, _], _ => rfl
  have d19 : Dn K mg "_law_names" s__law_names ["pool"] := f19.dn X G fun _ _ _ _ _ _ us hl => match us, hl with | [_], _ => rfl
  have d20 : Dn K mg "_law_triple" s__law_triple ["pool"] := f20.dn X G fun _ _ _ _ _ _ us hl => match us, hl with | [_], _ => rfl
  have d21 : Dn K mg "_law_told_style" s__law_told_style ["pool"] := f21.dn X G fun _ _ _ _ _ _ us hl => match us, hl with | [_], _ => rfl
  have d22 : Dn K mg "_law_word" s__law_word ["pool"] := f22.dn X G fun _ _ _ _ _ _ us hl => match us, hl with | [_], _ => rfl
  have d23 : Dn K mg "_law_formula" s__law_formula ["pool"] := f23.dn X G fun _ _ _ _ _ _ us hl => match us, hl with | [_], _ => rfl
  have d24 : Dn K mg "_law_inner" s__law_inner ["pool"] := f24.dn X G fun _ _ _ _ _ _ us hl => match us, hl with | [_], _ => rfl
  have d25 : Dn K mg "_law_steps" s__law_steps ["pool"] := f25.dn X G fun _ _ _ _ _ _ us hl => match us, hl with | [_], _ => rfl
  have d26 : Dn K mg "_law_nested" s__law_nested ["steps"] := f26.dn X G fun _ _ _ _ _ _ us hl => match us, hl with | [_], _ => rfl
  have d27 : Dn K mg "_law_own" s__law_own ["step", "font"] := f27.dn X G fun _ _ _ _ _ _ us hl => match us, hl with | [_, _], _ => rfl
  have d28 : Dn K mg "_law_joint" s__law_joint ["rank", "room", "left", "right"] := f28.dn X G fun _ _ _ _ _ _ us hl => match us, hl with | [_, _, _, _], _ => rfl
  have d29 : Dn K mg "_law_due" s__law_due ["told", "steps"] := f29.dn X G fun _ _ _ _ _ _ us hl => match us, hl with | [_, _], _ => rfl
  have iG : In1 K mg "Glue" "Glue.__init__" CG s_Glue_init ["self", "natural", "stretch", "shrink"] := f09.in1 X G fun _ _ _ _ _ _ us hl => match us, hl with | [_, _, _, _], _ => rfl
  have iS : In1 K mg "Style" "Style.__init__" CS s_Style_init ["self", "told"] := f11.in1 X G fun _ _ _ _ _ _ us hl => match us, hl with | [_, _], _ => rfl
  refine ⟨PySem.W.fnOf "law" "law" (C8.fnArgs s_law) (C8.fnBody s_law) (C8.fnScope s_law) .none kV dc pm an cd ct, fun s v => .of_eq rfl, fun base _ _ => ?_⟩
  have cD := cal__law_draw (P := l.prog) (w := w) (base := base) d14 hB
  have cP := cal__law_pick d15 hB cD
  have cR := cal__law_rare d16 hB cD
  have cF := cal__law_few d17 hB cD cR
  have cW := cal__law_word cD cP cF cR d22 hB
  have cT := cal__law_triple cD cP cF cR d20 hB
  have cN := cal__law_names cD cP cF cR d19 hB
  have cTo := cal__law_told_style cD cP cF cR d21 hB cN cT
  have cFo := cal__law_formula cD cP cW d23 hB
  have cIn := cal__law_inner cD cP cW d24 hB
  have cSt := cal__law_steps cD cP cF cW cFo cIn d25 hB
  have cNe := cal__law_nested (P := l.prog) (w := w) (base := base) d26 hB
  have cO := cal__law_own (P := l.prog) (w := w) (base := base) d27 hB
  have cJ := cal__law_joint (P := l.prog) (w := w) (base := base) d28 hB
  have cDu := cal__law_due d29 hB cO cJ
  have mG := mak_Glue (P := l.prog) (w := w) (base := base) iG f10.n1 f10.n2 f10.n3
  have mS := mak_Style iS f12 mG
  have cSa := cal__law_same (P := l.prog) (w := w) (base := base) d18 hB 31
  have cIF := cal__in_fonts (P := l.prog) (w := w) (base := base) d04 hB 21
  have cSI := cal__solids_in (P := l.prog) (w := w) (base := base) d05 hB
  have cJo := cal__joint (P := l.prog) (w := w) (base := base) d06 hB
  have cSo := cal_solids_of d07 hB cIF cSI cJo
  have cI := cal_item_inlines (P := l.prog) (w := w) (base := base) d02 hB
  have cNo := cal_note_inlines (P := l.prog) (w := w) (base := base) d03 hB
  have cPo := cal__law_pool (P := l.prog) (w := w) (base := base) d13 hB
  exact fn_law F hB iS.cl f12 cPo cD cTo cSt cNe mS cSa cSo cDu cI cNo
theorem all_mk2 {l : PySem.W.OpenLaw} {w : World} {K : PySem.W.Frag} {h : Heap} {mg : Str → Option Value} {fa CS CG : Addr}
    {g02 : Addr} {oc02 : Value} {od02 : Option Addr} {kV02 dc02 pm02 : Value} {an02 : Option Addr} {cd02 ct02 : Value} {sl02 : Array (Option Value)}
    {g03 : Addr} {oc03 : Value} {od03 : Option Addr} {kV03 dc03 pm03 : Value} {an03 : Option Addr} {cd03 ct03 : Value} {sl03 : Array (Option Value)}
    {g04 : Addr} {oc04 : Value} {od04 : Option Addr} {kV04 dc04 pm04 : Value} {an04 : Option Addr} {cd04 ct04 : Value} {sl04 : Array (Option Value)}
    {g05 : Addr} {oc05 : Value} {od05 : Option Addr} {kV05 dc05 pm05 : Value} {an05 : Option Addr} {cd05 ct05 : Value} {sl05 : Array (Option Value)}
    {g06 : Addr} {oc06 : Value} {od06 : Option Addr} {kV06 dc06 pm06 : Value} {an06 : Option Addr} {cd06 ct06 : Value} {sl06 : Array (Option Value)}
    {g07 : Addr} {oc07 : Value} {od07 : Option Addr} {kV07 dc07 pm07 : Value} {an07 : Option Addr} {cd07 ct07 : Value} {sl07 : Array (Option Value)}
    {g13 : Addr} {oc13 : Value} {od13 : Option Addr} {kV13 dc13 pm13 : Value} {an13 : Option Addr} {cd13 ct13 : Value} {sl13 : Array (Option Value)}
    {g14 : Addr} {oc14 : Value} {od14 : Option Addr} {kV14 dc14 pm14 : Value} {an14 : Option Addr} {cd14 ct14 : Value} {sl14 : Array (Option Value)}
    {g15 : Addr} {oc15 : Value} {od15 : Option Addr} {kV15 dc15 pm15 : Value} {an15 : Option Addr} {cd15 ct15 : Value} {sl15 : Array (Option Value)}
    {g16 : Addr} {oc16 : Value} {od16 : Option Addr} {kV16 dc16 pm16 : Value} {an16 : Option Addr} {cd16 ct16 : Value} {sl16 : Array (Option Value)}
    {g17 : Addr} {oc17 : Value} {od17 : Option Addr} {kV17 dc17 pm17 : Value} {an17 : Option Addr} {cd17 ct17 : Value} {sl17 : Array (Option Value)}
    {g18 : Addr} {oc18 : Value} {od18 : Option Addr} {kV18 dc18 pm18 : Value} {an18 : Option Addr} {cd18 ct18 : Value} {sl18 : Array (Option Value)}
    {g19 : Addr} {oc19 : Value} {od19 : Option Addr} {kV19 dc19 pm19 : Value} {an19 : Option Addr} {cd19 ct19 : Value} {sl19 : Array (Option Value)}
    {g20 : Addr} {oc20 : Value} {od20 : Option Addr} {kV20 dc20 pm20 : Value} {an20 : Option Addr} {cd20 ct20 : Value} {sl20 : Array (Option Value)}
    {g21 : Addr} {oc21 : Value} {od21 : Option Addr} {kV21 dc21 pm21 : Value} {an21 : Option Addr} {cd21 ct21 : Value} {sl21 : Array (Option Value)}
    {g22 : Addr} {oc22 : Value} {od22 : Option Addr} {kV22 dc22 pm22 : Value} {an22 : Option Addr} {cd22 ct22 : Value} {sl22 : Array (Option Value)}
    {g23 : Addr} {oc23 : Value} {od23 : Option Addr} {kV23 dc23 pm23 : Value} {an23 : Option Addr} {cd23 ct23 : Value} {sl23 : Array (Option Value)}
    {g24 : Addr} {oc24 : Value} {od24 : Option Addr} {kV24 dc24 pm24 : Value} {an24 : Option Addr} {cd24 ct24 : Value} {sl24 : Array (Option Value)}
    {g25 : Addr} {oc25 : Value} {od25 : Option Addr} {kV25 dc25 pm25 : Value} {an25 : Option Addr} {cd25 ct25 : Value} {sl25 : Array (Option Value)}
    {g26 : Addr} {oc26 : Value} {od26 : Option Addr} {kV26 dc26 pm26 : Value} {an26 : Option Addr} {cd26 ct26 : Value} {sl26 : Array (Option Value)}
    {g27 : Addr} {oc27 : Value} {od27 : Option Addr} {kV27 dc27 pm27 : Value} {an27 : Option Addr} {cd27 ct27 : Value} {sl27 : Array (Option Value)}
    {g28 : Addr} {oc28 : Value} {od28 : Option Addr} {kV28 dc28 pm28 : Value} {an28 : Option Addr} {cd28 ct28 : Value} {sl28 : Array (Option Value)}
    {g29 : Addr} {oc29 : Value} {od29 : Option Addr} {kV29 dc29 pm29 : Value} {an29 : Option Addr} {cd29 ct29 : Value} {sl29 : Array (Option Value)}
    {g30 : Addr} {oc30 : Value} {od30 : Option Addr} {kV30 dc30 pm30 : Value} {an30 : Option Addr} {cd30 ct30 : Value} {sl30 : Array (Option Value)}
    {g09 : Addr} {oc09 : Value} {od09 : Option Addr} {kV09 dc09 pm09 : Value} {an09 : Option Addr} {cd09 ct09 : Value} {sl09 : Array (Option Value)}
    {g11 : Addr} {oc11 : Value} {od11 : Option Addr} {kV11 dc11 pm11 : Value} {an11 : Option Addr} {cd11 ct11 : Value} {sl11 : Array (Option Value)}
    (X : K.In h) (G : h.Ns mainGlobals mg) (hfa : mg "law" = some (.ref fa))
    (z_len : PySem.W.nsIn K mainGlobals "len" = some none)
    (z_int : PySem.W.nsIn K mainGlobals "int" = some none)
    (z_str : PySem.W.nsIn K mainGlobals "str" = some none)
    (z_abs : PySem.W.nsIn K mainGlobals "abs" = some none)
    (z_max : PySem.W.nsIn K mainGlobals "max" = some none)
    (z_min : PySem.W.nsIn K mainGlobals "min" = some none)
    (z_list : PySem.W.nsIn K mainGlobals "list" = some none)
    (z_tuple : PySem.W.nsIn K mainGlobals "tuple" = some none)
    (z_range : PySem.W.nsIn K mainGlobals "range" = some none)
    (z_isinstance : PySem.W.nsIn K mainGlobals "isinstance" = some none)
    (z_bool : PySem.W.nsIn K mainGlobals "bool" = some none)
    (a02 : PySem.W.nsIn K mainGlobals "item_inlines" = some (some (.ref g02))) (l02 : K.lookup g02 = some ⟨oc02, od02, .func (PySem.W.fnOf "item_inlines" "item_inlines" (C8.fnArgs s_item_inlines) (C8.fnBody s_item_inlines) (C8.fnScope s_item_inlines) .none kV02 dc02 pm02 an02 cd02 ct02), sl02⟩) (c02 : PySem.W.codeIn K cd02 "item_inlines" = true) (k02 : PySem.W.keepIn K (.ref g02) = true)
    (a03 : PySem.W.nsIn K mainGlobals "note_inlines" = some (some (.ref g03))) (l03 : K.lookup g03 = some ⟨oc03, od03, .func (PySem.W.fnOf "note_inlines" "note_inlines" (C8.fnArgs s_note_inlines) (C8.fnBody s_note_inlines) (C8.fnScope s_note_inlines) .none kV03 dc03 pm03 an03 cd03 ct03), sl03⟩) (c03 : PySem.W.codeIn K cd03 "note_inlines" = true) (k03 : PySem.W.keepIn K (.ref g03) = true)
    (a04 : PySem.W.nsIn K mainGlobals "_in_fonts" = some (some (.ref g04))) (l04 : K.lookup g04 = some ⟨oc04, od04, .func (PySem.W.fnOf "_in_fonts" "_in_fonts" (C8.fnArgs s__in_fonts) (C8.fnBody s__in_fonts) (C8.fnScope s__in_fonts) .none kV04 dc04 pm04 an04 cd04 ct04), sl04⟩) (c04 : PySem.W.codeIn K cd04 "_in_fonts" = true) (k04 : PySem.W.keepIn K (.ref g04) = true)
    (a05 : PySem.W.nsIn K mainGlobals "_solids_in" = some (some (.ref g05))) (l05 : K.lookup g05 = some ⟨oc05, od05, .func (PySem.W.fnOf "_solids_in" "_solids_in" (C8.fnArgs s__solids_in) (C8.fnBody s__solids_in) (C8.fnScope s__solids_in) .none kV05 dc05 pm05 an05 cd05 ct05), sl05⟩) (c05 : PySem.W.codeIn K cd05 "_solids_in" = true) (k05 : PySem.W.keepIn K (.ref g05) = true)
    (a06 : PySem.W.nsIn K mainGlobals "_joint" = some (some (.ref g06))) (l06 : K.lookup g06 = some ⟨oc06, od06, .func (PySem.W.fnOf "_joint" "_joint" (C8.fnArgs s__joint) (C8.fnBody s__joint) (C8.fnScope s__joint) .none kV06 dc06 pm06 an06 cd06 ct06), sl06⟩) (c06 : PySem.W.codeIn K cd06 "_joint" = true) (k06 : PySem.W.keepIn K (.ref g06) = true)
    (a07 : PySem.W.nsIn K mainGlobals "solids_of" = some (some (.ref g07))) (l07 : K.lookup g07 = some ⟨oc07, od07, .func (PySem.W.fnOf "solids_of" "solids_of" (C8.fnArgs s_solids_of) (C8.fnBody s_solids_of) (C8.fnScope s_solids_of) .none kV07 dc07 pm07 an07 cd07 ct07), sl07⟩) (c07 : PySem.W.codeIn K cd07 "solids_of" = true) (k07 : PySem.W.keepIn K (.ref g07) = true)
    (a13 : PySem.W.nsIn K mainGlobals "_law_pool" = some (some (.ref g13))) (l13 : K.lookup g13 = some ⟨oc13, od13, .func (PySem.W.fnOf "_law_pool" "_law_pool" (C8.fnArgs s__law_pool) (C8.fnBody s__law_pool) (C8.fnScope s__law_pool) .none kV13 dc13 pm13 an13 cd13 ct13), sl13⟩) (c13 : PySem.W.codeIn K cd13 "_law_pool" = true) (k13 : PySem.W.keepIn K (.ref g13) = true)
    (a14 : PySem.W.nsIn K mainGlobals "_law_draw" = some (some (.ref g14))) (l14 : K.lookup g14 = some ⟨oc14, od14, .func (PySem.W.fnOf "_law_draw" "_law_draw" (C8.fnArgs s__law_draw) (C8.fnBody s__law_draw) (C8.fnScope s__law_draw) .none kV14 dc14 pm14 an14 cd14 ct14), sl14⟩) (c14 : PySem.W.codeIn K cd14 "_law_draw" = true) (k14 : PySem.W.keepIn K (.ref g14) = true)
    (a15 : PySem.W.nsIn K mainGlobals "_law_pick" = some (some (.ref g15))) (l15 : K.lookup g15 = some ⟨oc15, od15, .func (PySem.W.fnOf "_law_pick" "_law_pick" (C8.fnArgs s__law_pick) (C8.fnBody s__law_pick) (C8.fnScope s__law_pick) .none kV15 dc15 pm15 an15 cd15 ct15), sl15⟩) (c15 : PySem.W.codeIn K cd15 "_law_pick" = true) (k15 : PySem.W.keepIn K (.ref g15) = true)
    (a16 : PySem.W.nsIn K mainGlobals "_law_rare" = some (some (.ref g16))) (l16 : K.lookup g16 = some ⟨oc16, od16, .func (PySem.W.fnOf "_law_rare" "_law_rare" (C8.fnArgs s__law_rare) (C8.fnBody s__law_rare) (C8.fnScope s__law_rare) .none kV16 dc16 pm16 an16 cd16 ct16), sl16⟩) (c16 : PySem.W.codeIn K cd16 "_law_rare" = true) (k16 : PySem.W.keepIn K (.ref g16) = true)
    (a17 : PySem.W.nsIn K mainGlobals "_law_few" = some (some (.ref g17))) (l17 : K.lookup g17 = some ⟨oc17, od17, .func (PySem.W.fnOf "_law_few" "_law_few" (C8.fnArgs s__law_few) (C8.fnBody s__law_few) (C8.fnScope s__law_few) .none kV17 dc17 pm17 an17 cd17 ct17), sl17⟩) (c17 : PySem.W.codeIn K cd17 "_law_few" = true) (k17 : PySem.W.keepIn K (.ref g17) = true)
    (a18 : PySem.W.nsIn K mainGlobals "_law_same" = some (some (.ref g18))) (l18 : K.lookup g18 = some ⟨oc18, od18, .func (PySem.W.fnOf "_law_same" "_law_same" (C8.fnArgs s__law_same) (C8.fnBody s__law_same) (C8.fnScope s__law_same) .none kV18 dc18 pm18 an18 cd18 ct18), sl18⟩) (c18 : PySem.W.codeIn K cd18 "_law_same" = true) (k18 : PySem.W.keepIn K (.ref g18) = true)
    (a19 : PySem.W.nsIn K mainGlobals "_law_names" = some (some (.ref g19))) (l19 : K.lookup g19 = some ⟨oc19, od19, .func (PySem.W.fnOf "_law_names" "_law_names" (C8.fnArgs s__law_names) (C8.fnBody s__law_names) (C8.fnScope s__law_names) .none kV19 dc19 pm19 an19 cd19 ct19), sl19⟩) (c19 : PySem.W.codeIn K cd19 "_law_names" = true) (k19 : PySem.W.keepIn K (.ref g19) = true)
    (a20 : PySem.W.nsIn K mainGlobals "_law_triple" = some (some (.ref g20))) (l20 : K.lookup g20 = some ⟨oc20, od20, .func (PySem.W.fnOf "_law_triple" "_law_triple" (C8.fnArgs s__law_triple) (C8.fnBody s__law_triple) (C8.fnScope s__law_triple) .none kV20 dc20 pm20 an20 cd20 ct20), sl20⟩) (c20 : PySem.W.codeIn K cd20 "_law_triple" = true) (k20 : PySem.W.keepIn K (.ref g20) = true)
    (a21 : PySem.W.nsIn K mainGlobals "_law_told_style" = some (some (.ref g21))) (l21 : K.lookup g21 = some ⟨oc21, od21, .func (PySem.W.fnOf "_law_told_style" "_law_told_style" (C8.fnArgs s__law_told_style) (C8.fnBody s__law_told_style) (C8.fnScope s__law_told_style) .none kV21 dc21 pm21 an21 cd21 ct21), sl21⟩) (c21 : PySem.W.codeIn K cd21 "_law_told_style" = true) (k21 : PySem.W.keepIn K (.ref g21) = true)
    (a22 : PySem.W.nsIn K mainGlobals "_law_word" = some (some (.ref g22))) (l22 : K.lookup g22 = some ⟨oc22, od22, .func (PySem.W.fnOf "_law_word" "_law_word" (C8.fnArgs s__law_word) (C8.fnBody s__law_word) (C8.fnScope s__law_word) .none kV22 dc22 pm22 an22 cd22 ct22), sl22⟩) (c22 : PySem.W.codeIn K cd22 "_law_word" = true) (k22 : PySem.W.keepIn K (.ref g22) = true)
    (a23 : PySem.W.nsIn K mainGlobals "_law_formula" = some (some (.ref g23))) (l23 : K.lookup g23 = some ⟨oc23, od23, .func (PySem.W.fnOf "_law_formula" "_law_formula" (C8.fnArgs s__law_formula) (C8.fnBody s__law_formula) (C8.fnScope s__law_formula) .none kV23 dc23 pm23 an23 cd23 ct23), sl23⟩) (c23 : PySem.W.codeIn K cd23 "_law_formula" = true) (k23 : PySem.W.keepIn K (.ref g23) = true)
    (a24 : PySem.W.nsIn K mainGlobals "_law_inner" = some (some (.ref g24))) (l24 : K.lookup g24 = some ⟨oc24, od24, .func (PySem.W.fnOf "_law_inner" "_law_inner" (C8.fnArgs s__law_inner) (C8.fnBody s__law_inner) (C8.fnScope s__law_inner) .none kV24 dc24 pm24 an24 cd24 ct24), sl24⟩) (c24 : PySem.W.codeIn K cd24 "_law_inner" = true) (k24 : PySem.W.keepIn K (.ref g24) = true)
    (a25 : PySem.W.nsIn K mainGlobals "_law_steps" = some (some (.ref g25))) (l25 : K.lookup g25 = some ⟨oc25, od25, .func (PySem.W.fnOf "_law_steps" "_law_steps" (C8.fnArgs s__law_steps) (C8.fnBody s__law_steps) (C8.fnScope s__law_steps) .none kV25 dc25 pm25 an25 cd25 ct25), sl25⟩) (c25 : PySem.W.codeIn K cd25 "_law_steps" = true) (k25 : PySem.W.keepIn K (.ref g25) = true)
    (a26 : PySem.W.nsIn K mainGlobals "_law_nested" = some (some (.ref g26))) (l26 : K.lookup g26 = some ⟨oc26, od26, .func (PySem.W.fnOf "_law_nested" "_law_nested" (C8.fnArgs s__law_nested) (C8.fnBody s__law_nested) (C8.fnScope s__law_nested) .none kV26 dc26 pm26 an26 cd26 ct26), sl26⟩) (c26 : PySem.W.codeIn K cd26 "_law_nested" = true) (k26 : PySem.W.keepIn K (.ref g26) = true)
    (a27 : PySem.W.nsIn K mainGlobals "_law_own" = some (some (.ref g27))) (l27 : K.lookup g27 = some ⟨oc27, od27, .func (PySem.W.fnOf "_law_own" "_law_own" (C8.fnArgs s__law_own) (C8.fnBody s__law_own) (C8.fnScope s__law_own) .none kV27 dc27 pm27 an27 cd27 ct27), sl27⟩) (c27 : PySem.W.codeIn K cd27 "_law_own" = true) (k27 : PySem.W.keepIn K (.ref g27) = true)
    (a28 : PySem.W.nsIn K mainGlobals "_law_joint" = some (some (.ref g28))) (l28 : K.lookup g28 = some ⟨oc28, od28, .func (PySem.W.fnOf "_law_joint" "_law_joint" (C8.fnArgs s__law_joint) (C8.fnBody s__law_joint) (C8.fnScope s__law_joint) .none kV28 dc28 pm28 an28 cd28 ct28), sl28⟩) (c28 : PySem.W.codeIn K cd28 "_law_joint" = true) (k28 : PySem.W.keepIn K (.ref g28) = true)
    (a29 : PySem.W.nsIn K mainGlobals "_law_due" = some (some (.ref g29))) (l29 : K.lookup g29 = some ⟨oc29, od29, .func (PySem.W.fnOf "_law_due" "_law_due" (C8.fnArgs s__law_due) (C8.fnBody s__law_due) (C8.fnScope s__law_due) .none kV29 dc29 pm29 an29 cd29 ct29), sl29⟩) (c29 : PySem.W.codeIn K cd29 "_law_due" = true) (k29 : PySem.W.keepIn K (.ref g29) = true)
    (a30 : PySem.W.nsIn K mainGlobals "law" = some (some (.ref g30))) (l30 : K.lookup g30 = some ⟨oc30, od30, .func (PySem.W.fnOf "law" "law" (C8.fnArgs s_law) (C8.fnBody s_law) (C8.fnScope s_law) .none kV30 dc30 pm30 an30 cd30 ct30), sl30⟩) (c30 : PySem.W.codeIn K cd30 "law" = true) (k30 : PySem.W.keepIn K (.ref g30) = true)
    (a09 : PySem.W.nsIn K mainGlobals "Glue" = some (some (.ref CG))) (b09 : PySem.W.findIn K (.ref CG) "__init__" = some (some (.ref g09))) (i09 : PySem.W.isFn K (.ref g09) = true) (l09 : K.lookup g09 = some ⟨oc09, od09, .func (PySem.W.fnOf "__init__" "Glue.__init__" (C8.fnArgs s_Glue_init) (C8.fnBody s_Glue_init) (C8.fnScope s_Glue_init) .none kV09 dc09 pm09 an09 cd09 ct09), sl09⟩) (c09 : PySem.W.codeIn K cd09 "Glue.__init__" = true) (p09 : PySem.W.plainGet K CG Str.empty = true) (h09 : PySem.W.hasDictIn K CG = true) (o09 : PySem.W.plainOver K CG = true) (s09 : PySem.W.findIn K (.ref CG) "__setattr__" = some (some (.builtin "object.__setattr__"))) (m09 : PySem.W.makesIn K CG = true) (k09 : PySem.W.keepIn K (.ref CG) = true) (n09_natural : PySem.W.findIn K (.ref CG) "natural" = some none) (n09_stretch : PySem.W.findIn K (.ref CG) "stretch" = some none) (n09_shrink : PySem.W.findIn K (.ref CG) "shrink" = some none)
    (a11 : PySem.W.nsIn K mainGlobals "Style" = some (some (.ref CS))) (b11 : PySem.W.findIn K (.ref CS) "__init__" = some (some (.ref g11))) (i11 : PySem.W.isFn K (.ref g11) = true) (l11 : K.lookup g11 = some ⟨oc11, od11, .func (PySem.W.fnOf "__init__" "Style.__init__" (C8.fnArgs s_Style_init) (C8.fnBody s_Style_init) (C8.fnScope s_Style_init) .none kV11 dc11 pm11 an11 cd11 ct11), sl11⟩) (c11 : PySem.W.codeIn K cd11 "Style.__init__" = true) (p11 : PySem.W.plainGet K CS Str.empty = true) (h11 : PySem.W.hasDictIn K CS = true) (o11 : PySem.W.plainOver K CS = true) (s11 : PySem.W.findIn K (.ref CS) "__setattr__" = some (some (.builtin "object.__setattr__"))) (m11 : PySem.W.makesIn K CS = true) (k11 : PySem.W.keepIn K (.ref CS) = true) (n11_name : PySem.W.findIn K (.ref CS) "name" = some none) (n11_font : PySem.W.findIn K (.ref CS) "font" = some none) (n11_strong : PySem.W.findIn K (.ref CS) "strong" = some none) (n11_left : PySem.W.findIn K (.ref CS) "left" = some none) (n11_measure : PySem.W.findIn K (.ref CS) "measure" = some none) (n11_indent : PySem.W.findIn K (.ref CS) "indent" = some none) (n11_align : PySem.W.findIn K (.ref CS) "align" = some none) (n11_ahead : PySem.W.findIn K (.ref CS) "ahead" = some none) (n11_between : PySem.W.findIn K (.ref CS) "between" = some none)
    : ∃ fd : FuncData, (∀ (s : Shared) (v : Value), BindsTo s fd ⟨[v], []⟩ [("script", v)]) ∧ ∀ base : Heap, K.In base → base.Ns mainGlobals mg → FnOk l.prog w K mg base C8.CX0 33 fa fd ["script"] (spLaw K) :=
  all_mk X G hfa ⟨z_len, z_int, z_str, z_abs, z_max, z_min, z_list, z_tuple, z_range, z_isinstance, z_bool⟩ ⟨g02, oc02, od02, kV02, dc02, pm02, an02, cd02, ct02, sl02, a02, l02, c02, k02⟩ ⟨g03, oc03, od03, kV03, dc03, pm03, an03, cd03, ct03, sl03, a03, l03, c03, k03⟩ ⟨g04, oc04, od04, kV04, dc04, pm04, an04, cd04, ct04, sl04, a04, l04, c04, k04⟩ ⟨g05, oc05, od05, kV05, dc05, pm05, an05, cd05, ct05, sl05, a05, l05, c05, k05⟩ ⟨g06, oc06, od06, kV06, dc06, pm06, an06, cd06, ct06, sl06, a06, l06, c06, k06⟩ ⟨g07, oc07, od07, kV07, dc07, pm07, an07, cd07, ct07, sl07, a07, l07, c07, k07⟩ ⟨g09, oc09, od09, kV09, dc09, pm09, an09, cd09, ct09, sl09, a09, b09, i09, l09, c09, p09, h09, o09, s09, m09, k09⟩ ⟨n09_natural, n09_stretch, n09_shrink⟩ ⟨g11, oc11, od11, kV11, dc11, pm11, an11, cd11, ct11, sl11, a11, b11, i11, l11, c11, p11, h11, o11, s11, m11, k11⟩ ⟨n11_name, n11_font, n11_strong, n11_left, n11_measure, n11_indent, n11_align, n11_ahead, n11_between⟩ ⟨g13, oc13, od13, kV13, dc13, pm13, an13, cd13, ct13, sl13, a13, l13, c13, k13⟩ ⟨g14, oc14, od14, kV14, dc14, pm14, an14, cd14, ct14, sl14, a14, l14, c14, k14⟩ ⟨g15, oc15, od15, kV15, dc15, pm15, an15, cd15, ct15, sl15, a15, l15, c15, k15⟩ ⟨g16, oc16, od16, kV16, dc16, pm16, an16, cd16, ct16, sl16, a16, l16, c16, k16⟩ ⟨g17, oc17, od17, kV17, dc17, pm17, an17, cd17, ct17, sl17, a17, l17, c17, k17⟩ ⟨g18, oc18, od18, kV18, dc18, pm18, an18, cd18, ct18, sl18, a18, l18, c18, k18⟩ ⟨g19, oc19, od19, kV19, dc19, pm19, an19, cd19, ct19, sl19, a19, l19, c19, k19⟩ ⟨g20, oc20, od20, kV20, dc20, pm20, an20, cd20, ct20, sl20, a20, l20, c20, k20⟩ ⟨g21, oc21, od21, kV21, dc21, pm21, an21, cd21, ct21, sl21, a21, l21, c21, k21⟩ ⟨g22, oc22, od22, kV22, dc22, pm22, an22, cd22, ct22, sl22, a22, l22, c22, k22⟩ ⟨g23, oc23, od23, kV23, dc23, pm23, an23, cd23, ct23, sl23, a23, l23, c23, k23⟩ ⟨g24, oc24, od24, kV24, dc24, pm24, an24, cd24, ct24, sl24, a24, l24, c24, k24⟩ ⟨g25, oc25, od25, kV25, dc25, pm25, an25, cd25, ct25, sl25, a25, l25, c25, k25⟩ ⟨g26, oc26, od26, kV26, dc26, pm26, an26, cd26, ct26, sl26, a26, l26, c26, k26⟩ ⟨g27, oc27, od27, kV27, dc27, pm27, an27, cd27, ct27, sl27, a27, l27, c27, k27⟩ ⟨g28, oc28, od28, kV28, dc28, pm28, an28, cd28, ct28, sl28, a28, l28, c28, k28⟩ ⟨g29, oc29, od29, kV29, dc29, pm29, an29, cd29, ct29, sl29, a29, l29, c29, k29⟩ ⟨g30, oc30, od30, kV30, dc30, pm30, an30, cd30, ct30, sl30, a30, l30, c30, k30⟩
theorem walk {l : PySem.W.OpenLaw} {q : Program} {loose : List Str} {XP : (Str → Option Value) → Heap → Prop} {YP : World → Heap → Prop} {d : DefRec} {K : Params → PySem.W.Frag} (hn : l.most = some 63) (hdf : d.params.defaults = [])
    (hY : ∀ (w : World) (h : Heap), YP w h → (K w.params).In h)
    (F : ∀ (w : World) (mg : Str → Option Value) (fa : Addr) (h : Heap), (K w.params).In h → h.Ns mainGlobals mg → mg d.name = some (.ref fa) →
      ∃ fd : FuncData, (∀ (s : Shared) (u : Value), BindsTo s fd ⟨[u], []⟩ [("script", u)]) ∧ ∀ base : Heap, (K w.params).In base → base.Ns mainGlobals mg → FnOk l.prog w (K w.params) mg base C8.CX0 33 fa fd ["script"] (spLaw (K w.params))) :
    PySem.W.WalkO q loose XP YP l.row.toRowW d [] (fun f vs => PySem.call f vs) :=
  L2.walk_of (n := 63) (k := 33) (x := "script") (CX := fun _ => C8.CX0) (sp := fun w => spLaw (K w.params)) hn (by decide) hdf ⟨rfl, by decide, by decide⟩ hY F (fun _ _ a ns hl _ hS => ⟨a, ns, rfl, hS, hl, fun _ => rfl⟩) fun _ _ _ _ _ z => z
end Y
open PySem PySem.W PyProof.Rows
set_option maxRecDepth 100000 in
set_option maxHeartbeats 0 in
theorem PySem.Challenge.cw_typeforge_k34_solids_of_a_paragraph_holds : PySem.Challenge.rw_typeforge_k34_solids_of_a_paragraph.Holds := by
  w_on; o_law; k_head; (case hw => w_witness2)
  k_fill
  refine Y.walk (l := PySem.Challenge.rw_typeforge_k34_solids_of_a_paragraph) rfl rfl (fun w h Y => PySem.W.kIn_of Y) ?F
  case F =>
    intro w mg fa h KX G hmg
    refine' Y.all_mk2 KX G hmg ?z_len ?z_int ?z_str ?z_abs ?z_max ?z_min ?z_list ?z_tuple ?z_range ?z_isinstance ?z_bool ?a02 ?l02 ?c02 ?k02 ?a03 ?l03 ?c03 ?k03 ?a04 ?l04 ?c04 ?k04 ?a05 ?l05 ?c05 ?k05 ?a06 ?l06 ?c06 ?k06 ?a07 ?l07 ?c07 ?k07 ?a13 ?l13 ?c13 ?k13 ?a14 ?l14 ?c14 ?k14 ?a15 ?l15 ?c15 ?k15 ?a16 ?l16 ?c16 ?k16 ?a17 ?l17 ?c17 ?k17 ?a18 ?l18 ?c18 ?k18 ?a19 ?l19 ?c19 ?k19 ?a20 ?l20 ?c20 ?k20 ?a21 ?l21 ?c21 ?k21 ?a22 ?l22 ?c22 ?k22 ?a23 ?l23 ?c23 ?k23 ?a24 ?l24 ?c24 ?k24 ?a25 ?l25 ?c25 ?k25 ?a26 ?l26 ?c26 ?k26 ?a27 ?l27 ?c27 ?k27 ?a28 ?l28 ?c28 ?k28 ?a29 ?l29 ?c29 ?k29 ?a30 ?l30 ?c30 ?k30 ?a09 ?b09 ?i09 ?l09 ?c09 ?p09 ?h09 ?o09 ?s09 ?m09 ?k09 ?n09_natural ?n09_stretch ?n09_shrink ?a11 ?b11 ?i11 ?l11 ?c11 ?p11 ?h11 ?o11 ?s11 ?m11 ?k11 ?n11_name ?n11_font ?n11_strong ?n11_left ?n11_measure ?n11_indent ?n11_align ?n11_ahead ?n11_between
    (case z_len => k_is)
    (case z_int => k_is)
    (case z_str => k_is)
    (case z_abs => k_is)
    (case z_max => k_is)
    (case z_min => k_is)
    (case z_list => k_is)
    (case z_tuple => k_is)
    (case z_range => k_is)
    (case z_isinstance => k_is)
    (case z_bool => k_is)
    (case a02 => k_is)
    (case l02 => k_is)
    (case c02 => k_is)
    (case k02 => k_is)
    (case a03 => k_is)
    (case l03 => k_is)
    (case c03 => k_is)
    (case k03 => k_is)
    (case a04 => k_is)
    (case l04 => k_is)
    (case c04 => k_is)
    (case k04 => k_is)
    (case a05 => k_is)
    (case l05 => k_is)
    (case c05 => k_is)
    (case k05 => k_is)
    (case a06 => k_is)
    (case l06 => k_is)
    (case c06 => k_is)
    (case k06 => k_is)
    (case a07 => k_is)
    (case l07 => k_is)
    (case c07 => k_is)
    (case k07 => k_is)
    (case a13 => k_is)
    (case l13 => k_is)
    (case c13 => k_is)
    (case k13 => k_is)
    (case a14 => k_is)
    (case l14 => k_is)
    (case c14 => k_is)
    (case k14 => k_is)
    (case a15 => k_is)
    (case l15 => k_is)
    (case c15 => k_is)
    (case k15 => k_is)
    (case a16 => k_is)
    (case l16 => k_is)
    (case c16 => k_is)
    (case k16 => k_is)
    (case a17 => k_is)
    (case l17 => k_is)
    (case c17 => k_is)
    (case k17 => k_is)
    (case a18 => k_is)
    (case l18 => k_is)
    (case c18 => k_is)
    (case k18 => k_is)
    (case a19 => k_is)
    (case l19 => k_is)
    (case c19 => k_is)
    (case k19 => k_is)
    (case a20 => k_is)
    (case l20 => k_is)
    (case c20 => k_is)
    (case k20 => k_is)
    (case a21 => k_is)
    (case l21 => k_is)
    (case c21 => k_is)
    (case k21 => k_is)
    (case a22 => k_is)
    (case l22 => k_is)
    (case c22 => k_is)
    (case k22 => k_is)
    (case a23 => k_is)
    (case l23 => k_is)
    (case c23 => k_is)
    (case k23 => k_is)
    (case a24 => k_is)
    (case l24 => k_is)
    (case c24 => k_is)
    (case k24 => k_is)
    (case a25 => k_is)
    (case l25 => k_is)
    (case c25 => k_is)
    (case k25 => k_is)
    (case a26 => k_is)
    (case l26 => k_is)
    (case c26 => k_is)
    (case k26 => k_is)
    (case a27 => k_is)
    (case l27 => k_is)
    (case c27 => k_is)
    (case k27 => k_is)
    (case a28 => k_is)
    (case l28 => k_is)
    (case c28 => k_is)
    (case k28 => k_is)
    (case a29 => k_is)
    (case l29 => k_is)
    (case c29 => k_is)
    (case k29 => k_is)
    (case a30 => k_is)
    (case l30 => k_is)
    (case c30 => k_is)
    (case k30 => k_is)
    (case a09 => k_is)
    (case b09 => k_is)
    (case i09 => k_is)
    (case l09 => k_is)
    (case c09 => k_is)
    (case p09 => k_is)
    (case h09 => k_is)
    (case o09 => k_is)
    (case s09 => k_is)
    (case m09 => k_is)
    (case k09 => k_is)
    (case n09_natural => k_is)
    (case n09_stretch => k_is)
    (case n09_shrink => k_is)
    (case a11 => k_is)
    (case b11 => k_is)
    (case i11 => k_is)
    (case l11 => k_is)
    (case c11 => k_is)
    (case p11 => k_is)
    (case h11 => k_is)
    (case o11 => k_is)
    (case s11 => k_is)
    (case m11 => k_is)
    (case k11 => k_is)
    (case n11_name => k_is)
    (case n11_font => k_is)
    (case n11_strong => k_is)
    (case n11_left => k_is)
    (case n11_measure => k_is)
    (case n11_indent => k_is)
    (case n11_align => k_is)
    (case n11_ahead => k_is)
    (case n11_between => k_is)
#print axioms PySem.Challenge.cw_typeforge_k34_solids_of_a_paragraph_holds
