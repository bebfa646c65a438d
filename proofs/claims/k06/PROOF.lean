import PyProof.Rows.All
import Wide.All
import OpenK.AllK
import Wide.FinOn
import HandS.ForMost
import HandS.ForExc
import HandS.Lambda
import HandS.TupAny
import HandS.TupLe
import HandS.TupMul
import HandS.TupLen
import HandS.Wide
import HandS.WideBits
import HandS.Deep
import HandS.IsInst
import HandS.Style
import HandS.Zip
import HandS.Rev
import HandS.Walk
import HandS.Small
import HandS.SortRule
import HandS.SortInts
import HandS.ExcValue
import HandS.ExcIs
import HandS.EndTab
import HandS.Ends
import PyProof.ReprRoads
import KE.KNest
import HandS.DictComp
import HandS.DictTup
import KE.KDictCopyH
import KE.KDictOf
import KE.KDictPairs
import KE.KDictSum
import HandS.SortOrd
import KE.DataMinMax
import KE.SortData
import HandS.SortKw
import HandS.Defaults
import HandS.CallSlots
import KE.KDictDisplayH
import KE.KIntText
import KE.KEqDict
import HandS.DictEq
import PySem.Challenge.RW_rowsfilled_k06_division_in_x
set_option Elab.async false
set_option linter.all false
set_option maxRecDepth 100000
set_option maxHeartbeats 4000000
/-! DL0: data as trees over the abstract heap: values D, their standing Rp, a frame's slots told as trees (Sim), readings over trees (lift..). -/
namespace DL
open PySem PySem.Spec PyProof.Rows L2

/-- a value as a tree; st: the law's own state; scr: the script; exc: an exception of the class of this name, with what it holds; fn: a function object that is told by φ, its code object by ψ (k: which one); gl: what stands under a name of the text -/
inductive D where
  | non
  | bl (b : Bool)
  | int (i : Int)
  | str (x : Str)
  | tup (ds : List D)
  | lst (ds : List D)
  | dic (t : Bool) (ks vs : List D)
  | st
  | scr (ns : List Int)
  | exc (n : Str) (as : List D)
  | fn (k : Nat) (φ ψ : Addr → Addr → HO)
  | gl (n : Str)

/-- what stays through a law's run -/
structure Wz where
  K : PySem.W.Frag
  mg : Str → Option Value
  sa : Addr
  sl : Addr
  sc : Addr
/-- .. and whether the law's state is at hand -/
structure Wd extends Wz where
  sf : Bool
  /-- the tables of code objects that are kept in sight -/
  tabs : List (Addr × Str)
def Wd.S (Z : Wd) (b : Addr) : Prop := Z.sf = true ∧ (b = Z.sa ∨ b = Z.sl)
/-- the state's own things -/
def Wd.T (Z : Wd) (b : Addr) : Prop := Z.sf = true ∧ (b = Z.sa ∨ b = Z.sl ∨ b = Z.sc)
theorem Wd.S.t {Z : Wd} {b : Addr} (h : Z.S b) : Z.T b := ⟨h.1, h.2.elim .inl fun z => .inr (.inl z)⟩

def kD : Key → D
  | .inl i => .int i
  | .inr x => .str x

/-- an exception object that is held as a value -/
def ExD (cls : Value) (dx : Option Addr) (a : Addr) : HO := .ext fun h => ∃ (oe : Obj) (vs : Array Value), h.get? a = some oe ∧ Zc cls dx oe ∧ oe.data = .fields vs

mutual
def Rp (Z : Wz) (H : Hp) : D → V → Prop
  | .non, v => v = .non
  | .bl b, v => v = .bl b
  | .int i, v => v = .int i
  | .str x, v => v = .str x
  | .tup ds, v => ∃ (a : Addr) (vs : List V), v = .ref a ∧ H a = some (.tup vs) ∧ RpL Z H ds vs
  | .lst ds, v => ∃ (a : Addr) (vs : List V), v = .ref a ∧ H a = some (.lst vs) ∧ RpL Z H ds vs
  | .scr ns, v => ∃ a : Addr, v = .ref a ∧ SqL Z.K H a (ns.map V.int)
  | .dic false ks ds, v => ∃ (a : Addr) (o : Obj) (kvs : List (Key × V)), v = .ref a ∧ H a = some (.frz o (.dK kvs)) ∧ ks = kvs.map (fun p => kD p.1) ∧ RpL Z H ds (kvs.map (fun p => p.2))
  | .dic true ks ds, v => ∃ (a : Addr) (o : Obj) (kvs : List (List Key × V)), v = .ref a ∧ H a = some (.frz o (.dT kvs)) ∧ ks = kvs.map (fun p => D.tup (p.1.map kD)) ∧ RpL Z H ds (kvs.map (fun p => p.2))
  | .st, v => v = .ref Z.sa
  | .exc n as, v => ∃ (a C : Addr) (dx : Option Addr) (vs : List V), v = .ref a ∧ Z.mg n = some (.ref C) ∧ H a = some (ExD (.ref C) dx a) ∧ RpL Z H as vs ∧
      ((dx = none ∧ vs = []) ∨ ∃ (x : Addr) (f : Str) (w : V), dx = some x ∧ vs = [w] ∧ H x = some (.xd [(f, w)]))
  | .fn _ φ ψ, v => ∃ a b : Addr, v = .ref a ∧ H a = some (φ a b) ∧ H b = some (ψ a b)
  | .gl n, v => ∃ a : Addr, v = .ref a ∧ Z.mg n = some (.ref a)
def RpL (Z : Wz) (H : Hp) : List D → List V → Prop
  | [], vs => vs = []
  | d :: ds, vs => ∃ (v : V) (r : List V), vs = v :: r ∧ Rp Z H d v ∧ RpL Z H ds r
end

section
variable {Z : Wz} {G H H' : Hp}
theorem sqT_mono {K : PySem.W.Frag} {a : Addr} {xs : List V} (e : Same G H) (h : SqT K G a xs) : SqT K H a xs := by
  rcases h with (h | ⟨o, h⟩) | h
  · exact .inl (.inl (e _ _ h))
  · exact .inl (.inr ⟨o, e _ _ h⟩)
  · exact .inr h
mutual
theorem Rp.mono (e : Same G H) : ∀ (d : D) (v : V), Rp Z G d v → Rp Z H d v
  | .non, _, h => by unfold Rp at h ⊢; exact h
  | .bl _, _, h => by unfold Rp at h ⊢; exact h
  | .int _, _, h => by unfold Rp at h ⊢; exact h
  | .str _, _, h => by unfold Rp at h ⊢; exact h
  | .st, _, h => by unfold Rp at h ⊢; exact h
  | .tup ds, _, h => by
    unfold Rp at h ⊢
    obtain ⟨a, vs, rfl, h1, h2⟩ := h
    exact ⟨a, vs, rfl, e _ _ h1, RpL.mono e ds vs h2⟩
  | .lst ds, _, h => by
    unfold Rp at h ⊢
    obtain ⟨a, vs, rfl, h1, h2⟩ := h
    exact ⟨a, vs, rfl, e _ _ h1, RpL.mono e ds vs h2⟩
  | .scr ns, _, h => by
    unfold Rp at h ⊢
    obtain ⟨a, rfl, h1⟩ := h
    exact ⟨a, rfl, e.seq h1⟩
  | .dic false ks ds, _, h => by
    unfold Rp at h ⊢
    obtain ⟨a, o, kvs, rfl, h1, h2, h3⟩ := h
    exact ⟨a, o, kvs, rfl, e _ _ h1, h2, RpL.mono e ds _ h3⟩
  | .dic true ks ds, _, h => by
    unfold Rp at h ⊢
    obtain ⟨a, o, kvs, rfl, h1, h2, h3⟩ := h
    exact ⟨a, o, kvs, rfl, e _ _ h1, h2, RpL.mono e ds _ h3⟩
  | .exc n as, _, h => by
    unfold Rp at h ⊢
    obtain ⟨a, C, dx, vs, rfl, h1, h2, h3, h4⟩ := h
    refine ⟨a, C, dx, vs, rfl, h1, e _ _ h2, RpL.mono e as vs h3, ?_⟩
    rcases h4 with h4 | ⟨x, f, w, e1, e2, e3⟩
    · exact .inl h4
    · exact .inr ⟨x, f, w, e1, e2, e _ _ e3⟩
  | .fn _ _ _, _, h => by
    unfold Rp at h ⊢
    obtain ⟨a, b, rfl, h1, h2⟩ := h
    exact ⟨a, b, rfl, e _ _ h1, e _ _ h2⟩
  | .gl _, _, h => by unfold Rp at h ⊢; exact h
theorem RpL.mono (e : Same G H) : ∀ (ds : List D) (vs : List V), RpL Z G ds vs → RpL Z H ds vs
  | [], _, h => by unfold RpL at h ⊢; exact h
  | d :: ds, _, h => by
    unfold RpL at h ⊢
    obtain ⟨v, r, rfl, h1, h2⟩ := h
    exact ⟨v, r, rfl, Rp.mono e d v h1, RpL.mono e ds r h2⟩
end
theorem rp_non {v : V} : Rp Z H .non v ↔ v = .non := by unfold Rp; exact Iff.rfl
theorem rp_bl {b : Bool} {v : V} : Rp Z H (.bl b) v ↔ v = .bl b := by unfold Rp; exact Iff.rfl
theorem rp_int {i : Int} {v : V} : Rp Z H (.int i) v ↔ v = .int i := by unfold Rp; exact Iff.rfl
theorem rp_str {x : Str} {v : V} : Rp Z H (.str x) v ↔ v = .str x := by unfold Rp; exact Iff.rfl
theorem rp_st {v : V} : Rp Z H .st v ↔ v = .ref Z.sa := by unfold Rp; exact Iff.rfl
theorem rp_tup {ds : List D} {v : V} : Rp Z H (.tup ds) v ↔ ∃ (a : Addr) (vs : List V), v = .ref a ∧ H a = some (.tup vs) ∧ RpL Z H ds vs := by rw [Rp]
theorem rp_lst {ds : List D} {v : V} : Rp Z H (.lst ds) v ↔ ∃ (a : Addr) (vs : List V), v = .ref a ∧ H a = some (.lst vs) ∧ RpL Z H ds vs := by rw [Rp]
theorem rp_scr {ns : List Int} {v : V} : Rp Z H (.scr ns) v ↔ ∃ a : Addr, v = .ref a ∧ SqL Z.K H a (ns.map V.int) := by rw [Rp]
theorem rp_dicK {ks ds : List D} {v : V} : Rp Z H (.dic false ks ds) v ↔ ∃ (a : Addr) (o : Obj) (kvs : List (Key × V)), v = .ref a ∧ H a = some (.frz o (.dK kvs)) ∧ ks = kvs.map (fun p => kD p.1) ∧ RpL Z H ds (kvs.map (fun p => p.2)) := by rw [Rp]
theorem rp_dicT {ks ds : List D} {v : V} : Rp Z H (.dic true ks ds) v ↔ ∃ (a : Addr) (o : Obj) (kvs : List (List Key × V)), v = .ref a ∧ H a = some (.frz o (.dT kvs)) ∧ ks = kvs.map (fun p => D.tup (p.1.map kD)) ∧ RpL Z H ds (kvs.map (fun p => p.2)) := by rw [Rp]
theorem rp_exc {n : Str} {as : List D} {v : V} : Rp Z H (.exc n as) v ↔ ∃ (a C : Addr) (dx : Option Addr) (vs : List V), v = .ref a ∧ Z.mg n = some (.ref C) ∧ H a = some (ExD (.ref C) dx a) ∧ RpL Z H as vs ∧
      ((dx = none ∧ vs = []) ∨ ∃ (x : Addr) (f : Str) (w : V), dx = some x ∧ vs = [w] ∧ H x = some (.xd [(f, w)])) := by rw [Rp]
theorem rp_fn {k : Nat} {φ ψ : Addr → Addr → HO} {v : V} : Rp Z H (.fn k φ ψ) v ↔ ∃ a b : Addr, v = .ref a ∧ H a = some (φ a b) ∧ H b = some (ψ a b) := by rw [Rp]
theorem rp_gl {n : Str} {v : V} : Rp Z H (.gl n) v ↔ ∃ a : Addr, v = .ref a ∧ Z.mg n = some (.ref a) := by rw [Rp]
theorem rpL_nil {vs : List V} : RpL Z H [] vs ↔ vs = [] := by unfold RpL; exact Iff.rfl
theorem rpL_cons {d : D} {ds : List D} {vs : List V} : RpL Z H (d :: ds) vs ↔ ∃ (v : V) (r : List V), vs = v :: r ∧ Rp Z H d v ∧ RpL Z H ds r := by rw [RpL]
theorem RpL.cons {d : D} {ds : List D} {v : V} {vs : List V} (h : Rp Z H d v) (t : RpL Z H ds vs) : RpL Z H (d :: ds) (v :: vs) := rpL_cons.mpr ⟨v, vs, rfl, h, t⟩
theorem RpL.nil : RpL Z H [] [] := rpL_nil.mpr rfl
theorem RpL.length : ∀ {ds : List D} {vs : List V}, RpL Z H ds vs → ds.length = vs.length
  | [], _, h => by rw [rpL_nil] at h; subst h; rfl
  | d :: ds, _, h => by
    obtain ⟨v, r, rfl, _, h2⟩ := rpL_cons.mp h
    rw [List.length_cons, List.length_cons, RpL.length h2]
theorem RpL.get : ∀ {ds : List D} {vs : List V} {i : Nat} {d : D}, RpL Z H ds vs → ds[i]? = some d → ∃ v, vs[i]? = some v ∧ Rp Z H d v
  | [], _, _, _, _, e => by simp at e
  | d :: ds, _, 0, _, h, e => by
    obtain ⟨v, r, rfl, h1, _⟩ := rpL_cons.mp h
    simp at e; subst e
    exact ⟨v, rfl, h1⟩
  | d :: ds, _, i + 1, _, h, e => by
    obtain ⟨v, r, rfl, _, h2⟩ := rpL_cons.mp h
    obtain ⟨w, e1, e2⟩ := RpL.get (i := i) h2 (by simpa using e)
    exact ⟨w, by simpa using e1, e2⟩
theorem RpL.get' {ds : List D} {vs : List V} {i : Nat} {v : V} (h : RpL Z H ds vs) (e : vs[i]? = some v) : ∃ d, ds[i]? = some d ∧ Rp Z H d v := by
  have hl : i < ds.length := by rw [h.length]; exact (List.getElem?_eq_some_iff.mp e).1
  obtain ⟨w, e1, e2⟩ := h.get (List.getElem?_eq_getElem hl)
  rw [e] at e1; cases e1
  exact ⟨_, List.getElem?_eq_getElem hl, e2⟩
theorem RpL.append : ∀ {ds es : List D} {vs ws : List V}, RpL Z H ds vs → RpL Z H es ws → RpL Z H (ds ++ es) (vs ++ ws)
  | [], _, _, _, h, k => by rw [rpL_nil] at h; subst h; exact k
  | d :: ds, _, _, _, h, k => by
    obtain ⟨v, r, rfl, h1, h2⟩ := rpL_cons.mp h
    exact RpL.cons h1 (RpL.append h2 k)
theorem RpL.take : ∀ (n : Nat) {ds : List D} {vs : List V}, RpL Z H ds vs → RpL Z H (ds.take n) (vs.take n)
  | 0, _, _, _ => RpL.nil
  | n + 1, [], _, h => by rw [rpL_nil] at h; subst h; exact RpL.nil
  | n + 1, d :: ds, _, h => by
    obtain ⟨v, r, rfl, h1, h2⟩ := rpL_cons.mp h
    exact RpL.cons h1 (RpL.take n h2)
theorem RpL.drop : ∀ (n : Nat) {ds : List D} {vs : List V}, RpL Z H ds vs → RpL Z H (ds.drop n) (vs.drop n)
  | 0, _, _, h => h
  | n + 1, [], _, h => by rw [rpL_nil] at h; subst h; exact RpL.nil
  | n + 1, d :: ds, _, h => by
    obtain ⟨v, r, rfl, h1, h2⟩ := rpL_cons.mp h
    exact RpL.drop n h2
theorem RpL.reverse : ∀ {ds : List D} {vs : List V}, RpL Z H ds vs → RpL Z H ds.reverse vs.reverse
  | [], _, h => by rw [rpL_nil] at h; subst h; exact RpL.nil
  | d :: ds, _, h => by
    obtain ⟨v, r, rfl, h1, h2⟩ := rpL_cons.mp h
    rw [List.reverse_cons, List.reverse_cons]
    exact RpL.append (RpL.reverse h2) (RpL.cons h1 RpL.nil)
theorem RpL.set : ∀ (i : Nat) {ds : List D} {vs : List V} {d : D} {v : V}, RpL Z H ds vs → Rp Z H d v → RpL Z H (ds.set i d) (vs.set i v)
  | _, [], _, _, _, h, _ => by rw [rpL_nil] at h; subst h; exact RpL.nil
  | 0, d :: ds, _, _, _, h, k => by
    obtain ⟨v, r, rfl, h1, h2⟩ := rpL_cons.mp h
    exact RpL.cons k h2
  | i + 1, d :: ds, _, _, _, h, k => by
    obtain ⟨v, r, rfl, h1, h2⟩ := rpL_cons.mp h
    exact RpL.cons h1 (RpL.set i h2 k)
theorem RpL.erase : ∀ (i : Nat) {ds : List D} {vs : List V}, RpL Z H ds vs → RpL Z H (ds.eraseIdx i) (vs.eraseIdx i)
  | _, [], _, h => by rw [rpL_nil] at h; subst h; exact RpL.nil
  | 0, d :: ds, _, h => by
    obtain ⟨v, r, rfl, h1, h2⟩ := rpL_cons.mp h
    exact h2
  | i + 1, d :: ds, _, h => by
    obtain ⟨v, r, rfl, h1, h2⟩ := rpL_cons.mp h
    exact RpL.cons h1 (RpL.erase i h2)
end

/-! ### slots -/
inductive Slot where
  | un
  | val (d : D)
  | own (d : D)
abbrev EnvD := List Slot

/-- a list or a dict at a that its slot alone holds; its items stand in the part Hf that never changes -/
def OwnRp (Z : Wz) (Hf H : Hp) (a : Addr) : D → Prop
  | .lst ds => ∃ vs, H a = some (.lst vs) ∧ RpL Z Hf ds vs
  | .dic false ks ds => ∃ kvs : List (Key × V), H a = some (.dK kvs) ∧ ks = kvs.map (fun p => kD p.1) ∧ RpL Z Hf ds (kvs.map (fun p => p.2))
  | .dic true ks ds => ∃ kvs : List (List Key × V), H a = some (.dT kvs) ∧ ks = kvs.map (fun p => D.tup (p.1.map kD)) ∧ RpL Z Hf ds (kvs.map (fun p => p.2))
  | _ => False

/-- the law's state: a dict of four entries, its list of large numbers, its list of cells -/
def StAt (Z : Wz) (H : Hp) (c : Nat) : Prop := ∃ (l t : Int) (ls cs : List Int), H Z.sa = some (.dK [(.inr "large", .ref Z.sl), (.inr "cells", .ref Z.sc), (.inr "left", .int l), (.inr "turn", .int t)]) ∧
  H Z.sl = some (.lst (ls.map V.int)) ∧ H Z.sc = some (.lst (cs.map V.int)) ∧ 0 ≤ l ∧ 0 ≤ t ∧ t ≤ (c : Int) ∧ (∀ z ∈ ls, 0 ≤ z) ∧ (∀ z ∈ cs, 0 ≤ z) ∧ cs.length ≤ 63 ∧ Z.sa ≠ Z.sl ∧ Z.sa ≠ Z.sc ∧ Z.sl ≠ Z.sc
def StOk (Z : Wd) (H : Hp) (c : Nat) : Prop := Z.sf = true → StAt Z.toWz H c

/-- new, or a tuple that stood already -/
def NewB (o : Option HO) : Prop := o = none ∨ ∃ xs, o = some (.tup xs)
/-- the frame's slots σ and the heap H, told as trees: Hf the part that never changes -/
structure Sim (Z : Wd) (H0 G0 : Hp) (σ : L2.St) (H Hf : Hp) (env : EnvD) (c : Nat) : Prop where
  sub : Same Hf H
  g0 : Same G0 Hf
  new : ∀ b, Hf b ≠ none → G0 b = none → NewB (H0 b)
  keep : ∀ b o, H0 b = some o → ¬ Z.S b → H b = some o
  len : env.length = σ.length
  val : ∀ (i : Nat) (d : D), env[i]? = some (Slot.val d) → ∃ v, σ[i]? = some (some v) ∧ Rp Z.toWz Hf d v
  own : ∀ (i : Nat) (d : D), env[i]? = some (Slot.own d) → ∃ a, σ[i]? = some (some (.ref a)) ∧ Hf a = none ∧ H0 a = none ∧ ¬ Z.T a ∧ OwnRp Z.toWz Hf H a d
  inj : ∀ (i j : Nat) (d e : D) (a : Addr), env[i]? = some (Slot.own d) → env[j]? = some (Slot.own e) → σ[i]? = some (some (.ref a)) → σ[j]? = some (some (.ref a)) → i = j
  st : StOk Z H c
  stf : ∀ b, Z.S b → Hf b = none
  tab : LamX.Tabs Z.tabs H
  ntb : ∀ b ps, Hf b = some (.tbl ps) → G0 b = some (.tbl ps)
/-- a table, a code object -/
def IsTab (o : HO) : Prop := (∃ ps, o = .tbl ps) ∨ ∃ c q, o = LamX.CodeO c q
theorem tabs_keep {T : List (Addr × Str)} {H H' : Hp} (k : ∀ b o, H b = some o → IsTab o → H' b = some o) (t : LamX.Tabs T H) : LamX.Tabs T H' := fun p hp => by
  obtain ⟨ps, h1, h2, h3⟩ := t p hp
  refine ⟨ps, k _ _ h1 (.inl ⟨_, rfl⟩), h2, fun pos cv hc => ?_⟩
  obtain ⟨c, e1, e2⟩ := h3 pos cv hc
  exact ⟨c, e1, k _ _ e2 (.inr ⟨_, _, rfl⟩)⟩
theorem ntab_lst {vs : List V} : ¬ IsTab (.lst vs) := fun h => by rcases h with ⟨ps, h⟩ | ⟨c, q, h⟩ <;> cases h
theorem ntab_dK {kvs : List (Key × V)} : ¬ IsTab (.dK kvs) := fun h => by rcases h with ⟨ps, h⟩ | ⟨c, q, h⟩ <;> cases h
theorem ntab_dT {kvs : List (List Key × V)} : ¬ IsTab (.dT kvs) := fun h => by rcases h with ⟨ps, h⟩ | ⟨c, q, h⟩ <;> cases h
/-- what a slot alone holds is no table -/
theorem OwnRp.ntab {Z : Wz} {Hf H : Hp} {a : Addr} {o : HO} (e : H a = some o) : ∀ {d : D}, OwnRp Z Hf H a d → ¬ IsTab o
  | .lst _, ⟨_, h, _⟩ => by rw [e] at h; cases h; exact ntab_lst
  | .dic false _ _, ⟨_, h, _⟩ => by rw [e] at h; cases h; exact ntab_dK
  | .dic true _ _, ⟨_, h, _⟩ => by rw [e] at h; cases h; exact ntab_dT

/-- what stands but for the state's own things -/
def Keep (Z : Wd) (H H' : Hp) : Prop := ∀ b o, H b = some o → ¬ Z.S b → (Z.tabs ≠ [] ∧ ∃ ps, o = .tbl ps) ∨ ∃ o', H' b = some o' ∧ ((∃ ps, o' = .tbl ps) → ∃ ps, o = .tbl ps)
theorem Keep.refl {Z : Wd} {H : Hp} : Keep Z H H := fun _ o h _ => .inr ⟨o, h, id⟩
theorem Keep.trans {Z : Wd} {H H1 H2 : Hp} (a : Keep Z H H1) (b : Keep Z H1 H2) : Keep Z H H2 := fun c o h n => by
  rcases a c o h n with z | ⟨o1, h1, t1⟩
  · exact .inl z
  · rcases b c o1 h1 n with ⟨z, t⟩ | ⟨o2, h2, t2⟩
    · exact .inl ⟨z, t1 t⟩
    · exact .inr ⟨o2, h2, fun t => t1 (t2 t)⟩
theorem Keep.of {Z : Wd} {H H' : Hp} (e : Same H H') : Keep Z H H' := fun b o h _ => .inr ⟨o, e b o h, id⟩
/-- .. exactly -/
def KeepX (Z : Wd) (H H' : Hp) : Prop := ∀ b o, H b = some o → ¬ Z.S b → H' b = some o
theorem KeepX.refl {Z : Wd} {H : Hp} : KeepX Z H H := fun _ _ h _ => h
theorem KeepX.trans {Z : Wd} {H H1 H2 : Hp} (a : KeepX Z H H1) (b : KeepX Z H1 H2) : KeepX Z H H2 := fun c o h n => b c o (a c o h n) n
theorem KeepX.of {Z : Wd} {H H' : Hp} (e : Same H H') : KeepX Z H H' := fun b o h _ => e b o h
theorem Keep.upd {Z : Wd} {H H1 H2 : Hp} {p : Addr} (k : Keep Z H H1) (hp : H1 p = none) (k2 : Keep Z H1 H2) (o : HO) : Keep Z H (upd H2 p o) := fun b u e n => by
  rcases k b u e n with h | ⟨u1, h1, t1⟩
  · exact .inl h
  · rcases k2 b u1 h1 n with ⟨z, t⟩ | ⟨u2, h2, t2⟩
    · exact .inl ⟨z, t1 t⟩
    · exact .inr ⟨u2, by rw [upd_ne (ne_of_none h1 hp)]; exact h2, fun t => t1 (t2 t)⟩

/-- a value that is read and not kept: it stands, or a slot alone holds it -/
def BRp (Z : Wz) (Hf : Hp) (σ : L2.St) (env : EnvD) (d : D) (v : V) : Prop := Rp Z Hf d v ∨ ∃ i : Nat, env[i]? = some (Slot.own d) ∧ σ[i]? = some (some v)
/-- .. as it stands -/
def VRp (Z : Wz) (Hf H : Hp) (d : D) (v : V) : Prop := Rp Z Hf d v ∨ ∃ a, v = .ref a ∧ OwnRp Z Hf H a d
theorem BRp.mono {Z : Wz} {Hf Hf' : Hp} {σ : L2.St} {env : EnvD} {d : D} {v : V} (e : Same Hf Hf') (h : BRp Z Hf σ env d v) : BRp Z Hf' σ env d v := h.elim (fun h => .inl (Rp.mono e _ _ h)) .inr
theorem BRp.at {Z : Wd} {H0 G0 H Hf : Hp} {σ : L2.St} {env : EnvD} {c : Nat} {d : D} {v : V} (S : Sim Z H0 G0 σ H Hf env c) (h : BRp Z.toWz Hf σ env d v) : VRp Z.toWz Hf H d v := by
  rcases h with h | ⟨i, h1, h2⟩
  · exact .inl h
  · obtain ⟨a, e, _, _, _, o⟩ := S.own i d h1
    rw [h2] at e
    cases e
    exact .inr ⟨a, rfl, o⟩
theorem OwnRp.mono {Z : Wd} {Hf Hf' H H' : Hp} {a : Addr} (e : Same Hf Hf') (k : KeepX Z H H') (nt : ¬ Z.T a) : ∀ {d : D}, OwnRp Z.toWz Hf H a d → OwnRp Z.toWz Hf' H' a d
  | .lst ds, ⟨vs, h1, h2⟩ => ⟨vs, k _ _ h1 (fun z => nt z.t), RpL.mono e _ _ h2⟩
  | .dic false ks ds, ⟨kvs, h1, h2, h3⟩ => ⟨kvs, k _ _ h1 (fun z => nt z.t), h2, RpL.mono e _ _ h3⟩
  | .dic true ks ds, ⟨kvs, h1, h2, h3⟩ => ⟨kvs, k _ _ h1 (fun z => nt z.t), h2, RpL.mono e _ _ h3⟩

/-! ### readings over trees -/
abbrev WD := D → Nat → Prop
abbrev TED := EnvD → Nat → WD → (D → Nat → Prop) → Prop
abbrev TTD := EnvD → Nat → WD → (Bool → Nat → Prop) → Prop
abbrev TAD := EnvD → Nat → WD → (List D → Nat → Prop) → Prop

/-- a frame of ours: what stays, the heap and its standing part at the entry, what the context takes of exceptions -/
structure Fd where
  Z : Wd
  H0 : Hp
  G0 : Hp
  W : WX
/-- an exception that leaves -/
def IsX (Z : Wz) (Hf : Hp) (cls : Value) (dx : Option Addr) (d : D) : Prop := ∃ (n : Str) (C : Addr) (as : List D) (vs : List V), d = .exc n as ∧ Z.mg n = some (.ref C) ∧ cls = .ref C ∧ RpL Z Hf as vs ∧
  ((dx = none ∧ vs = []) ∨ ∃ (x : Addr) (f : Str) (w : V), dx = some x ∧ vs = [w] ∧ Hf x = some (.xd [(f, w)]))
def XL (F : Fd) (σ : L2.St) (env : EnvD) (Wd : WD) : Prop := ∀ (cls : Value) (dx : Option Addr) (H' Hf' : Hp) (c' : Nat) (d : D), Sim F.Z F.H0 F.G0 σ H' Hf' env c' → IsX F.Z.toWz Hf' cls dx d → Wd d c' → F.W cls dx σ H'

def liftE (F : Fd) (t : TED) : TE := fun σ H Q => ∃ (Hf : Hp) (env : EnvD) (c : Nat) (Wd : WD) (Qd : D → Nat → Prop), Sim F.Z F.H0 F.G0 σ H Hf env c ∧ XL F σ env Wd ∧ t env c Wd Qd ∧
  ∀ (v : V) (H' Hf' : Hp) (c' : Nat) (d : D), Sim F.Z F.H0 F.G0 σ H' Hf' env c' → Same Hf Hf' → Keep F.Z H H' → Rp F.Z.toWz Hf' d v → Qd d c' → Q v H'
def liftB (F : Fd) (t : TED) : TE := fun σ H Q => ∃ (Hf : Hp) (env : EnvD) (c : Nat) (Wd : WD) (Qd : D → Nat → Prop), Sim F.Z F.H0 F.G0 σ H Hf env c ∧ XL F σ env Wd ∧ t env c Wd Qd ∧
  ∀ (v : V) (H' Hf' : Hp) (c' : Nat) (d : D), Sim F.Z F.H0 F.G0 σ H' Hf' env c' → Same Hf Hf' → Keep F.Z H H' → BRp F.Z.toWz Hf' σ env d v → Qd d c' → Q v H'
def liftT (F : Fd) (t : TTD) : TT := fun σ H Q => ∃ (Hf : Hp) (env : EnvD) (c : Nat) (Wd : WD) (Qd : Bool → Nat → Prop), Sim F.Z F.H0 F.G0 σ H Hf env c ∧ XL F σ env Wd ∧ t env c Wd Qd ∧
  ∀ (b : Bool) (H' Hf' : Hp) (c' : Nat), Sim F.Z F.H0 F.G0 σ H' Hf' env c' → Same Hf Hf' → Keep F.Z H H' → Qd b c' → Q b H'
def liftA (F : Fd) (t : TAD) : TA := fun σ H Q => ∃ (Hf : Hp) (env : EnvD) (c : Nat) (Wd : WD) (Qd : List D → Nat → Prop), Sim F.Z F.H0 F.G0 σ H Hf env c ∧ XL F σ env Wd ∧ t env c Wd Qd ∧
  ∀ (vs : List V) (H' Hf' : Hp) (c' : Nat) (ds : List D), Sim F.Z F.H0 F.G0 σ H' Hf' env c' → Same Hf Hf' → Keep F.Z H H' → RpL F.Z.toWz Hf' ds vs → Qd ds c' → Q vs H'

/-- an expression is read as t: its value is kept (DE), or read and dropped (DB); a test; arguments -/
abbrev DE (X : Cx) (F : Fd) (e : Expr) (t : TED) : Prop := PE X e (liftE F t)
abbrev DB (X : Cx) (F : Fd) (e : Expr) (t : TED) : Prop := PE X e (liftB F t)
abbrev DT (X : Cx) (F : Fd) (e : Expr) (t : TTD) : Prop := PT X e (liftT F t)
abbrev DA (X : Cx) (F : Fd) (es : List Expr) (t : TAD) : Prop := PA X es (liftA F t)

theorem PE.imp {X : Cx} {e : Expr} {t t' : TE} (h : PE X e t) (i : ∀ σ H Q, t' σ H Q → t σ H Q) : PE X e t' := ⟨fun pins s σ H Q I q => h.run pins s σ H Q I (i σ H Q q)⟩
theorem PT.imp {X : Cx} {e : Expr} {t t' : TT} (h : PT X e t) (i : ∀ σ H Q, t' σ H Q → t σ H Q) : PT X e t' := ⟨fun pins s σ H Q I q => h.run pins s σ H Q I (i σ H Q q)⟩
theorem PA.imp {X : Cx} {e : List Expr} {t t' : TA} (h : PA X e t) (i : ∀ σ H Q, t' σ H Q → t σ H Q) : PA X e t' := ⟨fun pos pins s σ H Q I q => h.run pos pins s σ H Q I (i σ H Q q)⟩
theorem PS.imp {X : Cx} {e : Stmt} {t t' : TS} (h : PS X e t) (i : ∀ D σ H, t' D σ H → t D σ H) : PS X e t' := ⟨fun pins s σ H D I q => h.run pins s σ H D I (i D σ H q)⟩
end DL
set_option Elab.async false
set_option linter.all false
set_option maxRecDepth 100000
set_option maxHeartbeats 4000000
/-! DL1: expressions. -/
namespace DL
open PySem PySem.Spec PyProof.Rows L2

/-- heap and standing part have grown -/
structure Grow (Hf H Hf' H' : Hp) : Prop where
  hf : Same Hf Hf'
  h : Same H H'
  sub : Same Hf' H'
  new : ∀ b, Hf' b ≠ none → Hf b = none → NewB (H b)
  ntb : ∀ b ps, Hf' b = some (.tbl ps) → Hf b = some (.tbl ps)
theorem NewB.back {G H : Hp} {b : Addr} (s : Same G H) (h : NewB (H b)) : NewB (G b) := by
  cases q : G b with
  | none => exact .inl rfl
  | some o =>
    have z := s b o q
    rcases h with h | ⟨xs, h⟩
    · rw [z] at h; cases h
    · rw [z] at h; cases h; exact .inr ⟨xs, rfl⟩
theorem Grow.refl {Hf H : Hp} (s : Same Hf H) : Grow Hf H Hf H := ⟨Same.refl _, Same.refl _, s, fun b h1 h2 => absurd h2 h1, fun _ _ h => h⟩
theorem Grow.trans {Hf H Hf1 H1 Hf2 H2 : Hp} (a : Grow Hf H Hf1 H1) (b : Grow Hf1 H1 Hf2 H2) : Grow Hf H Hf2 H2 :=
  ⟨a.hf.trans b.hf, a.h.trans b.h, b.sub, fun c h1 h2 => by
    by_cases e : Hf1 c = none
    · exact NewB.back a.h (b.new c h1 e)
    · exact a.new c e h2, fun c ps h => a.ntb c ps (b.ntb c ps h)⟩
theorem same_upd {H : Hp} {p : Addr} {o : HO} (h : H p = none) : Same H (upd H p o) := fun b u e => by rw [upd_ne (ne_of_none e h)]; exact e
theorem Grow.one {Hf H : Hp} {p : Addr} {o : HO} (s : Same Hf H) (h : H p = none) (no : ∀ ps, o ≠ .tbl ps) : Grow Hf H (upd Hf p o) (upd H p o) :=
  ⟨same_upd (s.free h), same_upd h, fun b u e => by
    by_cases hb : b = p
    · subst hb; rw [upd_same] at e ⊢; exact e
    · rw [upd_ne hb] at e ⊢; exact s _ _ e, fun b h1 h2 => by
    by_cases hb : b = p
    · subst hb; exact .inl h
    · rw [upd_ne hb] at h1; exact absurd h2 h1, fun b ps e => by
    by_cases hb : b = p
    · subst hb; rw [upd_same] at e; cases e; exact absurd rfl (no ps)
    · rw [upd_ne hb] at e; exact e⟩

section
variable {Z : Wd} {H0 G0 : Hp} {σ : L2.St} {H Hf H' Hf' : Hp} {env : EnvD} {c : Nat}
theorem StAt.keep {Z : Wz} (k : ∀ b, (b = Z.sa ∨ b = Z.sl ∨ b = Z.sc) → ∀ o, H b = some o → H' b = some o) (h : StAt Z H c) : StAt Z H' c := by
  obtain ⟨l, t, ls, cs, h1, h2, h3, r⟩ := h
  exact ⟨l, t, ls, cs, k _ (.inl rfl) _ h1, k _ (.inr (.inl rfl)) _ h2, k _ (.inr (.inr rfl)) _ h3, r⟩
theorem Sim.grow (S : Sim Z H0 G0 σ H Hf env c) (g : Grow Hf H Hf' H') : Sim Z H0 G0 σ H' Hf' env c where
  sub := g.sub
  g0 := S.g0.trans g.hf
  new := fun b h1 h2 => by
    by_cases e : Hf b = none
    · have hb := g.new b h1 e
      cases q : H0 b with
      | none => exact .inl rfl
      | some o =>
        by_cases s : Z.S b
        · exfalso
          obtain ⟨hs, z⟩ := s
          obtain ⟨_, _, _, _, a1, a2, _⟩ := S.st hs
          rcases z with z | z
          · rw [z, a1] at hb; rcases hb with hb | ⟨xs, hb⟩ <;> cases hb
          · rw [z, a2] at hb; rcases hb with hb | ⟨xs, hb⟩ <;> cases hb
        · rw [S.keep b o q s] at hb
          rcases hb with hb | ⟨xs, hb⟩
          · cases hb
          · cases hb; exact .inr ⟨xs, rfl⟩
    · exact S.new b e h2
  keep := fun b o h n => g.h b o (S.keep b o h n)
  len := S.len
  val := fun i d h => let ⟨v, h1, h2⟩ := S.val i d h; ⟨v, h1, Rp.mono g.hf _ _ h2⟩
  own := fun i d h => by
    obtain ⟨a, h1, h2, h3, h4, h5⟩ := S.own i d h
    refine ⟨a, h1, ?_, h3, h4, OwnRp.mono g.hf (KeepX.of g.h) h4 h5⟩
    cases q : Hf' a with
    | none => rfl
    | some o =>
      have z := g.new a (by rw [q]; exact fun z => by cases z) h2
      cases d with
      | lst ds => obtain ⟨vs, e, _⟩ := h5; rw [e] at z; rcases z with z | ⟨xs, z⟩ <;> cases z
      | dic t ks ds => cases t <;> (obtain ⟨kvs, e, _⟩ := h5; rw [e] at z; rcases z with z | ⟨xs, z⟩ <;> cases z)
      | _ => exact h5.elim
  inj := S.inj
  st := fun hs => (S.st hs).keep fun b _ o e => g.h b o e
  stf := fun b s => by
    cases q : Hf' b with
    | none => rfl
    | some o =>
      exfalso
      have z := g.new b (by rw [q]; exact fun z => by cases z) (S.stf b s)
      obtain ⟨hs, y⟩ := s
      obtain ⟨_, _, _, _, a1, a2, _⟩ := S.st hs
      rcases y with y | y
      · rw [y, a1] at z; rcases z with z | ⟨xs, z⟩ <;> cases z
      · rw [y, a2] at z; rcases z with z | ⟨xs, z⟩ <;> cases z
  tab := S.tab.ext g.h
  ntb := fun b ps h => S.ntb b ps (g.ntb b ps h)
end

/-! ### from a kept value to a read one; names and constants -/
section
variable {X : Cx} {F : Fd} {e a b : Expr} {pos : Pos}
theorem DB.of {t : TED} (h : DE X F e t) : DB X F e t := PE.imp h fun σ H Q ⟨Hf, env, c, Wd, Qd, S, x, ht, k⟩ =>
  ⟨Hf, env, c, Wd, Qd, S, x, ht, fun v H' Hf' c' d S' s1 s2 r q => k v H' Hf' c' d S' s1 s2 (.inl r) q⟩

@[simp] def tVarD (i : Nat) : TED := fun env c _ Q => match env[i]? with
  | some (.val d) => Q d c
  | _ => False
@[simp] def tVarB (i : Nat) : TED := fun env c _ Q => match env[i]? with
  | some (.val d) => Q d c
  | some (.own d) => Q d c
  | _ => False
theorem de_pv (i : Nat) {x : Str} (h : PE X (.Name x pos) (tVar i)) : DE X F (.Name x pos) (tVarD i) := PE.imp h fun σ H Q ⟨Hf, env, c, Wd, Qd, S, _, ht, k⟩ => by
  unfold tVarD at ht
  split at ht
  · rename_i d e
    obtain ⟨v, h1, h2⟩ := S.val i d e
    exact ⟨v, h1, k v H Hf c d S (Same.refl _) Keep.refl h2 ht⟩
  · exact ht.elim
theorem db_pv (i : Nat) {x : Str} (h : PE X (.Name x pos) (tVar i)) : DB X F (.Name x pos) (tVarB i) := PE.imp h fun σ H Q ⟨Hf, env, c, Wd, Qd, S, _, ht, k⟩ => by
  unfold tVarB at ht
  split at ht
  · rename_i d e
    obtain ⟨v, h1, h2⟩ := S.val i d e
    exact ⟨v, h1, k v H Hf c d S (Same.refl _) Keep.refl (.inl h2) ht⟩
  · rename_i d e
    obtain ⟨a, h1, h2, h3, h4, h5⟩ := S.own i d e
    exact ⟨.ref a, h1, k _ H Hf c d S (Same.refl _) Keep.refl (.inr ⟨i, e, h1⟩) ht⟩
  · exact ht.elim

/-- a flat value -/
def flatD : D → V → Prop
  | .non, v => v = .non
  | .bl b, v => v = .bl b
  | .int i, v => v = .int i
  | .str x, v => v = .str x
  | _, _ => False
theorem rp_flat {Z : Wz} {H : Hp} : ∀ {d : D} {v : V}, flatD d v → Rp Z H d v
  | .non, _, h => rp_non.mpr h
  | .bl _, _, h => rp_bl.mpr h
  | .int _, _, h => rp_int.mpr h
  | .str _, _, h => rp_str.mpr h
@[simp] def tCD (d : D) : TED := fun _ c _ Q => Q d c
theorem de_c {v : V} {d : D} (h : PE X e (tC v)) (f : flatD d v) : DE X F e (tCD d) := PE.imp h fun σ H Q ⟨Hf, env, c, Wd, Qd, S, _, ht, k⟩ =>
  k v H Hf c d S (Same.refl _) Keep.refl (rp_flat f) ht
theorem de_int {i : Int} {j : Nat} : DE X F (.Constant (.int i) j pos) (tCD (.int i)) := de_c pe_int rfl
theorem de_bl {b : Bool} {j : Nat} : DE X F (.Constant (.bool b) j pos) (tCD (.bl b)) := de_c pe_bl rfl
theorem de_non {j : Nat} : DE X F (.Constant .none j pos) (tCD .non) := de_c pe_non rfl
theorem de_str {x : Str} {j : Nat} : DE X F (.Constant (.str x) j pos) (tCD (.str x)) := de_c pe_str rfl

/-! ### argument lists -/
@[simp] def tNilD : TAD := fun _ c _ Q => Q [] c
@[simp] def tConsD (t : TED) (u : TAD) : TAD := fun env c W Q => t env c W fun d c1 => u env c1 W fun ds c2 => Q (d :: ds) c2
theorem da_nil : DA X F [] tNilD := PA.imp pa_nil fun σ H Q ⟨Hf, env, c, Wd, Qd, S, _, ht, k⟩ => k [] H Hf c [] S (Same.refl _) Keep.refl RpL.nil ht
theorem da_cons {es : List Expr} {t : TED} {u : TAD} (ha : DE X F e t) (hr : DA X F es u) (hs : starEach (e :: es) X.env = (false, eval e X.env) :: starEach es X.env := by rfl) : DA X F (e :: es) (tConsD t u) :=
  PA.imp (pa_cons ha hr hs) fun σ H Q ⟨Hf, env, c, Wd, Qd, S, x, ht, k⟩ => ⟨Hf, env, c, Wd, _, S, x, ht, fun v H1 Hf1 c1 d S1 s1 k1 r1 q1 =>
    ⟨Hf1, env, c1, Wd, _, S1, x, q1, fun vs H2 Hf2 c2 ds S2 s2 k2 r2 q2 => k (v :: vs) H2 Hf2 c2 (d :: ds) S2 (s1.trans s2) (k1.trans k2) (RpL.cons (Rp.mono s2 _ _ r1) r2) q2⟩⟩
/-- arguments that are read and not kept -/
def BRpL (Z : Wz) (Hf : Hp) (σ : L2.St) (env : EnvD) : List D → List V → Prop
  | [], vs => vs = []
  | d :: ds, vs => ∃ v r, vs = v :: r ∧ BRp Z Hf σ env d v ∧ BRpL Z Hf σ env ds r
def VRpL (Z : Wz) (Hf H : Hp) : List D → List V → Prop
  | [], vs => vs = []
  | d :: ds, vs => ∃ v r, vs = v :: r ∧ VRp Z Hf H d v ∧ VRpL Z Hf H ds r
theorem BRpL.at {Z : Wd} {H0 G0 H Hf : Hp} {σ : L2.St} {env : EnvD} {c : Nat} (S : Sim Z H0 G0 σ H Hf env c) : ∀ {ds : List D} {vs : List V}, BRpL Z.toWz Hf σ env ds vs → VRpL Z.toWz Hf H ds vs
  | [], _, h => h
  | d :: ds, _, h => by
    obtain ⟨v, r, rfl, h1, h2⟩ := h
    exact ⟨v, r, rfl, h1.at S, BRpL.at S h2⟩
def liftAB (F : Fd) (t : TAD) : TA := fun σ H Q => ∃ (Hf : Hp) (env : EnvD) (c : Nat) (Wd : WD) (Qd : List D → Nat → Prop), Sim F.Z F.H0 F.G0 σ H Hf env c ∧ XL F σ env Wd ∧ t env c Wd Qd ∧
  ∀ (vs : List V) (H' Hf' : Hp) (c' : Nat) (ds : List D), Sim F.Z F.H0 F.G0 σ H' Hf' env c' → Same Hf Hf' → Keep F.Z H H' → BRpL F.Z.toWz Hf' σ env ds vs → Qd ds c' → Q vs H'
abbrev DAB (X : Cx) (F : Fd) (es : List Expr) (t : TAD) : Prop := PA X es (liftAB F t)
theorem dab_nil : DAB X F [] tNilD := PA.imp pa_nil fun σ H Q ⟨Hf, env, c, Wd, Qd, S, _, ht, k⟩ => k [] H Hf c [] S (Same.refl _) Keep.refl rfl ht
theorem dab_cons {es : List Expr} {t : TED} {u : TAD} (ha : DB X F e t) (hr : DAB X F es u) (hs : starEach (e :: es) X.env = (false, eval e X.env) :: starEach es X.env := by rfl) : DAB X F (e :: es) (tConsD t u) :=
  PA.imp (pa_cons ha hr hs) fun σ H Q ⟨Hf, env, c, Wd, Qd, S, x, ht, k⟩ => ⟨Hf, env, c, Wd, _, S, x, ht, fun v H1 Hf1 c1 d S1 s1 k1 r1 q1 =>
    ⟨Hf1, env, c1, Wd, _, S1, x, q1, fun vs H2 Hf2 c2 ds S2 s2 k2 r2 q2 => k (v :: vs) H2 Hf2 c2 (d :: ds) S2 (s1.trans s2) (k1.trans k2) ⟨v, vs, rfl, BRp.mono s2 r1, r2⟩ q2⟩⟩

/-! ### operators on two values: r tells what comes of two trees -/
abbrev RD := D → D → (D → Prop) → Prop
def liftR (Z : Wz) (r : RD) : R2 := fun x y H Q => ∃ (Hf : Hp) (d e : D) (k : D → Prop), Same Hf H ∧ VRp Z Hf H d x ∧ VRp Z Hf H e y ∧ r d e k ∧ ∀ (z : V) (H' Hf' : Hp) (g : D), Grow Hf H Hf' H' → Rp Z Hf' g z → k g → Q z H'
abbrev OpD (X : Cx) (Z : Wz) (f : Value → Value → Sem Value) (r : RD) : Prop := OpR X f (liftR Z r)
@[simp] def tOpD (r : RD) (t u : TED) : TED := fun env c W Q => t env c W fun d c1 => u env c1 W fun e c2 => r d e fun g => Q g c2
theorem op_use {σ : L2.St} {H : Hp} {r : RD} {ta tb : TED} {Q : VK} (h : liftE F (tOpD r ta tb) σ H Q) : tOp (liftR F.Z.toWz r) (liftB F ta) (liftB F tb) σ H Q := by
  obtain ⟨Hf, env, c, Wd, Qd, S, x, ht, k⟩ := h
  refine ⟨Hf, env, c, Wd, _, S, x, ht, fun v H1 Hf1 c1 d S1 s1 k1 r1 q1 => ?_⟩
  refine ⟨Hf1, env, c1, Wd, _, S1, x, q1, fun w H2 Hf2 c2 e S2 s2 k2 r2 q2 => ?_⟩
  refine ⟨Hf2, d, e, _, S2.sub, (BRp.mono s2 r1).at S2, r2.at S2, q2, fun z H' Hf' g gr rp q3 => ?_⟩
  exact k z H' Hf' c2 g (S2.grow gr) ((s1.trans s2).trans gr.hf) ((k1.trans k2).trans (Keep.of gr.h)) rp q3
theorem de_op {op : Operator} {r : RD} {ta tb : TED} (ho : OpD X F.Z.toWz (binaryOp op) r) (ha : DB X F a ta) (hb : DB X F b tb) : DE X F (.BinOp a op b pos) (tOpD r ta tb) :=
  PE.imp (pe_op ho ha hb) fun σ H Q h => op_use h
theorem de_cmp {op : CmpOp} {r : RD} {ta tb : TED} (ho : OpD X F.Z.toWz (compareOp op) r) (ha : DB X F a ta) (hb : DB X F b tb) (hm : behindInMarks op b = false := by first | exact nomark _ | rfl) : DE X F (.Compare a [op] [b] pos) (tOpD r ta tb) :=
  PE.imp (pe_cmpR ho ha hb hm) fun σ H Q h => op_use h
/-- a reading whose value is a bool, as a test -/
@[simp] def tTestD (t : TED) : TTD := fun env c W Q => t env c W fun d c1 => match d with
  | .bl b => Q b c1
  | _ => False
theorem test_use {σ : L2.St} {H : Hp} {t : TED} {Q : Bool → Hp → Prop} (h : liftT F (tTestD t) σ H Q) : liftE F t σ H fun x H' => ∃ k, x = .bl k ∧ Q k H' := by
  obtain ⟨Hf, env, c, Wd, Qd, S, x, ht, k⟩ := h
  refine ⟨Hf, env, c, Wd, _, S, x, ht, fun v H1 Hf1 c1 d S1 s1 k1 r1 q1 => ?_⟩
  cases d with
  | bl b => exact ⟨b, rp_bl.mp r1, k b H1 Hf1 c1 S1 s1 k1 q1⟩
  | _ => exact q1.elim
theorem dt_cmp {op : CmpOp} {r : RD} {ta tb : TED} (ho : OpD X F.Z.toWz (compareOp op) r) (ha : DB X F a ta) (hb : DB X F b tb) (hm : behindInMarks op b = false := by first | exact nomark _ | rfl) : DT X F (.Compare a [op] [b] pos) (tTestD (tOpD r ta tb)) :=
  PT.imp (pt_cmpR ho ha hb hm) fun σ H Q h => op_use (test_use h)
/-- a op1 b op2 c -/
@[simp] def tChainD (r r' : RD) (ta tb tc : TED) : TED := fun env c W Q => ta env c W fun x c1 => tb env c1 W fun y c2 => r x y fun z => match z with
  | .bl true => tc env c2 W fun w c3 => r' y w fun g => Q g c3
  | .bl false => Q (.bl false) c2
  | _ => False
theorem chain_use {σ : L2.St} {H : Hp} {r r' : RD} {ta tb tc : TED} {Q : VK} (h : liftE F (tChainD r r' ta tb tc) σ H Q) : tChain (liftR F.Z.toWz r) (liftR F.Z.toWz r') (liftB F ta) (liftB F tb) (liftB F tc) σ H Q := by
  obtain ⟨Hf, env, c, Wd, Qd, S, x, ht, k⟩ := h
  refine ⟨Hf, env, c, Wd, _, S, x, ht, fun v H1 Hf1 c1 d S1 s1 k1 r1 q1 => ?_⟩
  refine ⟨Hf1, env, c1, Wd, _, S1, x, q1, fun w H2 Hf2 c2 e S2 s2 k2 r2 q2 => ?_⟩
  refine ⟨Hf2, d, e, _, S2.sub, (BRp.mono s2 r1).at S2, r2.at S2, q2, fun z H' Hf' g gr rp q3 => ?_⟩
  cases g with
  | bl b =>
    cases rp_bl.mp rp
    refine ⟨b, rfl, ?_⟩
    have S3 := S2.grow gr
    cases b with
    | true =>
      refine iteT ⟨Hf', env, c2, Wd, _, S3, x, q3, fun u H4 Hf4 c4 f S4 s4 k4 r4 q4 => ?_⟩
      refine ⟨Hf4, e, f, _, S4.sub, (BRp.mono (gr.hf.trans s4) r2).at S4, r4.at S4, q4, fun z5 H5 Hf5 g5 gr5 rp5 q5 => ?_⟩
      exact k z5 H5 Hf5 c4 g5 (S4.grow gr5) ((((s1.trans s2).trans gr.hf).trans s4).trans gr5.hf) ((((k1.trans k2).trans (Keep.of gr.h)).trans k4).trans (Keep.of gr5.h)) rp5 q5
    | false => exact iteF (k (.bl false) H' Hf' c2 (.bl false) S3 ((s1.trans s2).trans gr.hf) ((k1.trans k2).trans (Keep.of gr.h)) (rp_bl.mpr rfl) q3)
  | _ => exact q3.elim
theorem de_chain {c : Expr} {op op' : CmpOp} {r r' : RD} {ta tb tc : TED} (ho : OpD X F.Z.toWz (compareOp op) r) (ho' : OpD X F.Z.toWz (compareOp op') r') (ha : DB X F a ta) (hb : DB X F b tb) (hc : DB X F c tc)
    (hm : lastMarks [op, op'] [b, c] = false := by with_unfolding_all rfl) : DE X F (.Compare a [op, op'] [b, c] pos) (tChainD r r' ta tb tc) := PE.imp (pe_chain ho ho' ha hb hc hm) fun σ H Q h => chain_use h
theorem dt_chain {c : Expr} {op op' : CmpOp} {r r' : RD} {ta tb tc : TED} (ho : OpD X F.Z.toWz (compareOp op) r) (ho' : OpD X F.Z.toWz (compareOp op') r') (ha : DB X F a ta) (hb : DB X F b tb) (hc : DB X F c tc)
    (hm : lastMarks [op, op'] [b, c] = false := by with_unfolding_all rfl) : DT X F (.Compare a [op, op'] [b, c] pos) (tTestD (tChainD r r' ta tb tc)) := PT.imp (pt_chain ho ho' ha hb hc hm) fun σ H Q h => chain_use (test_use h)

/-! ### and, or, not, if .. else -/
@[simp] def tAndD (t u : TTD) : TTD := fun env c W Q => t env c W fun b c1 => if b = true then u env c1 W Q else Q false c1
@[simp] def tOrD (t u : TTD) : TTD := fun env c W Q => t env c W fun b c1 => if b = true then Q true c1 else u env c1 W Q
@[simp] def tNotD (t : TTD) : TTD := fun env c W Q => t env c W fun b c1 => Q (!b) c1
abbrev DW (X : Cx) (F : Fd) (e : Expr) (t : TTD) : Prop := PW X e (liftT F t)
theorem PW.imp {t t' : TT} (h : PW X e t) (i : ∀ σ H Q, t' σ H Q → t σ H Q) : PW X e t' := ⟨fun wh pins s σ H Q I q => h.run wh pins s σ H Q I (i σ H Q q)⟩
variable {rest : List Expr} {tA tB : TTD}
theorem dw_and1 (ha : DT X F a tA) : DW X F (.BoolOp .And [a] pos) tA := pw_and1 ha
theorem dw_or1 (ha : DT X F a tA) : DW X F (.BoolOp .Or [a] pos) tA := pw_or1 ha
theorem dw_and (ha : DT X F a tA) (hb : DW X F (.BoolOp .And (b :: rest) pos) tB) : DW X F (.BoolOp .And (a :: b :: rest) pos) (tAndD tA tB) :=
  PW.imp (pw_and ha hb) fun σ H Q ⟨Hf, env, c, Wd, Qd, S, x, ht, k⟩ => ⟨Hf, env, c, Wd, _, S, x, ht, fun d H1 Hf1 c1 S1 s1 k1 q1 => by
    cases d with
    | true => exact iteT ⟨Hf1, env, c1, Wd, _, S1, x, q1, fun d2 H2 Hf2 c2 S2 s2 k2 q2 => k d2 H2 Hf2 c2 S2 (s1.trans s2) (k1.trans k2) q2⟩
    | false => exact iteF (k false H1 Hf1 c1 S1 s1 k1 q1)⟩
theorem dw_or (ha : DT X F a tA) (hb : DW X F (.BoolOp .Or (b :: rest) pos) tB) : DW X F (.BoolOp .Or (a :: b :: rest) pos) (tOrD tA tB) :=
  PW.imp (pw_or ha hb) fun σ H Q ⟨Hf, env, c, Wd, Qd, S, x, ht, k⟩ => ⟨Hf, env, c, Wd, _, S, x, ht, fun d H1 Hf1 c1 S1 s1 k1 q1 => by
    cases d with
    | true => exact iteT (k true H1 Hf1 c1 S1 s1 k1 q1)
    | false => exact iteF ⟨Hf1, env, c1, Wd, _, S1, x, q1, fun d2 H2 Hf2 c2 S2 s2 k2 q2 => k d2 H2 Hf2 c2 S2 (s1.trans s2) (k1.trans k2) q2⟩⟩
theorem dt_w (h : DW X F e tA) : DT X F e tA := h.pt
theorem dt_not (ha : DT X F a tA) : DT X F (.UnaryOp .Not a pos) (tNotD tA) :=
  PT.imp (pt_not ha) fun σ H Q ⟨Hf, env, c, Wd, Qd, S, x, ht, k⟩ => ⟨Hf, env, c, Wd, _, S, x, ht, fun d H1 Hf1 c1 S1 s1 k1 q1 => k (!d) H1 Hf1 c1 S1 s1 k1 q1⟩
/-- .. as values, all but the last a bool -/
@[simp] def boolD (d : D) (k : Bool → Prop) : Prop := match d with
  | .bl b => k b
  | _ => False
@[simp] def tAndVD (t u : TED) : TED := fun env c W Q => t env c W fun d c1 => boolD d fun b => if b = true then u env c1 W Q else Q (.bl false) c1
@[simp] def tOrVD (t u : TED) : TED := fun env c W Q => t env c W fun d c1 => boolD d fun b => if b = true then Q (.bl true) c1 else u env c1 W Q
@[simp] def tNotVD (t : TED) : TED := fun env c W Q => t env c W fun d c1 => boolD d fun b => Q (.bl (!b)) c1
variable {ta tb : TED}
theorem de_one {op : BoolOp} (h : DE X F a ta) : DE X F (.BoolOp op [a] pos) ta := pe_one h
theorem de_and (ha : DE X F a ta) (hb : DE X F (.BoolOp .And (b :: rest) pos) tb) : DE X F (.BoolOp .And (a :: b :: rest) pos) (tAndVD ta tb) :=
  PE.imp (pe_and ha hb) fun σ H Q ⟨Hf, env, c, Wd, Qd, S, x, ht, k⟩ => ⟨Hf, env, c, Wd, _, S, x, ht, fun v H1 Hf1 c1 d S1 s1 k1 r1 q1 => by
    cases d with
    | bl b =>
      refine ⟨b, rp_bl.mp r1, ?_⟩
      cases b with
      | true => exact iteT ⟨Hf1, env, c1, Wd, _, S1, x, q1, fun v2 H2 Hf2 c2 d2 S2 s2 k2 r2 q2 => k v2 H2 Hf2 c2 d2 S2 (s1.trans s2) (k1.trans k2) r2 q2⟩
      | false => exact iteF (k _ H1 Hf1 c1 (.bl false) S1 s1 k1 (rp_bl.mpr rfl) q1)
    | _ => exact q1.elim⟩
theorem de_or (ha : DE X F a ta) (hb : DE X F (.BoolOp .Or (b :: rest) pos) tb) : DE X F (.BoolOp .Or (a :: b :: rest) pos) (tOrVD ta tb) :=
  PE.imp (pe_or ha hb) fun σ H Q ⟨Hf, env, c, Wd, Qd, S, x, ht, k⟩ => ⟨Hf, env, c, Wd, _, S, x, ht, fun v H1 Hf1 c1 d S1 s1 k1 r1 q1 => by
    cases d with
    | bl b =>
      refine ⟨b, rp_bl.mp r1, ?_⟩
      cases b with
      | true => exact iteT (k _ H1 Hf1 c1 (.bl true) S1 s1 k1 (rp_bl.mpr rfl) q1)
      | false => exact iteF ⟨Hf1, env, c1, Wd, _, S1, x, q1, fun v2 H2 Hf2 c2 d2 S2 s2 k2 r2 q2 => k v2 H2 Hf2 c2 d2 S2 (s1.trans s2) (k1.trans k2) r2 q2⟩
    | _ => exact q1.elim⟩
theorem de_not (ha : DE X F a ta) : DE X F (.UnaryOp .Not a pos) (tNotVD ta) :=
  PE.imp (pe_not ha) fun σ H Q ⟨Hf, env, c, Wd, Qd, S, x, ht, k⟩ => ⟨Hf, env, c, Wd, _, S, x, ht, fun v H1 Hf1 c1 d S1 s1 k1 r1 q1 => by
    cases d with
    | bl b => exact ⟨b, rp_bl.mp r1, k _ H1 Hf1 c1 (.bl (!b)) S1 s1 k1 (rp_bl.mpr rfl) q1⟩
    | _ => exact q1.elim⟩
/-- a if t else b -/
@[simp] def tIfD (t : TTD) (u w : TED) : TED := fun env c W Q => t env c W fun b c1 => if b = true then u env c1 W Q else w env c1 W Q
theorem de_if {t : Expr} {tt : TTD} (hc : DT X F t tt) (ha : DE X F a ta) (hb : DE X F b tb) : DE X F (.IfExp t a b pos) (tIfD tt ta tb) :=
  PE.imp (pe_ifExp hc ha hb) fun σ H Q ⟨Hf, env, c, Wd, Qd, S, x, ht, k⟩ => ⟨Hf, env, c, Wd, _, S, x, ht, fun d H1 Hf1 c1 S1 s1 k1 q1 => by
    cases d with
    | true => exact iteT ⟨Hf1, env, c1, Wd, _, S1, x, q1, fun v2 H2 Hf2 c2 d2 S2 s2 k2 r2 q2 => k v2 H2 Hf2 c2 d2 S2 (s1.trans s2) (k1.trans k2) r2 q2⟩
    | false => exact iteF ⟨Hf1, env, c1, Wd, _, S1, x, q1, fun v2 H2 Hf2 c2 d2 S2 s2 k2 r2 q2 => k v2 H2 Hf2 c2 d2 S2 (s1.trans s2) (k1.trans k2) r2 q2⟩⟩
end
end DL
set_option Elab.async false
set_option linter.all false
set_option maxRecDepth 100000
set_option maxHeartbeats 4000000
/-! DL2: statements, defs, calls. -/
namespace DL
open PySem PySem.Spec PyProof.Rows L2

/-- what is wanted behind a statement, over trees -/
structure EndsD where
  nx : EnvD → Nat → Prop
  rt : D → Nat → Prop
  bk : EnvD → Nat → Prop := fun _ _ => False
  ct : EnvD → Nat → Prop := fun _ _ => False
  ex : D → EnvD → Nat → Prop := fun _ _ _ => False
abbrev TSD := EndsD → EnvD → Nat → Prop
structure EL (F : Fd) (H1 : Hp) (D0 : Ends) (Dd : EndsD) : Prop where
  nx : ∀ σ H Hf env c, Sim F.Z F.H0 F.G0 σ H Hf env c → Same H1 Hf → Dd.nx env c → D0.nx σ H
  rt : ∀ σ H Hf env c d v, Sim F.Z F.H0 F.G0 σ H Hf env c → Same H1 Hf → Rp F.Z.toWz Hf d v → Dd.rt d c → D0.rt v H
  bk : ∀ σ H Hf env c, Sim F.Z F.H0 F.G0 σ H Hf env c → Same H1 Hf → Dd.bk env c → D0.bk σ H
  ct : ∀ σ H Hf env c, Sim F.Z F.H0 F.G0 σ H Hf env c → Same H1 Hf → Dd.ct env c → D0.ct σ H
  ex : ∀ σ H Hf env c cls dx d, Sim F.Z F.H0 F.G0 σ H Hf env c → IsX F.Z.toWz Hf cls dx d → Dd.ex d env c → F.W cls dx σ H
theorem EL.grow {F : Fd} {H1 H2 : Hp} {D0 : Ends} {Dd : EndsD} (L : EL F H1 D0 Dd) (s : Same H1 H2) : EL F H2 D0 Dd :=
  ⟨fun σ H Hf env c S t q => L.nx σ H Hf env c S (s.trans t) q, fun σ H Hf env c d v S t r q => L.rt σ H Hf env c d v S (s.trans t) r q, fun σ H Hf env c S t q => L.bk σ H Hf env c S (s.trans t) q, fun σ H Hf env c S t q => L.ct σ H Hf env c S (s.trans t) q, L.ex⟩
theorem EL.xl {F : Fd} {H1 : Hp} {D0 : Ends} {Dd : EndsD} (L : EL F H1 D0 Dd) (σ : L2.St) (env : EnvD) : XL F σ env (fun d c => Dd.ex d env c) := fun cls dx H' Hf' c' d S x q => L.ex σ H' Hf' env c' cls dx d S x q
def liftS (F : Fd) (t : TSD) : TS := fun D0 σ H => ∃ (Hf : Hp) (env : EnvD) (c : Nat) (Dd : EndsD), Sim F.Z F.H0 F.G0 σ H Hf env c ∧ EL F Hf D0 Dd ∧ t Dd env c
abbrev DS (X : Cx) (F : Fd) (st : Stmt) (t : TSD) : Prop := PS X st (liftS F t)
abbrev DSs (X : Cx) (F : Fd) (st : List Stmt) (t : TSD) : Prop := PSs X st (liftS F t)
theorem PSs.imp {X : Cx} {e : List Stmt} {t t' : TS} (h : PSs X e t) (i : ∀ D σ H, t' D σ H → t D σ H) : PSs X e t' := ⟨fun pins s σ H D I q => h.run pins s σ H D I (i D σ H q)⟩

section
variable {Z : Wd} {H0 G0 : Hp} {σ : L2.St} {H Hf H' Hf' : Hp} {env : EnvD} {c : Nat}
theorem Sim.set (S : Sim Z H0 G0 σ H Hf env c) {d : D} {v : V} (r : Rp Z.toWz Hf d v) (i : Nat) : Sim Z H0 G0 (σ.set i (some v)) H Hf (env.set i (.val d)) c where
  sub := S.sub
  g0 := S.g0
  new := S.new
  keep := S.keep
  len := by rw [List.length_set, List.length_set]; exact S.len
  val := fun j e h => by
    rw [List.getElem?_set] at h ⊢
    by_cases hj : i = j
    · rw [if_pos hj] at h ⊢
      have hl := S.len
      split at h
      · cases h
        rw [if_pos (by omega)]
        exact ⟨v, rfl, r⟩
      · cases h
    · rw [if_neg hj] at h ⊢
      exact S.val j e h
  own := fun j e h => by
    rw [List.getElem?_set] at h ⊢
    by_cases hj : i = j
    · rw [if_pos hj] at h
      split at h <;> cases h
    · rw [if_neg hj] at h ⊢
      exact S.own j e h
  inj := fun j k d e a h1 h2 h3 h4 => by
    rw [List.getElem?_set] at h1 h2 h3 h4
    by_cases hj : i = j
    · rw [if_pos hj] at h1
      split at h1 <;> cases h1
    · by_cases hk : i = k
      · rw [if_pos hk] at h2
        split at h2 <;> cases h2
      · rw [if_neg hj] at h1 h3
        rw [if_neg hk] at h2 h4
        exact S.inj j k d e a h1 h2 h3 h4
  st := S.st
  stf := S.stf
  tab := S.tab
  ntb := S.ntb
/-- a slot is forgotten -/
theorem Sim.drop (S : Sim Z H0 G0 σ H Hf env c) (i : Nat) : Sim Z H0 G0 σ H Hf (env.set i .un) c where
  sub := S.sub
  g0 := S.g0
  new := S.new
  keep := S.keep
  len := by rw [List.length_set]; exact S.len
  val := fun j e h => by
    rw [List.getElem?_set] at h
    by_cases hj : i = j
    · rw [if_pos hj] at h
      split at h <;> cases h
    · rw [if_neg hj] at h
      exact S.val j e h
  own := fun j e h => by
    rw [List.getElem?_set] at h
    by_cases hj : i = j
    · rw [if_pos hj] at h
      split at h <;> cases h
    · rw [if_neg hj] at h
      exact S.own j e h
  inj := fun j k d e a h1 h2 h3 h4 => by
    rw [List.getElem?_set] at h1 h2
    by_cases hj : i = j
    · rw [if_pos hj] at h1
      split at h1 <;> cases h1
    · by_cases hk : i = k
      · rw [if_pos hk] at h2
        split at h2 <;> cases h2
      · rw [if_neg hj] at h1
        rw [if_neg hk] at h2
        exact S.inj j k d e a h1 h2 h3 h4
  st := S.st
  stf := S.stf
  tab := S.tab
  ntb := S.ntb
end

section
variable {X : Cx} {F : Fd} {e : Expr} {st : Stmt} {rest : List Stmt} {pos : Pos} {t u : TSD} {te : TED} {tt : TTD}
@[simp] def tNextD : TSD := fun D env c => D.nx env c
@[simp] def tSeqD (t u : TSD) : TSD := fun D env c => t { D with nx := u D } env c
theorem dss_nil : DSs X F [] tNextD := PSs.imp pss_nil fun D σ H ⟨Hf, env, c, Dd, S, L, h⟩ => L.nx σ H Hf env c S (Same.refl _) h
theorem dss_cons (h1 : DS X F st t) (h2 : DSs X F rest u) : DSs X F (st :: rest) (tSeqD t u) := PSs.imp (pss_cons h1 h2) fun D σ H ⟨Hf, env, c, Dd, S, L, h⟩ =>
  ⟨Hf, env, c, { Dd with nx := u Dd }, S, { L with nx := fun σ' H' Hf' env' c' S' s1 q => ⟨Hf', env', c', Dd, S', L.grow s1, q⟩ }, h⟩
theorem dss_one (h1 : DS X F st t) : DSs X F [st] t := pss_one h1
theorem ds_pass : DS X F (.Pass pos) tNextD := PS.imp ps_pass fun D σ H ⟨Hf, env, c, Dd, S, L, h⟩ => L.nx σ H Hf env c S (Same.refl _) h
@[simp] def tBreakD : TSD := fun D env c => D.bk env c
@[simp] def tContD : TSD := fun D env c => D.ct env c
theorem ds_break : DS X F (.Break pos) tBreakD := PS.imp ps_break fun D σ H ⟨Hf, env, c, Dd, S, L, h⟩ => L.bk σ H Hf env c S (Same.refl _) h
theorem ds_continue : DS X F (.Continue pos) tContD := PS.imp ps_continue fun D σ H ⟨Hf, env, c, Dd, S, L, h⟩ => L.ct σ H Hf env c S (Same.refl _) h
theorem ds_doc {x : Str} {j : Nat} {p : Pos} : DS X F (.Expr (.Constant (.str x) j p) pos) tNextD := PS.imp ps_doc fun D σ H ⟨Hf, env, c, Dd, S, L, h⟩ => L.nx σ H Hf env c S (Same.refl _) h
@[simp] def tDropD (t : TED) : TSD := fun D env c => t env c (fun d c1 => D.ex d env c1) fun _ c1 => D.nx env c1
theorem ds_expr (he : DE X F e te) (hs : swapsWith e none pos.line X.env = pure false := by rfl) : DS X F (.Expr e pos) (tDropD te) := PS.imp (ps_expr he hs) fun D σ H ⟨Hf, env, c, Dd, S, L, h⟩ =>
  ⟨Hf, env, c, _, _, S, L.xl σ env, h, fun v H' Hf' c' d S' s1 _ _ q => L.nx σ H' Hf' env c' S' s1 q⟩
@[simp] def tRetD (t : TED) : TSD := fun D env c => t env c (fun d c1 => D.ex d env c1) fun d c1 => D.rt d c1
theorem ds_ret (he : DE X F e te) : DS X F (.Return (some e) pos) (tRetD te) := PS.imp (ps_ret he) fun D σ H ⟨Hf, env, c, Dd, S, L, h⟩ =>
  ⟨Hf, env, c, _, _, S, L.xl σ env, h, fun v H' Hf' c' d S' s1 _ r q => L.rt σ H' Hf' env c' d v S' s1 r q⟩
@[simp] def tRetND : TSD := fun D _ c => D.rt .non c
theorem ds_retN : DS X F (.Return none pos) tRetND := PS.imp ps_retN fun D σ H ⟨Hf, env, c, Dd, S, L, h⟩ => L.rt σ H Hf env c .non .non S (Same.refl _) (rp_non.mpr rfl) h
@[simp] def tIfSD (tt : TTD) (t u : TSD) : TSD := fun D env c => tt env c (fun d c1 => D.ex d env c1) fun b c1 => if b = true then t D env c1 else u D env c1
theorem ds_if {a b : List Stmt} (hc : DT X F e tt) (ha : DSs X F a t) (hb : DSs X F b u) : DS X F (.If e a b pos) (tIfSD tt t u) := PS.imp (ps_if hc ha hb) fun D σ H ⟨Hf, env, c, Dd, S, L, h⟩ =>
  ⟨Hf, env, c, _, _, S, L.xl σ env, h, fun b H' Hf' c' S' s1 _ q => by
    cases b with
    | true => exact iteT ⟨Hf', env, c', Dd, S', L.grow s1, q⟩
    | false => exact iteF ⟨Hf', env, c', Dd, S', L.grow s1, q⟩⟩
@[simp] def tSetD (i : Nat) (t : TED) : TSD := fun D env c => t env c (fun d c1 => D.ex d env c1) fun d c1 => D.nx (env.set i (.val d)) c1
theorem ds_set (i : Nat) {x : Str} {p : Pos} (hN : X.N.Nodup) (he : DE X F e te) (hi : X.N[i]? = some x := by rfl) (hx : Loc X.env.scope x := by first | exact Or.inl rfl | exact Or.inr rfl) (hs : swapsWith e (some (.Name x p)) pos.line X.env = pure false := by rfl)
    (hf : X.fn x = true ∨ X.env.scope.names.lookup x = some .local := by first | exact .inl rfl | exact .inr rfl) : DS X F (.Assign [.Name x p] e pos) (tSetD i te) :=
  PS.imp (ps_set hN hi hx he hs hf) fun D σ H ⟨Hf, env, c, Dd, S, L, h⟩ => ⟨Hf, env, c, _, _, S, L.xl σ env, h, fun v H' Hf' c' d S' s1 _ r q => L.nx _ H' Hf' _ c' (S'.set r i) s1 q⟩
theorem Sim.drops {Z : Wd} {H0 G0 : Hp} {σ : L2.St} {H Hf : Hp} {c : Nat} : ∀ (is : List Nat) {env : EnvD}, Sim Z H0 G0 σ H Hf env c → Sim Z H0 G0 σ H Hf (is.foldl (fun m i => m.set i .un) env) c
  | [], _, S => S
  | i :: r, _, S => Sim.drops r (S.drop i)
/-- a slot is forgotten ahead of a block -/
@[simp] def tForgetD (is : List Nat) (t : TSD) : TSD := fun D env c => t D (is.foldl (fun m i => m.set i .un) env) c
theorem dss_forget (is : List Nat) {sts : List Stmt} (h : DSs X F sts t) : DSs X F sts (tForgetD is t) := PSs.imp h fun D σ H ⟨Hf, env, c, Dd, S, L, q⟩ => by
  exact ⟨Hf, is.foldl (fun m i => m.set i .un) env, c, Dd, S.drops is, L, q⟩
end

/-! ### defs without a state of the law -/
/-- a promise over trees: arguments, wanted exception, wanted value -/
abbrev PF := List D → (D → Prop) → (D → Prop) → Prop
def spP (K : PySem.W.Frag) (mg : Str → Option Value) (f : PF) : Sp := fun vs H Q E => ∃ (Z : Wz) (ds : List D) (G : Hp) (W R : D → Prop), Z.K = K ∧ Z.mg = mg ∧ Same G H ∧ RpL Z G ds vs ∧ f ds W R ∧
  (∀ (v : V) (H' G' : Hp) (d : D), Grow G H G' H' → Rp Z G' d v → R d → Q v H') ∧ (∀ (cls : Value) (dx : Option Addr) (H' G' : Hp) (d : D), Grow G H G' H' → IsX Z G' cls dx d → W d → E cls dx H')
/-- slots at the entry -/
@[simp] def envAt (n : Nat) (ds : List D) : EnvD := ds.map Slot.val ++ List.replicate (n - ds.length) .un
theorem envAt_val {n i : Nat} {ds : List D} {d : D} (h : (envAt n ds)[i]? = some (Slot.val d)) : ds[i]? = some d := by
  unfold envAt at h
  by_cases hi : i < ds.length
  · rw [List.getElem?_append_left (by simpa using hi), List.getElem?_map] at h
    cases e : ds[i]? with
    | none => rw [e] at h; cases h
    | some x => rw [e] at h; cases h; rfl
  · rw [List.getElem?_append_right (by simpa using hi), List.getElem?_replicate] at h
    split at h <;> cases h
theorem envAt_own {n i : Nat} {ds : List D} {d : D} (h : (envAt n ds)[i]? = some (Slot.own d)) : False := by
  unfold envAt at h
  by_cases hi : i < ds.length
  · rw [List.getElem?_append_left (by simpa using hi), List.getElem?_map] at h
    cases e : ds[i]? with
    | none => rw [e] at h; cases h
    | some x => rw [e] at h; cases h
  · rw [List.getElem?_append_right (by simpa using hi), List.getElem?_replicate] at h
    split at h <;> cases h
theorem start_at {N : List Str} {vs : List V} {i : Nat} {v : V} (h : vs[i]? = some v) : (L2.start N vs)[i]? = some (some v) := by
  unfold L2.start
  have hl : i < vs.length := (List.getElem?_eq_some_iff.mp h).1
  rw [List.getElem?_append_left (by simpa using hl), List.getElem?_map, h]
  rfl
theorem Sim.begin {Z : Wd} {H G : Hp} {N : List Str} {ds : List D} {vs : List V} {c : Nat} (g : Same G H) (r : RpL Z.toWz G ds vs) (st : StOk Z H c) (sf : ∀ b, Z.S b → G b = none) (tb : LamX.Tabs Z.tabs H) : Sim Z H G (L2.start N vs) H G (envAt N.length ds) c where
  sub := g
  g0 := Same.refl _
  new := fun b h1 h2 => absurd h2 h1
  keep := fun b o h _ => h
  len := by
    unfold envAt L2.start
    rw [List.length_append, List.length_append, List.length_map, List.length_map, List.length_replicate, List.length_replicate, r.length]
  val := fun i d h => by
    obtain ⟨v, e1, e2⟩ := r.get (envAt_val h)
    exact ⟨v, start_at e1, e2⟩
  own := fun i d h => (envAt_own h).elim
  inj := fun i j d e a h1 _ _ _ => (envAt_own h1).elim
  st := st
  stf := sf
  tab := tb
  ntb := fun _ _ h => h
/-- what comes back: from the entry to here the heap has grown (no state of the law at hand) -/
theorem Sim.back {Z : Wd} {H0 G0 : Hp} {σ : L2.St} {H Hf : Hp} {env : EnvD} {c : Nat} (S : Sim Z H0 G0 σ H Hf env c) (hz : Z.sf = false) : Grow G0 H0 Hf H :=
  ⟨S.g0, fun b o h => S.keep b o h fun s => by have z := s.1; rw [hz] at z; exact absurd z Bool.false_ne_true, S.sub, fun b h1 h2 => S.new b h1 h2, S.ntb⟩

section
variable {P : Program} {w : World} {K : PySem.W.Frag} {mg : Str → Option Value} {base : Heap}
/-- the frame of a def without a state of the law -/
abbrev fdP (K : PySem.W.Frag) (mg : Str → Option Value) (sa sl sc : Addr) (H G : Hp) (W : WX) : Fd := ⟨⟨⟨K, mg, sa, sl, sc⟩, false, []⟩, H, G, W⟩
theorem okP {x qual : Str} {st : Stmt} {f : Addr} {fd : FuncData} {N ps : List Str} {k : Nat} {pf : PF} (Fn : Fun K x qual st f fd) (S : FnScope N ps (defScope st)) (len : ∀ ds W R, pf ds W R → ds.length = ps.length)
    (hbody : ∀ (X : Cx) (F : Fd) (cdv : Value) (A : Around) (outer : List Env) (s : Shared) (H G : Hp) (sa sl sc : Addr) (E : XK), X = cxOf (L2.CX P w) P w K mg base N qual (defScope st) f cdv A outer s H E → F = fdP K mg sa sl sc H G (fun cls d _ H => E cls d H) →
      Takes X F.W → Room k X.A → ∃ t, DSs X F (defBody st) t ∧ ∀ (ds : List D) (W R : D → Prop), pf ds W R → t { nx := fun _ _ => R .non, rt := fun d _ => R d, ex := fun d _ _ => W d } (envAt N.length ds) 0) :
    FnOk P w K mg base (L2.CX P w) (k + 1) f fd ps (spP K mg pf) := by
  refine Fn.okX S (fun vs H Q E h => ?_) fun cdv A outer s H vs Q E hr h => ?_
  · obtain ⟨Z, ds, G, W, R, _, _, _, r, hp, _⟩ := h
    rw [← r.length]
    exact len _ _ _ hp
  · obtain ⟨⟨K', mg', sa, sl, sc⟩, ds, G, W, R, e1, e2, g, r, hp, kq, kx⟩ := h
    cases e1
    cases e2
    obtain ⟨t, ht, hq⟩ := hbody _ (fdP K' mg' sa sl sc H G (fun cls d _ H => E cls d H)) cdv A outer s H G sa sl sc E rfl rfl (takes_of rfl rfl rfl rfl) hr
    refine ⟨_, ht, G, envAt N.length ds, 0, _, Sim.begin (Z := ⟨⟨K', mg', sa, sl, sc⟩, false, []⟩) g r (fun z => absurd z Bool.false_ne_true) (fun b s => absurd s.1 Bool.false_ne_true) (fun _ z => absurd z List.not_mem_nil), ?_, hq ds W R hp⟩
    refine ⟨fun σ' H' Hf' env' c' S' _ q => ?_, fun σ' H' Hf' env' c' d v S' _ r' q => ?_, fun σ' H' Hf' env' c' S' _ q => q.elim, fun σ' H' Hf' env' c' S' _ q => q.elim, fun σ' H' Hf' env' c' cls dx d S' x' q => ?_⟩
    · exact kq .non H' Hf' .non (S'.back rfl) (rp_non.mpr rfl) q
    · exact kq v H' Hf' d (S'.back rfl) r' q
    · exact kx cls dx H' Hf' d (S'.back rfl) x' q
end

/-! ### a call of such a def -/
@[simp] def tCallP (f : PF) (t : TAD) : TED := fun env c W Q => t env c W fun ds c1 => f ds (fun d => W d c1) fun d => Q d c1
section
variable {X : Cx} {F : Fd} {k : Nat} {f : Addr} {fd : FuncData} {ps : List Str} {pf : PF} {x : Str} {p pos : Pos} {e : Expr} {es : List Expr} {t : TAD}
theorem callP_use {σ : L2.St} {H : Hp} {Q : VK} {K : PySem.W.Frag} {mg : Str → Option Value} (hK : F.Z.K = K) (hM : F.Z.mg = mg) (h : liftE F (tCallP pf t) σ H Q) : tCallS (spP K mg pf) (WE F.W) (liftA F t) σ H Q := by
  obtain ⟨Hf, env, c, Wd, Qd, S, x, ht, k⟩ := h
  refine ⟨Hf, env, c, Wd, _, S, x, ht, fun vs H1 Hf1 c1 ds S1 s1 k1 r1 q1 => ?_⟩
  refine ⟨F.Z.toWz, ds, Hf1, _, _, hK, hM, S1.sub, r1, q1, fun v H' G' d g r q => ?_, fun cls dx H' G' d g i q => ?_⟩
  · exact k v H' G' c1 d (S1.grow g) (s1.trans g.hf) (k1.trans (Keep.of g.h)) r q
  · exact x cls dx H' G' c1 d (S1.grow g) i q
theorem de_callP (Fk : FnOk X.prog X.w X.K X.mg X.base (L2.CX X.prog X.w) k f fd ps (spP X.K X.mg pf)) (hr : Room k X.A) (hm : X.mg x = some (.ref f)) (hk : PySem.W.keepIn X.K (.ref f) = true) (hb : Binds X.K fd ps []) (tk : Takes X F.W)
    (ha : DA X F (e :: es) t) (hg : Gl X x := by rfl) (hK : F.Z.K = X.K := by rfl) (hM : F.Z.mg = X.mg := by rfl) (hdb : (x == ("__debug__" : Str)) = false := by decide) (he : starEach (e :: es) X.env = (false, eval e X.env) :: starEach es X.env := by rfl)
    (hpl : (backTo pos (starEach es X.env)).any (·.1) = false := by rfl) : DE X F (.Call (.Name x p) (e :: es) [] pos) (tCallP pf t) :=
  PE.imp (pe_callS Fk hr hg hm hk hb (fun σ => passAt tk σ) ha hdb he hpl) fun σ H Q h => callP_use hK hM h
end

/-! ### raise X('..'), X an own class without own __init__ -/
@[simp] def tRaiseD (n : Str) : TSD := fun D env c => D.ex (.exc n []) env c
theorem ds_raise {X : Cx} {F : Fd} {C : Addr} {bmB : List Value} {B newId initId : String} {x m : Str} {j : Nat} {p p2 pos pos2 : Pos} (hc : X.calm = true) (tk : Takes X F.W) (FB : ExcBaseFacts B newId initId bmB) (q : PySem.W.excIn X.K C bmB newId = true) (gC : X.mg x = some (.ref C))
    (kC : PySem.W.keepIn X.K (.ref C) = true) (r : Raises X (.ref C)) (hM : F.Z.mg = X.mg := by rfl) (hg : Gl X x := by rfl) (hdb : (x == ("__debug__" : Str)) = false := by decide) :
    DS X F (.Raise (some (.Call (.Name x p) [.Constant (.str m) j p2] [] pos)) none pos2) (tRaiseD x) :=
  PS.imp (ps_raise hc tk (pmk_own FB q gC kC r hg hdb)) fun D σ H ⟨Hf, env, c, Dd, S, L, h⟩ =>
    L.ex σ H Hf env c (.ref C) none (.exc x []) S ⟨x, C, [], [], rfl, by rw [hM]; exact gC, rfl, RpL.nil, .inl ⟨rfl, rfl⟩⟩ h
end DL
set_option Elab.async false
set_option linter.all false
set_option maxRecDepth 100000
set_option maxHeartbeats 4000000
/-! DL3: operators and comparisons by trees. -/
namespace DL
open PySem PySem.Spec PyProof.Rows L2

/-! ### what a read value is -/
section
variable {Z : Wz} {Hf H : Hp} {x : V}
theorem vrp_non (h : VRp Z Hf H .non x) : x = .non := h.elim rp_non.mp fun ⟨_, _, q⟩ => q.elim
theorem vrp_bl {b : Bool} (h : VRp Z Hf H (.bl b) x) : x = .bl b := h.elim rp_bl.mp fun ⟨_, _, q⟩ => q.elim
theorem vrp_int {i : Int} (h : VRp Z Hf H (.int i) x) : x = .int i := h.elim rp_int.mp fun ⟨_, _, q⟩ => q.elim
theorem vrp_str {y : Str} (h : VRp Z Hf H (.str y) x) : x = .str y := h.elim rp_str.mp fun ⟨_, _, q⟩ => q.elim
theorem vrp_tup {ds : List D} (s : Same Hf H) (h : VRp Z Hf H (.tup ds) x) : ∃ (a : Addr) (vs : List V), x = .ref a ∧ H a = some (.tup vs) ∧ RpL Z Hf ds vs ∧ Rp Z Hf (.tup ds) x := h.elim (fun q => by
  obtain ⟨a, vs, e, h1, h2⟩ := rp_tup.mp q
  exact ⟨a, vs, e, s _ _ h1, h2, q⟩) fun ⟨_, _, q⟩ => q.elim
theorem vrp_lst {ds : List D} (s : Same Hf H) (h : VRp Z Hf H (.lst ds) x) : ∃ (a : Addr) (vs : List V), x = .ref a ∧ H a = some (.lst vs) ∧ RpL Z Hf ds vs := h.elim (fun q => by
  obtain ⟨a, vs, e, h1, h2⟩ := rp_lst.mp q
  exact ⟨a, vs, e, s _ _ h1, h2⟩) fun ⟨a, e, q⟩ => by
  obtain ⟨vs, h1, h2⟩ := q
  exact ⟨a, vs, e, h1, h2⟩
theorem vrp_scr {ns : List Int} (s : Same Hf H) (h : VRp Z Hf H (.scr ns) x) : ∃ a : Addr, x = .ref a ∧ SqL Z.K H a (ns.map V.int) := h.elim (fun q => by
  obtain ⟨a, e, h1⟩ := rp_scr.mp q
  exact ⟨a, e, s.seq h1⟩) fun ⟨_, _, q⟩ => q.elim
theorem new_lst {ds : List D} {vs : List V} {p : Addr} (s : Same Hf H) (hp : H p = none) (r : RpL Z Hf ds vs) : Grow Hf H (upd Hf p (.lst vs)) (upd H p (.lst vs)) ∧ Rp Z (upd Hf p (.lst vs)) (.lst ds) (.ref p) :=
  ⟨Grow.one s hp (fun _ z => by cases z), rp_lst.mpr ⟨p, vs, rfl, upd_same, RpL.mono (same_upd (s.free hp)) _ _ r⟩⟩
theorem new_tup {ds : List D} {vs : List V} {p : Addr} (s : Same Hf H) (hp : H p = none) (r : RpL Z Hf ds vs) : Grow Hf H (upd Hf p (.tup vs)) (upd H p (.tup vs)) ∧ Rp Z (upd Hf p (.tup vs)) (.tup ds) (.ref p) :=
  ⟨Grow.one s hp (fun _ z => by cases z), rp_tup.mpr ⟨p, vs, rfl, upd_same, RpL.mono (same_upd (s.free hp)) _ _ r⟩⟩
theorem RpL.nil_iff {ds : List D} {vs : List V} (r : RpL Z Hf ds vs) : vs = [] ↔ ds = [] := by
  have e := r.length
  constructor
  · intro h; subst h; exact List.length_eq_zero_iff.mp e
  · intro h; subst h; exact List.length_eq_zero_iff.mp e.symm
end

/-! ### arithmetic -/
@[simp] def addD : RD
  | .int i, .int j, k => k (.int (i + j))
  | .str x, .str y, k => x.length + y.length ≤ sizeLine ∧ k (.str (x ++ y))
  | .lst a, .lst b, k => a.length + b.length ≤ sizeLine ∧ k (.lst (a ++ b))
  | .tup a, .tup b, k => a.length + b.length ≤ sizeLine ∧ k (.tup (a ++ b))
  | _, _, _ => False
theorem op_addD {X : Cx} {Z : Wz} (hK : Z.K = X.K := by rfl) : OpD X Z (binaryOp .Add) addD := by
  intro pins s σ H x y v u Q I rx ry h
  obtain ⟨Hf, d, e, k, sub, hx, hy, hr, kk⟩ := h
  unfold addD at hr
  split at hr
  · cases vrp_int hx
    cases vrp_int hy
    exact op_add pins s σ H _ _ v u Q I rx ry ⟨_, _, rfl, rfl, kk _ H Hf _ (Grow.refl sub) (rp_int.mpr rfl) hr⟩
  · cases vrp_str hx
    cases vrp_str hy
    exact op_add_str pins s σ H _ _ v u Q I rx ry ⟨_, _, rfl, rfl, hr.1, kk _ H Hf _ (Grow.refl sub) (rp_str.mpr rfl) hr.2⟩
  · obtain ⟨p, vs, rfl, h1, r1⟩ := vrp_lst sub hx
    obtain ⟨q, ws, rfl, h2, r2⟩ := vrp_lst sub hy
    refine op_cat pins s σ H _ _ v u Q I rx ry ⟨p, q, vs, ws, rfl, rfl, h1, h2, by rw [← r1.length, ← r2.length]; exact hr.1, fun n hn => ?_⟩
    obtain ⟨g, r⟩ := new_lst sub hn (r1.append r2)
    exact kk _ _ _ _ g r hr.2
  · obtain ⟨p, vs, rfl, h1, r1, w1⟩ := vrp_tup sub hx
    obtain ⟨q, ws, rfl, h2, r2, w2⟩ := vrp_tup sub hy
    refine op_catA pins s σ H _ _ v u Q I rx ry ⟨p, q, vs, ws, rfl, rfl, SqT.of h1, SqT.of h2, by rw [← r1.length, ← r2.length]; exact hr.1, fun e => ?_, fun _ e => ?_, fun _ _ n hn => ?_⟩
    · rw [r1.nil_iff] at e
      subst e
      exact kk _ H Hf _ (Grow.refl sub) w2 hr.2
    · rw [r2.nil_iff] at e
      subst e
      rw [List.append_nil] at hr
      exact kk _ H Hf _ (Grow.refl sub) w1 hr.2
    · obtain ⟨g, r⟩ := new_tup sub hn (r1.append r2)
      exact kk _ _ _ _ g r hr.2
  · exact hr.elim
@[simp] def intRD (C : Int → Int → Prop) (g : Int → Int → D) : RD
  | .int i, .int j, k => C i j ∧ k (g i j)
  | _, _, _ => False
theorem op_intD {X : Cx} {Z : Wz} {f : Value → Value → Sem Value} {C : Int → Int → Prop} {g : Int → Int → V} {gd : Int → Int → D} (h : OpR X f (rI C g)) (hg : ∀ i j, flatD (gd i j) (g i j)) : OpD X Z f (intRD C gd) := by
  intro pins s σ H x y v u Q I rx ry h'
  obtain ⟨Hf, d, e, k, sub, hx, hy, hr, kk⟩ := h'
  unfold intRD at hr
  split at hr
  · cases vrp_int hx
    cases vrp_int hy
    exact h pins s σ H _ _ v u Q I rx ry ⟨_, _, rfl, rfl, hr.1, kk _ H Hf _ (Grow.refl sub) (rp_flat (hg _ _)) hr.2⟩
  · exact hr.elim
def rI_of0 {g : Int → Int → V} {X : Cx} {f : Value → Value → Sem Value} (h : OpR X f (rI0 g)) : OpR X f (rI (fun _ _ => True) g) := by
  intro pins s σ H x y v u Q I rx ry ⟨i, j, e1, e2, _, q⟩
  exact h pins s σ H x y v u Q I rx ry ⟨i, j, e1, e2, q⟩
abbrev subD : RD := intRD (fun _ _ => True) fun i j => .int (i - j)
theorem op_subD {X : Cx} {Z : Wz} : OpD X Z (binaryOp .Sub) subD := op_intD (rI_of0 op_sub) fun _ _ => rfl
abbrev mulD : RD := intRD IntMulOk fun i j => .int (i * j)
theorem op_mulD {X : Cx} {Z : Wz} : OpD X Z (binaryOp .Mult) mulD := op_intD (C := IntMulOk) (g := fun i j => .int (i * j)) (opI fun _ _ _ _ _ _ _ hc q => mul_int q hc) fun _ _ => rfl
abbrev modD : RD := intRD (fun _ j => 0 < j) fun i j => .int (i % j)
theorem op_modD {X : Cx} {Z : Wz} : OpD X Z (binaryOp .Mod) modD := op_intD op_mod fun _ _ => rfl
abbrev fdivD : RD := intRD CDiv fun i j => .int (i / j)
theorem op_fdivD {X : Cx} {Z : Wz} : OpD X Z (binaryOp .FloorDiv) fdivD := op_intD op_fdiv fun _ _ => rfl
abbrev powD : RD := intRD CPow fun i j => .int (i ^ j.toNat)
theorem op_powD {X : Cx} {Z : Wz} : OpD X Z (binaryOp .Pow) powD := op_intD op_pow fun _ _ => rfl
abbrev shlD : RD := intRD CShl fun i j => .int (i * 2 ^ j.toNat)
theorem op_shlD {X : Cx} {Z : Wz} : OpD X Z (binaryOp .LShift) shlD := op_intD op_shlW fun _ _ => rfl
abbrev shrD : RD := intRD (fun _ j => 0 ≤ j) fun i j => .int (i / 2 ^ j.toNat)
theorem op_shrD {X : Cx} {Z : Wz} : OpD X Z (binaryOp .RShift) shrD := op_intD op_shr fun _ _ => rfl
abbrev andD : RD := intRD (fun _ _ => True) fun i j => .int (Builtin.bitAnd i j)
theorem op_andD {X : Cx} {Z : Wz} : OpD X Z (binaryOp .BitAnd) andD := op_intD (rI_of0 op_and) fun _ _ => rfl
/-- -a -/
@[simp] def negD (d : D) (k : D → Prop) : Prop := match d with
  | .int i => k (.int (-i))
  | _ => False
@[simp] def tUnD (r : D → (D → Prop) → Prop) (t : TED) : TED := fun env c W Q => t env c W fun d c1 => r d fun g => Q g c1
theorem de_neg {X : Cx} {F : Fd} {a : Expr} {pos : Pos} {ta : TED} (ha : DB X F a ta) : DE X F (.UnaryOp .USub a pos) (tUnD negD ta) :=
  PE.imp (pe_un un_neg ha) fun σ H Q ⟨Hf, env, c, Wd, Qd, S, x, ht, k⟩ => ⟨Hf, env, c, Wd, _, S, x, ht, fun v H1 Hf1 c1 d S1 s1 k1 r1 q1 => by
    cases d with
    | int i => exact ⟨i, vrp_int (r1.at S1), k _ H1 Hf1 c1 (.int (-i)) S1 s1 k1 (rp_int.mpr rfl) q1⟩
    | _ => exact q1.elim⟩

/-! ### trees as data of the library -/
mutual
def toPy : D → PyData
  | .non => .none
  | .bl b => .bool b
  | .int i => .int i
  | .str x => .str x
  | .tup ds => .tuple (toPyL ds)
  | .lst ds => .list (toPyL ds)
  | .dic _ ks vs => .dict ((toPyL ks).zip (toPyL vs))
  | .st => .none
  | .scr _ => .none
  | .exc _ _ => .none
  | .fn _ _ _ => .none
  | .gl _ => .none
def toPyL : List D → List PyData
  | [] => []
  | d :: ds => toPy d :: toPyL ds
end
mutual
/-- None, bools, ints, texts, lists and tuples of these -/
def plain : D → Bool
  | .non => true
  | .bl _ => true
  | .int _ => true
  | .str _ => true
  | .tup ds => plainL ds
  | .lst ds => plainL ds
  | _ => false
def plainL : List D → Bool
  | [] => true
  | d :: ds => plain d && plainL ds
end
section
variable {Z : Wz} {H : Hp}
mutual
theorem rp_dp : ∀ (d : D) (v : V), plain d = true → Rp Z H d v → Dp Z.K H v (toPy d)
  | .non, v, _, h => by rw [rp_non.mp h, toPy]; exact Dp.non
  | .bl b, v, _, h => by rw [rp_bl.mp h, toPy]; exact Dp.bl b
  | .int i, v, _, h => by rw [rp_int.mp h, toPy]; exact Dp.int i
  | .str x, v, _, h => by rw [rp_str.mp h, toPy]; exact Dp.str x
  | .tup ds, v, p, h => by
    obtain ⟨a, vs, rfl, h1, h2⟩ := rp_tup.mp h
    rw [toPy]
    rw [plain] at p
    exact Dp.tup (SqT.of h1) (rpL_dp ds vs p h2)
  | .lst ds, v, p, h => by
    obtain ⟨a, vs, rfl, h1, h2⟩ := rp_lst.mp h
    rw [toPy]
    rw [plain] at p
    exact Dp.lst (SqL.of h1) (rpL_dp ds vs p h2)
  | .dic _ _ _, _, p, _ => by simp [plain] at p
  | .st, _, p, _ => by simp [plain] at p
  | .scr _, _, p, _ => by simp [plain] at p
  | .exc _ _, _, p, _ => by simp [plain] at p
  | .fn _ _ _, _, p, _ => by simp [plain] at p
  | .gl _, _, p, _ => by simp [plain] at p
theorem rpL_dp : ∀ (ds : List D) (vs : List V), plainL ds = true → RpL Z H ds vs → DpAll Z.K H vs (toPyL ds)
  | [], vs, _, h => by rw [rpL_nil.mp h, toPyL]; exact DpAll.nil
  | d :: ds, vs, p, h => by
    obtain ⟨v, r, rfl, h1, h2⟩ := rpL_cons.mp h
    rw [plainL, Bool.and_eq_true] at p
    rw [toPyL]
    exact DpAll.cons (rp_dp d v p.1 h1) (rpL_dp ds r p.2 h2)
end
theorem vrp_dp {Hf : Hp} {d : D} {v : V} (s : Same Hf H) (p : plain d = true) (h : VRp Z Hf H d v) : Dp Z.K H v (toPy d) := by
  rcases h with h | ⟨a, rfl, h⟩
  · exact rp_dp d v p (Rp.mono s _ _ h)
  · cases d with
    | lst ds =>
      obtain ⟨vs, h1, h2⟩ := h
      rw [toPy]
      rw [plain] at p
      exact Dp.lst (SqL.of h1) (rpL_dp ds vs p (RpL.mono s _ _ h2))
    | dic _ _ _ => simp [plain] at p
    | _ => exact h.elim
end
/-- == of plain trees -/
def eqvD (d e : D) : Bool := PyData.eqv (toPy d) (toPy e)
def shapedD (d : D) : Bool := plain d && SeqAt.shaped (toPy d)
@[simp] def eqD : RD := fun d e k => shapedD d = true ∧ shapedD e = true ∧ k (.bl (eqvD d e))
@[simp] def neD : RD := fun d e k => shapedD d = true ∧ shapedD e = true ∧ k (.bl (!eqvD d e))
theorem op_eqDD {X : Cx} {Z : Wz} (hu : X.A.units + 64 < cLine) (hK : Z.K = X.K := by rfl) : OpD X Z (compareOp .Eq) eqD := by
  intro pins s σ H x y v u Q I rx ry h
  obtain ⟨Hf, d, e, k, sub, hx, hy, ⟨h1, h2, hr⟩, kk⟩ := h
  unfold shapedD at h1 h2
  rw [Bool.and_eq_true] at h1 h2
  have d1 := vrp_dp sub h1.1 hx
  have d2 := vrp_dp sub h2.1 hy
  rw [hK] at d1 d2
  exact op_eqD hu pins s σ H x y v u Q I rx ry ⟨_, _, d1, d2, h1.2, h2.2, kk _ H Hf _ (Grow.refl sub) (rp_bl.mpr rfl) hr⟩
theorem op_neDD {X : Cx} {Z : Wz} (hu : X.A.units + 64 < cLine) (hK : Z.K = X.K := by rfl) : OpD X Z (compareOp .NotEq) neD := by
  intro pins s σ H x y v u Q I rx ry h
  obtain ⟨Hf, d, e, k, sub, hx, hy, ⟨h1, h2, hr⟩, kk⟩ := h
  unfold shapedD at h1 h2
  rw [Bool.and_eq_true] at h1 h2
  have d1 := vrp_dp sub h1.1 hx
  have d2 := vrp_dp sub h2.1 hy
  rw [hK] at d1 d2
  exact op_neD hu pins s σ H x y v u Q I rx ry ⟨_, _, d1, d2, h1.2, h2.2, kk _ H Hf _ (Grow.refl sub) (rp_bl.mpr rfl) hr⟩

/-! ### order -/
/-- a tuple of ints -/
@[simp] def intsD : List D → Option (List Int)
  | [] => some []
  | .int i :: r => (intsD r).map (i :: ·)
  | _ :: _ => none
theorem intsD_rp {Z : Wz} {H : Hp} : ∀ {ds : List D} {ns : List Int} {vs : List V}, intsD ds = some ns → RpL Z H ds vs → vs = ns.map V.int
  | [], ns, vs, e, h => by cases e; rw [rpL_nil.mp h]; rfl
  | .int i :: r, ns, vs, e, h => by
    obtain ⟨v, w, rfl, h1, h2⟩ := rpL_cons.mp h
    rw [intsD] at e
    cases q : intsD r with
    | none => rw [q] at e; cases e
    | some m =>
      rw [q] at e
      cases e
      rw [rp_int.mp h1, intsD_rp q h2]
      rfl
  | .non :: _, _, _, e, _ => by simp [intsD] at e
  | .bl _ :: _, _, _, e, _ => by simp [intsD] at e
  | .str _ :: _, _, _, e, _ => by simp [intsD] at e
  | .tup _ :: _, _, _, e, _ => by simp [intsD] at e
  | .lst _ :: _, _, _, e, _ => by simp [intsD] at e
  | .dic _ _ _ :: _, _, _, e, _ => by simp [intsD] at e
  | .st :: _, _, _, e, _ => by simp [intsD] at e
  | .scr _ :: _, _, _, e, _ => by simp [intsD] at e
  | .exc _ _ :: _, _, _, e, _ => by simp [intsD] at e
def rGeT (K : PySem.W.Frag) : R2 := fun x y H Q => ∃ (a b : Addr) (ns ms : List Int), x = .ref a ∧ y = .ref b ∧ SqT K H a (ns.map V.int) ∧ SqT K H b (ms.map V.int) ∧
  Q (.bl (Ob.lexAt (fun j => decide (ns.getD j 0 = ms.getD j 0)) (fun j => decide (ms.getD j 0 ≤ ns.getD j 0)) (decide (ms.length ≤ ns.length)) 0 (min ns.length ms.length))) H
theorem op_geT {X : Cx} (hu : X.A.units < cLine) : OpR X (compareOp .GtE) (rGeT X.K) := by
  intro pins s σ H x y v u Q I rx ry h
  obtain ⟨a, b, ns, ms, rfl, rfl, ha, hb, q⟩ := h
  cases rx
  cases ry
  obtain ⟨its, r1, p1, _⟩ := I.tuple ha
  obtain ⟨its2, r2, p2, _⟩ := I.tuple hb
  have i1 : IntsAre its ns := Vals.ints r1
  have i2 : IntsAre its2 ms := Vals.ints r2
  have e1 : its.toArray.size = ns.length := by rw [List.size_toArray]; exact i1.length
  have e2 : its2.toArray.size = ms.length := by rw [List.size_toArray]; exact i2.length
  have at1 : ∀ j (h1 : j < its.toArray.size), ∃ t, its.toArray[j] = .int (ns.getD j 0) t := fun j h1 => PyProof.Rows.IntsAre.int_at i1 _ _ (by simp at h1; simp [h1])
  have at2 : ∀ j (h1 : j < its2.toArray.size), ∃ t, its2.toArray[j] = .int (ms.getD j 0) t := fun j h1 => PyProof.Rows.IntsAre.int_at i2 _ _ (by simp at h1; simp [h1])
  have R := Ob.RcOp.tuples_ge (A := X.A) (s := s) (e := fun j => decide (ns.getD j 0 = ms.getD j 0)) (r := fun j => decide (ms.getD j 0 ≤ ns.getD j 0)) p1 p2 hu (fun j h1 h2 => by
    obtain ⟨t, et⟩ := at1 j h1
    obtain ⟨t', et'⟩ := at2 j h2
    rw [et, et']
    have z : (ns.getD j 0 == ms.getD j 0) = decide (ns.getD j 0 = ms.getD j 0) := by
      by_cases q : ns.getD j 0 = ms.getD j 0
      · rw [decide_eq_true q]; exact beq_iff_eq.mpr q
      · rw [decide_eq_false q]; exact beq_eq_false_iff_ne.mpr q
    rw [← z]
    exact SeqAt.EqAt.int_int _ _ _ _) (fun j h1 h2 _ => by
    obtain ⟨t, et⟩ := at1 j h1
    obtain ⟨t', et'⟩ := at2 j h2
    rw [et, et']
    exact Ob.RcOp.ge_int _ _ _ _)
  rw [e1, e2] at R
  have z : wpAny (model X.prog X.w) X.A (compareOp .GtE (.ref a) (.ref b)) (EP X pins σ Q) X.xe s := R X.prog X.w X.xe (EP X pins σ Q) ⟨.bl _, H, I, rfl, q⟩
  exact z
/-- lexicographic >= of ints, as the machine reads it -/
def geI (ns ms : List Int) : Bool := Ob.lexAt (fun j => decide (ns.getD j 0 = ms.getD j 0)) (fun j => decide (ms.getD j 0 ≤ ns.getD j 0)) (decide (ms.length ≤ ns.length)) 0 (min ns.length ms.length)
theorem lexAt_shift (e r : Nat → Bool) (z : Bool) : ∀ (n i : Nat), Ob.lexAt e r z (i + 1) n = Ob.lexAt (fun j => e (j + 1)) (fun j => r (j + 1)) z i n
  | 0, i => rfl
  | n + 1, i => by
    rw [Ob.lexAt_succ, Ob.lexAt_succ, lexAt_shift e r z n (i + 1)]
theorem geI_eq : ∀ ns ms : List Int, geI ns ms = !HT.lexLt ns ms
  | [], [] => by simp [geI, Ob.lexAt_zero, HT.lexLt_nil_nil]
  | [], m :: ms => by simp [geI, Ob.lexAt_zero, HT.lexLt_nil_cons]
  | n :: ns, [] => by simp [geI, Ob.lexAt_zero, HT.lexLt_cons_nil]
  | n :: ns, m :: ms => by
    have ih := geI_eq ns ms
    unfold geI at ih ⊢
    rw [HT.lexLt_cons]
    have e : min (n :: ns).length (m :: ms).length = min ns.length ms.length + 1 := by
      rw [List.length_cons, List.length_cons]; omega
    rw [e, Ob.lexAt_succ, lexAt_shift]
    have el : decide ((m :: ms).length ≤ (n :: ns).length) = decide (ms.length ≤ ns.length) := by
      rw [List.length_cons, List.length_cons]
      exact decide_eq_decide.mpr (by omega)
    rw [el]
    by_cases h : n = m
    · rw [if_pos (by simpa using h), if_pos h, ← ih]
      rfl
    · rw [if_neg (by simpa using h), if_neg h]
      show decide (m ≤ n) = !decide (n < m)
      by_cases q : n < m
      · rw [decide_eq_true q, decide_eq_false (by omega)]; rfl
      · rw [decide_eq_false q, decide_eq_true (by omega)]; rfl
@[simp] def ltD : RD
  | .int i, .int j, k => k (.bl (decide (i < j)))
  | .str x, .str y, k => k (.bl (decide (x.cps.toList < y.cps.toList)))
  | .tup a, .tup b, k => match intsD a, intsD b with
    | some ns, some ms => k (.bl (HT.lexLt ns ms))
    | _, _ => False
  | _, _, _ => False
theorem op_ltD {X : Cx} {Z : Wz} (hu : X.A.units < cLine) (hK : Z.K = X.K := by rfl) : OpD X Z (compareOp .Lt) ltD := by
  intro pins s σ H x y v u Q I rx ry h
  obtain ⟨Hf, d, e, k, sub, hx, hy, hr, kk⟩ := h
  unfold ltD at hr
  split at hr
  · cases vrp_int hx
    cases vrp_int hy
    exact op_lt pins s σ H _ _ v u Q I rx ry ⟨_, _, rfl, rfl, kk _ H Hf _ (Grow.refl sub) (rp_bl.mpr rfl) hr⟩
  · cases vrp_str hx
    cases vrp_str hy
    exact op_lt_str pins s σ H _ _ v u Q I rx ry ⟨_, _, rfl, rfl, kk _ H Hf _ (Grow.refl sub) (rp_bl.mpr rfl) hr⟩
  · split at hr
    · rename_i ns ms e1 e2
      obtain ⟨p, vs, rfl, h1, r1, _⟩ := vrp_tup sub hx
      obtain ⟨q, ws, rfl, h2, r2, _⟩ := vrp_tup sub hy
      rw [intsD_rp e1 r1] at h1
      rw [intsD_rp e2 r2] at h2
      exact op_ltT hu pins s σ H _ _ v u Q I rx ry ⟨p, q, ns, ms, rfl, rfl, SqT.of h1, SqT.of h2, kk _ H Hf _ (Grow.refl sub) (rp_bl.mpr rfl) hr⟩
    · exact hr.elim
  · exact hr.elim
@[simp] def geD : RD
  | .int i, .int j, k => k (.bl (decide (j ≤ i)))
  | .tup a, .tup b, k => match intsD a, intsD b with
    | some ns, some ms => k (.bl (!HT.lexLt ns ms))
    | _, _ => False
  | _, _, _ => False
theorem op_geD {X : Cx} {Z : Wz} (hu : X.A.units < cLine) (hK : Z.K = X.K := by rfl) : OpD X Z (compareOp .GtE) geD := by
  intro pins s σ H x y v u Q I rx ry h
  obtain ⟨Hf, d, e, k, sub, hx, hy, hr, kk⟩ := h
  unfold geD at hr
  split at hr
  · cases vrp_int hx
    cases vrp_int hy
    exact op_ge pins s σ H _ _ v u Q I rx ry ⟨_, _, rfl, rfl, kk _ H Hf _ (Grow.refl sub) (rp_bl.mpr rfl) hr⟩
  · split at hr
    · rename_i ns ms e1 e2
      obtain ⟨p, vs, rfl, h1, r1, _⟩ := vrp_tup sub hx
      obtain ⟨q, ws, rfl, h2, r2, _⟩ := vrp_tup sub hy
      rw [intsD_rp e1 r1] at h1
      rw [intsD_rp e2 r2] at h2
      refine op_geT hu pins s σ H _ _ v u Q I rx ry ⟨p, q, ns, ms, rfl, rfl, SqT.of h1, SqT.of h2, kk _ H Hf _ (Grow.refl sub) (rp_bl.mpr rfl) ?_⟩
      have e := geI_eq ns ms
      unfold geI at e
      rw [e]
      exact hr
    · exact hr.elim
  · exact hr.elim
@[simp] def leD : RD := intRD (fun _ _ => True) fun i j => .bl (decide (i ≤ j))
@[simp] def gtD : RD := intRD (fun _ _ => True) fun i j => .bl (decide (j < i))
theorem op_leD {X : Cx} {Z : Wz} : OpD X Z (compareOp .LtE) leD := op_intD (rI_of0 op_le) fun _ _ => rfl
theorem op_gtD {X : Cx} {Z : Wz} : OpD X Z (compareOp .Gt) gtD := op_intD (rI_of0 op_gt) fun _ _ => rfl
/-- a is None, a is not None -/
def isN : D → Bool
  | .non => true
  | _ => false
theorem vrp_isN {Z : Wz} {Hf H : Hp} {d : D} {x : V} (h : VRp Z Hf H d x) : decide (x = .non) = isN d := by
  cases d with
  | non => rw [vrp_non h]; rfl
  | bl b => rw [vrp_bl h]; rfl
  | int i => rw [vrp_int h]; rfl
  | str y => rw [vrp_str h]; rfl
  | tup ds =>
    rcases h with h | ⟨_, rfl, h⟩
    · obtain ⟨a, vs, rfl, _⟩ := rp_tup.mp h; rfl
    · exact h.elim
  | lst ds =>
    rcases h with h | ⟨_, rfl, h⟩
    · obtain ⟨a, vs, rfl, _⟩ := rp_lst.mp h; rfl
    · rfl
  | dic t ks ds =>
    rcases h with h | ⟨_, rfl, h⟩
    · cases t with
      | false => obtain ⟨a, o, kvs, rfl, _⟩ := rp_dicK.mp h; rfl
      | true => obtain ⟨a, o, kvs, rfl, _⟩ := rp_dicT.mp h; rfl
    · rfl
  | st =>
    rcases h with h | ⟨_, rfl, h⟩
    · rw [rp_st.mp h]; rfl
    · exact h.elim
  | scr ns =>
    rcases h with h | ⟨_, rfl, h⟩
    · obtain ⟨a, rfl, _⟩ := rp_scr.mp h; rfl
    · exact h.elim
  | exc n as =>
    rcases h with h | ⟨_, rfl, h⟩
    · obtain ⟨a, C, dx, vs, rfl, _⟩ := rp_exc.mp h; rfl
    · exact h.elim
  | fn k φ ψ =>
    rcases h with h | ⟨_, rfl, h⟩
    · obtain ⟨a, b, rfl, _⟩ := rp_fn.mp h; rfl
    · exact h.elim
  | gl n =>
    rcases h with h | ⟨_, rfl, h⟩
    · obtain ⟨a, rfl, _⟩ := rp_gl.mp h; rfl
    · exact h.elim
@[simp] def isD : RD
  | d, .non, k => k (.bl (isN d))
  | .bl a, .bl b, k => k (.bl (decide (a = b)))
  | _, _, _ => False
@[simp] def isNotD : RD
  | d, .non, k => k (.bl (!isN d))
  | .bl a, .bl b, k => k (.bl (!decide (a = b)))
  | _, _, _ => False
theorem op_isD {X : Cx} {Z : Wz} : OpD X Z (compareOp .Is) isD := by
  intro pins s σ H x y v u Q I rx ry h
  obtain ⟨Hf, d, e, k, sub, hx, hy, hr, kk⟩ := h
  unfold isD at hr
  split at hr
  · cases vrp_non hy
    refine op_isN pins s σ H _ _ v u Q I rx ry ⟨rfl, ?_⟩
    rw [vrp_isN hx]
    exact kk _ H Hf _ (Grow.refl sub) (rp_bl.mpr rfl) hr
  · cases vrp_bl hx
    cases vrp_bl hy
    exact op_is_bl pins s σ H _ _ v u Q I rx ry ⟨_, _, rfl, rfl, kk _ H Hf _ (Grow.refl sub) (rp_bl.mpr rfl) hr⟩
  · exact hr.elim
theorem op_isNotD {X : Cx} {Z : Wz} : OpD X Z (compareOp .IsNot) isNotD := by
  intro pins s σ H x y v u Q I rx ry h
  obtain ⟨Hf, d, e, k, sub, hx, hy, hr, kk⟩ := h
  unfold isNotD at hr
  split at hr
  · cases vrp_non hy
    refine op_notN pins s σ H _ _ v u Q I rx ry ⟨rfl, ?_⟩
    rw [vrp_isN hx]
    exact kk _ H Hf _ (Grow.refl sub) (rp_bl.mpr rfl) hr
  · cases vrp_bl hx
    cases vrp_bl hy
    exact op_isnot_bl pins s σ H _ _ v u Q I rx ry ⟨_, _, rfl, rfl, kk _ H Hf _ (Grow.refl sub) (rp_bl.mpr rfl) hr⟩
  · exact hr.elim
end DL
set_option Elab.async false
set_option linter.all false
set_option maxRecDepth 100000
set_option maxHeartbeats 4000000
/-! DL4: displays; what a slot alone holds, made, frozen and changed. -/
namespace DL
open PySem PySem.Spec PyProof.Rows L2

section
variable {Z : Wd} {H0 G0 : Hp} {σ : L2.St} {H Hf H' Hf' : Hp} {env : EnvD} {c : Nat}
theorem OwnRp.some {Z : Wz} {Hf H : Hp} {a : Addr} : ∀ {d : D}, OwnRp Z Hf H a d → ∃ o, H a = Option.some o
  | .lst _, ⟨_, h, _⟩ => ⟨_, h⟩
  | .dic false _ _, ⟨_, h, _⟩ => ⟨_, h⟩
  | .dic true _ _, ⟨_, h, _⟩ => ⟨_, h⟩
theorem OwnRp.at {Z : Wz} {Hf H H' : Hp} {a : Addr} (e : H' a = H a) : ∀ {d : D}, OwnRp Z Hf H a d → OwnRp Z Hf H' a d
  | .lst _, ⟨vs, h, r⟩ => ⟨vs, e.trans h, r⟩
  | .dic false _ _, ⟨kvs, h, r⟩ => ⟨kvs, e.trans h, r⟩
  | .dic true _ _, ⟨kvs, h, r⟩ => ⟨kvs, e.trans h, r⟩
/-- a place that is new -/
structure Fresh (Z : Wd) (H0 : Hp) (σ : L2.St) (Hf : Hp) (env : EnvD) (a : Addr) : Prop where
  h0 : H0 a = none
  hf : Hf a = none
  nt : ¬ Z.T a
  ns : ∀ (i : Nat) (e : D), env[i]? = some (Slot.own e) → σ[i]? ≠ some (some (.ref a))
theorem Sim.fresh (S : Sim Z H0 G0 σ H Hf env c) {a : Addr} (h : H a = none) : Fresh Z H0 σ Hf env a := by
  have nt : ¬ Z.T a := fun z => by
    obtain ⟨hs, z⟩ := z
    obtain ⟨_, _, _, _, a1, a2, a3, _⟩ := S.st hs
    rcases z with z | z | z
    · rw [z, a1] at h; cases h
    · rw [z, a2] at h; cases h
    · rw [z, a3] at h; cases h
  refine ⟨?_, S.sub.free h, nt, fun i e he hs => ?_⟩
  · cases q : H0 a with
    | none => rfl
    | some o =>
      rw [S.keep a o q (fun z => nt z.t)] at h
      cases h
  · obtain ⟨b, e1, _, _, _, o⟩ := S.own i e he
    rw [hs] at e1
    cases e1
    obtain ⟨u, eu⟩ := o.some
    rw [eu] at h
    cases h
/-- an untracked place of the standing part is filled -/
theorem Sim.freeze (S : Sim Z H0 G0 σ H Hf env c) {a : Addr} (f : Fresh Z H0 σ Hf env a) (o : HO) (nt : ∀ u, H a = some u → ¬ IsTab u) (no : ∀ ps, o ≠ .tbl ps) : Sim Z H0 G0 σ (upd H a o) (upd Hf a o) env c where
  sub := fun b u e => by
    by_cases hb : b = a
    · subst hb; rw [upd_same] at e ⊢; exact e
    · rw [upd_ne hb] at e ⊢; exact S.sub b u e
  g0 := S.g0.trans (same_upd f.hf)
  new := fun b h1 h2 => by
    by_cases hb : b = a
    · subst hb; exact .inl f.h0
    · rw [upd_ne hb] at h1; exact S.new b h1 h2
  keep := fun b u h n => by
    rw [upd_ne (ne_of_none h f.h0)]
    exact S.keep b u h n
  len := S.len
  val := fun i d h => let ⟨v, h1, h2⟩ := S.val i d h; ⟨v, h1, Rp.mono (same_upd f.hf) _ _ h2⟩
  own := fun i d h => by
    obtain ⟨b, h1, h2, h3, h4, h5⟩ := S.own i d h
    have nb : b ≠ a := fun z => f.ns i d h (by rw [h1, z])
    refine ⟨b, h1, by rw [upd_ne nb]; exact h2, h3, h4, ?_⟩
    have h6 : OwnRp Z.toWz Hf (upd H a o) b d := OwnRp.at (upd_ne nb) h5
    exact OwnRp.mono (Z := Z) (same_upd f.hf) KeepX.refl h4 h6
  inj := S.inj
  st := fun hs => (S.st hs).keep fun b hb u e => by
    rw [upd_ne (fun z => f.nt ⟨hs, by rw [← z]; exact hb⟩)]
    exact e
  stf := fun b s => by
    rw [upd_ne (fun z => f.nt (by rw [← z]; exact s.t))]
    exact S.stf b s
  tab := tabs_keep (fun b u e it => by rw [upd_ne (fun z => nt u (by rw [← z]; exact e) it)]; exact e) S.tab
  ntb := fun b ps e => by
    by_cases hb : b = a
    · subst hb; rw [upd_same] at e; cases e; exact absurd rfl (no ps)
    · rw [upd_ne hb] at e; exact S.ntb b ps e
/-- a new thing, outside the standing part -/
theorem Sim.laid (S : Sim Z H0 G0 σ H Hf env c) {a : Addr} (h : H a = none) (o : HO) : Sim Z H0 G0 σ (upd H a o) Hf env c where
  sub := S.sub.trans (same_upd h)
  g0 := S.g0
  new := S.new
  keep := fun b u e n => same_upd h b u (S.keep b u e n)
  len := S.len
  val := S.val
  own := fun i d e => by
    obtain ⟨b, h1, h2, h3, h4, h5⟩ := S.own i d e
    exact ⟨b, h1, h2, h3, h4, OwnRp.mono (Z := Z) (Same.refl _) (KeepX.of (same_upd h)) h4 h5⟩
  inj := S.inj
  st := fun hs => (S.st hs).keep fun b _ u e => same_upd h b u e
  stf := S.stf
  tab := S.tab.ext (same_upd h)
  ntb := S.ntb
/-- a fresh thing goes into a slot of its own -/
theorem Sim.setOwn (S : Sim Z H0 G0 σ H Hf env c) {a : Addr} {d : D} (f : Fresh Z H0 σ Hf env a) (r : OwnRp Z.toWz Hf H a d) (i : Nat) : Sim Z H0 G0 (σ.set i (some (.ref a))) H Hf (env.set i (.own d)) c where
  sub := S.sub
  g0 := S.g0
  new := S.new
  keep := S.keep
  len := by rw [List.length_set, List.length_set]; exact S.len
  val := fun j e h => by
    rw [List.getElem?_set] at h ⊢
    by_cases hj : i = j
    · rw [if_pos hj] at h
      split at h <;> cases h
    · rw [if_neg hj] at h ⊢
      exact S.val j e h
  own := fun j e h => by
    rw [List.getElem?_set] at h ⊢
    by_cases hj : i = j
    · rw [if_pos hj] at h ⊢
      have hl := S.len
      split at h
      · cases h
        rw [if_pos (by omega)]
        exact ⟨a, rfl, f.hf, f.h0, f.nt, r⟩
      · cases h
    · rw [if_neg hj] at h ⊢
      exact S.own j e h
  inj := fun j k e g b h1 h2 h3 h4 => by
    rw [List.getElem?_set] at h1 h2 h3 h4
    by_cases hj : i = j
    · by_cases hk : i = k
      · exact hj.symm.trans hk
      · rw [if_pos hj] at h3
        rw [if_neg hk] at h2 h4
        split at h3
        · cases h3
          exact absurd h4 (f.ns k g h2)
        · cases h3
    · by_cases hk : i = k
      · rw [if_neg hj] at h1 h3
        rw [if_pos hk] at h4
        split at h4
        · cases h4
          exact absurd h3 (f.ns j e h1)
        · cases h4
      · rw [if_neg hj] at h1 h3
        rw [if_neg hk] at h2 h4
        exact S.inj j k e g b h1 h2 h3 h4
  st := S.st
  stf := S.stf
  tab := S.tab
  ntb := S.ntb
/-- what a slot alone holds is changed -/
theorem Sim.change (S : Sim Z H0 G0 σ H Hf env c) {a : Addr} {d d' : D} {i : Nat} {o : HO} (hi : env[i]? = some (Slot.own d)) (hs : σ[i]? = some (some (.ref a))) (r : OwnRp Z.toWz Hf (upd H a o) a d') : Sim Z H0 G0 σ (upd H a o) Hf (env.set i (.own d')) c := by
  obtain ⟨a', e1, h2, h3, h4, h5⟩ := S.own i d hi
  rw [hs] at e1
  cases e1
  have hl : i < env.length := (List.getElem?_eq_some_iff.mp hi).1
  refine ⟨fun b u e => ?_, S.g0, S.new, fun b u e n => ?_, by rw [List.length_set]; exact S.len, fun j e h => ?_, fun j e h => ?_, fun j k e g b h1 h2 h3 h4 => ?_, fun hs => ?_, S.stf, tabs_keep (fun b u e it => ?_) S.tab, S.ntb⟩
  · rw [upd_ne (ne_of_none e h2)]; exact S.sub b u e
  · rw [upd_ne (ne_of_none e h3)]; exact S.keep b u e n
  · rw [List.getElem?_set] at h
    by_cases hj : i = j
    · rw [if_pos hj] at h
      split at h <;> cases h
    · rw [if_neg hj] at h
      exact S.val j e h
  · rw [List.getElem?_set] at h
    by_cases hj : i = j
    · subst hj
      rw [if_pos rfl, if_pos hl] at h
      cases h
      exact ⟨a, hs, h2, h3, h4, r⟩
    · rw [if_neg hj] at h
      obtain ⟨b, g1, g2, g3, g4, g5⟩ := S.own j e h
      have nb : b ≠ a := fun z => by
        subst z
        exact hj (S.inj i j d e b hi h hs g1)
      exact ⟨b, g1, g2, g3, g4, OwnRp.at (upd_ne nb) g5⟩
  · have own_of : ∀ (j : Nat) (e : D), (env.set i (Slot.own d'))[j]? = some (Slot.own e) → ∃ e', env[j]? = some (Slot.own e') := fun j e h => by
      rw [List.getElem?_set] at h
      by_cases hj : i = j
      · exact ⟨d, by rw [← hj]; exact hi⟩
      · rw [if_neg hj] at h
        exact ⟨e, h⟩
    obtain ⟨e', h1'⟩ := own_of j e h1
    obtain ⟨g', h2'⟩ := own_of k g h2
    exact S.inj j k e' g' b h1' h2' h3 h4
  · exact (S.st hs).keep fun b hb u e => by
      rw [upd_ne (fun z => h4 ⟨hs, by rw [← z]; exact hb⟩)]
      exact e
  · rw [upd_ne (fun z => OwnRp.ntab (by rw [← z]; exact e) h5 it)]
    exact e
/-- a slot's own thing stands from now on -/
theorem Sim.letGo (S : Sim Z H0 G0 σ H Hf env c) {a : Addr} {d : D} {i : Nat} (hi : env[i]? = some (Slot.own d)) (hs : σ[i]? = some (some (.ref a))) :
    Sim Z H0 G0 σ H Hf (env.set i .un) c ∧ Fresh Z H0 σ Hf (env.set i .un) a ∧ OwnRp Z.toWz Hf H a d := by
  obtain ⟨a', e1, h2, h3, h4, h5⟩ := S.own i d hi
  rw [hs] at e1
  cases e1
  refine ⟨S.drop i, ⟨h3, h2, h4, fun j e h z => ?_⟩, h5⟩
  rw [List.getElem?_set] at h
  by_cases hj : i = j
  · rw [if_pos hj] at h
    split at h <;> cases h
  · rw [if_neg hj] at h
    exact hj (S.inj i j d e a hi h hs z)
/-- the frozen form of a fresh thing -/
theorem own_rp {Z : Wz} {Hf H : Hp} {a : Addr} {d : D} {H' : Hp} (hf : Hf a = none) (r : OwnRp Z Hf H a d) (o : HO) (ho : (∃ vs, o = .lst vs ∧ H a = some (.lst vs)) ∨ (∃ od kvs, o = .frz od (.dK kvs) ∧ H a = some (.dK kvs)) ∨ ∃ od kvs, o = .frz od (.dT kvs) ∧ H a = some (.dT kvs)) : Rp Z (upd Hf a o) d (.ref a) := by
  have sm : Same Hf (upd Hf a o) := same_upd hf
  cases d with
  | lst ds =>
    obtain ⟨vs, h1, h2⟩ := r
    rcases ho with ⟨ws, rfl, e⟩ | ⟨od, kvs, rfl, e⟩ | ⟨od, kvs, rfl, e⟩
    · rw [h1] at e; cases e
      exact rp_lst.mpr ⟨a, vs, rfl, upd_same, RpL.mono sm _ _ h2⟩
    · rw [h1] at e; cases e
    · rw [h1] at e; cases e
  | dic t ks ds =>
    cases t with
    | false =>
      obtain ⟨kv, h1, h2, h3⟩ := r
      rcases ho with ⟨ws, rfl, e⟩ | ⟨od, kvs, rfl, e⟩ | ⟨od, kvs, rfl, e⟩
      · rw [h1] at e; cases e
      · rw [h1] at e; cases e
        exact rp_dicK.mpr ⟨a, od, kv, rfl, upd_same, h2, RpL.mono sm _ _ h3⟩
      · rw [h1] at e; cases e
    | true =>
      obtain ⟨kv, h1, h2, h3⟩ := r
      rcases ho with ⟨ws, rfl, e⟩ | ⟨od, kvs, rfl, e⟩ | ⟨od, kvs, rfl, e⟩
      · rw [h1] at e; cases e
      · rw [h1] at e; cases e
      · rw [h1] at e; cases e
        exact rp_dicT.mpr ⟨a, od, kv, rfl, upd_same, h2, RpL.mono sm _ _ h3⟩
  | _ => exact r.elim
end

theorem own_ntb {H : Hp} {a : Addr} {o : HO} (ho : (∃ vs, o = .lst vs ∧ H a = some (.lst vs)) ∨ (∃ od kvs, o = .frz od (.dK kvs) ∧ H a = some (.dK kvs)) ∨ ∃ od kvs, o = .frz od (.dT kvs) ∧ H a = some (.dT kvs)) : ∀ ps, o ≠ .tbl ps := fun ps z => by
  subst z
  rcases ho with ⟨ws, e, _⟩ | ⟨od, kvs, e, _⟩ | ⟨od, kvs, e, _⟩ <;> cases e
/-! ### fresh things -/
def liftO (F : Fd) (t : TED) : TE := fun σ H Q => ∃ (Hf : Hp) (env : EnvD) (c : Nat) (Wd : WD) (Qd : D → Nat → Prop), Sim F.Z F.H0 F.G0 σ H Hf env c ∧ XL F σ env Wd ∧ t env c Wd Qd ∧
  ∀ (a : Addr) (H' Hf' : Hp) (c' : Nat) (d : D), Sim F.Z F.H0 F.G0 σ H' Hf' env c' → Same Hf Hf' → Keep F.Z H H' → Fresh F.Z F.H0 σ Hf' env a → (∀ o, Keep F.Z H (upd H' a o)) → OwnRp F.Z.toWz Hf' H' a d → Qd d c' → Q (.ref a) H'
abbrev DO (X : Cx) (F : Fd) (e : Expr) (t : TED) : Prop := PE X e (liftO F t)
/-- a thing is locked as soon as it is made -/
def tFreeze (te : TE) : TE := fun σ H Q => te σ H fun v H' => ∃ (a : Addr) (u : HO), v = .ref a ∧ H' a = some u ∧ ((∃ vs, u = .lst vs ∧ Q v (upd H' a u)) ∨ ((∃ kvs, u = .dK kvs) ∨ ∃ kvs, u = .dT kvs) ∧ ∀ od, Q v (upd H' a (.frz od u)))
theorem upd_id {H : Hp} {a : Addr} {o : HO} (h : H a = some o) : upd H a o = H := by
  funext b
  by_cases e : b = a
  · subst e; rw [upd_same, h]
  · rw [upd_ne e]
theorem pe_freeze {X : Cx} {e : Expr} {te : TE} (h : PE X e te) : PE X e (tFreeze te) := ⟨fun pins s σ H Q I q => thn (h.run pins s σ H _ I q) fun u s1 ⟨v, H1, I1, r, a, o, e1, e2, k⟩ => by
  rcases k with ⟨vs, e3, k⟩ | ⟨m, k⟩
  · refine ⟨v, _, ?_, r, k⟩
    rw [upd_id e2]
    exact I1
  · obtain ⟨od, I2⟩ := I1.lock e2 (by rcases m with ⟨kvs, rfl⟩ | ⟨kvs, rfl⟩ <;> trivial)
    exact ⟨v, _, I2, r, k od⟩⟩
theorem DE.of {X : Cx} {F : Fd} {e : Expr} {t : TED} (h : DO X F e t) : DE X F e t := PE.imp (pe_freeze h) fun σ H Q ⟨Hf, env, c, Wd, Qd, S, x, ht, k⟩ =>
  ⟨Hf, env, c, Wd, _, S, x, ht, fun a H' Hf' c' d S' s1 k1 f hn r q => by
    have fin : ∀ o : HO, ((∃ vs, o = .lst vs ∧ H' a = some (.lst vs)) ∨ (∃ od kvs, o = .frz od (.dK kvs) ∧ H' a = some (.dK kvs)) ∨ ∃ od kvs, o = .frz od (.dT kvs) ∧ H' a = some (.dT kvs)) → Q (.ref a) (upd H' a o) := fun o ho =>
      k (.ref a) _ _ c' d (S'.freeze f o (fun u hu => OwnRp.ntab hu r) (own_ntb ho)) (s1.trans (same_upd f.hf)) (hn o) (own_rp (H' := H') f.hf r o ho) q
    cases d with
    | lst ds =>
      obtain ⟨vs, h1, _⟩ := id r
      exact ⟨a, _, rfl, h1, .inl ⟨vs, rfl, fin _ (.inl ⟨vs, rfl, h1⟩)⟩⟩
    | dic t ks ds =>
      cases t with
      | false =>
        obtain ⟨kvs, h1, _⟩ := id r
        exact ⟨a, _, rfl, h1, .inr ⟨.inl ⟨kvs, rfl⟩, fun od => fin _ (.inr (.inl ⟨od, kvs, rfl, h1⟩))⟩⟩
      | true =>
        obtain ⟨kvs, h1, _⟩ := id r
        exact ⟨a, _, rfl, h1, .inr ⟨.inr ⟨kvs, rfl⟩, fun od => fin _ (.inr (.inr ⟨od, kvs, rfl, h1⟩))⟩⟩
    | _ => exact r.elim⟩

/-! ### displays -/
section
variable {X : Cx} {F : Fd} {e : Expr} {es : List Expr} {pos : Pos} {t : TAD} {te : TED}
theorem le1000 {n : Nat} (h : n ≤ 1000) : n ≤ sizeLine := Nat.le_of_lt (small1000 h)
@[simp] def tTupD (t : TAD) : TED := fun env c W Q => t env c W fun ds c1 => ds.length ≤ 1000 ∧ Q (.tup ds) c1
theorem de_tup {k : Nat} (h : DA X F es t) : DE X F (.Tuple es k pos) (tTupD t) := PE.imp (pe_tup h) fun σ H Q ⟨Hf, env, c, Wd, Qd, S, x, ht, k⟩ =>
  ⟨Hf, env, c, Wd, _, S, x, ht, fun vs H' Hf' c' ds S' s1 k1 r ⟨hl, q⟩ => ⟨by rw [← r.length]; exact le1000 hl, fun p hp => by
    obtain ⟨g, rp⟩ := new_tup S'.sub hp r
    exact k _ _ _ c' _ (S'.grow g) (s1.trans g.hf) (k1.trans (Keep.of g.h)) rp q⟩⟩
@[simp] def tLstD (t : TAD) : TED := fun env c W Q => t env c W fun ds c1 => ds.length ≤ 1000 ∧ Q (.lst ds) c1
theorem do_lst (h : DA X F es t) : DO X F (.List es pos) (tLstD t) := PE.imp (pe_lst h) fun σ H Q ⟨Hf, env, c, Wd, Qd, S, x, ht, k⟩ =>
  ⟨Hf, env, c, Wd, _, S, x, ht, fun vs H' Hf' c' ds S' s1 k1 r ⟨hl, q⟩ => ⟨by rw [← r.length]; exact le1000 hl, fun p hp => by
    have f := S'.fresh hp
    exact k p _ _ c' (.lst ds) (S'.laid hp _) s1 (k1.trans (Keep.of (same_upd hp))) f (k1.upd hp (Keep.of (same_upd hp))) ⟨vs, upd_same, r⟩ q⟩⟩
theorem de_lst (h : DA X F es t) : DE X F (.List es pos) (tLstD t) := DE.of (do_lst h)
/-- {}, its keys will be ints and texts (K) or tuples of these (T) -/
theorem do_dictK : DO X F (.Dict [] [] pos) (tCD (.dic false [] [])) := PE.imp pe_dnewK fun σ H Q ⟨Hf, env, c, Wd, Qd, S, x, ht, k⟩ p hp => by
  have f := S.fresh hp
  exact k p _ Hf c (.dic false [] []) (S.laid hp _) (Same.refl _) (Keep.of (same_upd hp)) f (Keep.refl.upd hp (Keep.of (same_upd hp))) ⟨[], upd_same, rfl, RpL.nil⟩ ht
theorem do_dictT : DO X F (.Dict [] [] pos) (tCD (.dic true [] [])) := PE.imp pe_dnewT fun σ H Q ⟨Hf, env, c, Wd, Qd, S, x, ht, k⟩ p hp => by
  have f := S.fresh hp
  exact k p _ Hf c (.dic true [] []) (S.laid hp _) (Same.refl _) (Keep.of (same_upd hp)) f (Keep.refl.upd hp (Keep.of (same_upd hp))) ⟨[], upd_same, rfl, RpL.nil⟩ ht
theorem de_dictK : DE X F (.Dict [] [] pos) (tCD (.dic false [] [])) := DE.of do_dictK
theorem de_dictT : DE X F (.Dict [] [] pos) (tCD (.dic true [] [])) := DE.of do_dictT

/-! ### a slot of its own -/
@[simp] def tSetO (i : Nat) (t : TED) : TSD := fun D env c => t env c (fun d c1 => D.ex d env c1) fun d c1 => D.nx (env.set i (.own d)) c1
theorem ds_setO (i : Nat) {x : Str} {p : Pos} (hN : X.N.Nodup) (he : DO X F e te) (hi : X.N[i]? = some x := by rfl) (hx : Loc X.env.scope x := by first | exact Or.inl rfl | exact Or.inr rfl) (hs : swapsWith e (some (.Name x p)) pos.line X.env = pure false := by rfl)
    (hf : X.fn x = true ∨ X.env.scope.names.lookup x = some .local := by first | exact .inl rfl | exact .inr rfl) : DS X F (.Assign [.Name x p] e pos) (tSetO i te) :=
  PS.imp (ps_set hN hi hx he hs hf) fun D σ H ⟨Hf, env, c, Dd, S, L, h⟩ => ⟨Hf, env, c, _, _, S, L.xl σ env, h, fun a H' Hf' c' d S' s1 _ f _ r q => L.nx _ H' Hf' _ c' (S'.setOwn f r i) s1 q⟩
/-- xs.append(e), xs in a slot of its own -/
@[simp] def tAppD (i : Nat) (t : TED) : TSD := fun D env c => match env[i]? with
  | some (.own (.lst ds)) => t env c (fun d c1 => D.ex d env c1) fun d c1 => ds.length < sizeLine ∧ D.nx (env.set i (.own (.lst (ds ++ [d])))) c1
  | _ => False
theorem ds_append (i : Nat) {x : Str} {p apos cpos : Pos} (he : DE X F e te)
    (hbm : DE X F e te → PE X (.Call (.Attribute (.Name x p) "append" apos) [e] [] cpos) (tBM X.K "list" rAppend (tVar i) (tCons (liftE F te) tNil)))
    (hs : swapsWith (.Call (.Attribute (.Name x p) "append" apos) [e] [] cpos) none pos.line X.env = pure false := by rfl) :
    DS X F (.Expr (.Call (.Attribute (.Name x p) "append" apos) [e] [] cpos) pos) (tAppD i te) := PS.imp (ps_expr (hbm he) hs) fun D σ H ⟨Hf, env, c, Dd, S, L, h⟩ => by
  unfold tAppD at h
  split at h
  · rename_i ds0 e0
    obtain ⟨a, e1, h2, h3, h4, vs, e5, r5⟩ := S.own i _ e0
    refine ⟨.ref a, e1, .inl ⟨rfl, vs, SqL.of e5⟩, Hf, env, c, _, _, S, L.xl σ env, h, fun v H' Hf' c' d S' s1 k1 r q => ?_⟩
    obtain ⟨hl, q⟩ := q
    obtain ⟨a', g1, g2, g3, g4, ws, g5, q5⟩ := S'.own i _ e0
    rw [e1] at g1
    cases g1
    refine ⟨a, ws, v, rfl, rfl, g5, by rw [← q5.length]; exact hl, ?_⟩
    exact L.nx σ _ Hf' _ c' (S'.change (d' := .lst (ds0 ++ [d])) e0 e1 ⟨_, upd_same, q5.append (RpL.cons r RpL.nil)⟩) s1 q
  · exact h.elim
end
end DL
set_option Elab.async false
set_option linter.all false
set_option maxRecDepth 100000
set_option maxHeartbeats 4000000
/-! DL5: subscripts, slices, truth, in, built-ins. -/
namespace DL
open PySem PySem.Spec PyProof.Rows L2

/-! ### keys -/
@[simp] def keyD : D → Option Key
  | .int i => some (.inl i)
  | .str x => some (.inr x)
  | _ => none
@[simp] def keysD : List D → Option (List Key)
  | [] => some []
  | d :: r => match keyD d, keysD r with
    | some k, some ks => some (k :: ks)
    | _, _ => none
theorem keyD_kD (k : Key) : keyD (kD k) = some k := by cases k <;> rfl
theorem kD_of {d : D} {k : Key} (h : keyD d = some k) : d = kD k := by
  cases d <;> simp [keyD] at h <;> subst h <;> rfl
theorem keysD_kD : ∀ ks : List Key, keysD (ks.map kD) = some ks
  | [] => rfl
  | k :: r => by
    show keysD (kD k :: r.map kD) = _
    unfold keysD
    rw [keyD_kD, keysD_kD r]
theorem kDs_of : ∀ {ds : List D} {ks : List Key}, keysD ds = some ks → ds = ks.map kD
  | [], _, h => by cases h; rfl
  | d :: r, _, h => by
    unfold keysD at h
    cases e1 : keyD d with
    | none => rw [e1] at h; simp at h
    | some k =>
      cases e2 : keysD r with
      | none => rw [e1, e2] at h; simp at h
      | some ks =>
        rw [e1, e2] at h
        simp at h
        subst h
        rw [kD_of e1, kDs_of e2]
        rfl
theorem kD_inj {a b : Key} (h : kD a = kD b) : a = b := by
  have e := congrArg keyD h
  rw [keyD_kD, keyD_kD] at e
  exact Option.some.inj e
theorem kDs_inj {a b : List Key} (h : a.map kD = b.map kD) : a = b := by
  have e := congrArg keysD h
  rw [keysD_kD, keysD_kD] at e
  exact Option.some.inj e
theorem rp_kD {Z : Wz} {H : Hp} {k : Key} {v : V} (h : Rp Z H (kD k) v) : v = kV k := by
  cases k with
  | inl i => exact rp_int.mp h
  | inr x => exact rp_str.mp h
theorem rpL_kD {Z : Wz} {H : Hp} : ∀ {ks : List Key} {vs : List V}, RpL Z H (ks.map kD) vs → vs = ks.map kV
  | [], _, h => rpL_nil.mp h
  | k :: r, _, h => by
    obtain ⟨v, w, rfl, h1, h2⟩ := rpL_cons.mp h
    rw [rp_kD h1, rpL_kD h2]
    rfl
open Classical in
/-- a dict's entry -/
noncomputable def lookD : List D → List D → D → Option D
  | k :: ks, v :: vs, d => if k = d then some v else lookD ks vs d
  | _, _, _ => none
section
variable {Z : Wz} {Hf H : Hp}
theorem look_val {κ : Type} [DecidableEq κ] (f : κ → D) (hf : ∀ a b, f a = f b → a = b) (k : κ) : ∀ {kvs : List (κ × V)} {vs : List D}, RpL Z H vs (kvs.map (fun p => p.2)) →
    match lookD (kvs.map (fun p => f p.1)) vs (f k) with
    | some d => ∃ v, valV kvs k = some v ∧ Rp Z H d v
    | none => valV kvs k = none
  | [], vs, h => by
    simp [lookD, valV_nil]
  | (k0, v0) :: r, vs, h => by
    cases vs with
    | nil => have e := h.length; simp at e
    | cons d ds =>
      obtain ⟨v, w, e, h1, h2⟩ := rpL_cons.mp h
      cases e
      by_cases q : k0 = k
      · subst q
        simp only [List.map_cons, lookD, if_pos]
        exact ⟨v0, valV_pos rfl, h1⟩
      · have nq : ¬ f k0 = f k := fun z => q (hf _ _ z)
        simp only [List.map_cons, lookD, if_neg nq]
        rw [valV_neg (p := (k0, v0)) q]
        exact look_val f hf k h2
/-- a dict that is read: kept and locked, or a slot's own -/
theorem vrp_dicK {ks vs : List D} {x : V} (s : Same Hf H) (h : VRp Z Hf H (.dic false ks vs) x) : ∃ (a : Addr) (kvs : List (Key × V)), x = .ref a ∧ Rd H a (.dK kvs) ∧ ks = kvs.map (fun p => kD p.1) ∧ RpL Z Hf vs (kvs.map (fun p => p.2)) := by
  rcases h with h | ⟨a, e, kvs, h1, h2, h3⟩
  · obtain ⟨a, o, kvs, e, h1, h2, h3⟩ := rp_dicK.mp h
    exact ⟨a, kvs, e, .inr ⟨o, s _ _ h1⟩, h2, h3⟩
  · exact ⟨a, kvs, e, .inl h1, h2, h3⟩
theorem vrp_dicT {ks vs : List D} {x : V} (s : Same Hf H) (h : VRp Z Hf H (.dic true ks vs) x) : ∃ (a : Addr) (kvs : List (List Key × V)), x = .ref a ∧ Rd H a (.dT kvs) ∧ ks = kvs.map (fun p => D.tup (p.1.map kD)) ∧ RpL Z Hf vs (kvs.map (fun p => p.2)) := by
  rcases h with h | ⟨a, e, kvs, h1, h2, h3⟩
  · obtain ⟨a, o, kvs, e, h1, h2, h3⟩ := rp_dicT.mp h
    exact ⟨a, kvs, e, .inr ⟨o, s _ _ h1⟩, h2, h3⟩
  · exact ⟨a, kvs, e, .inl h1, h2, h3⟩
/-- does the key fit the dict's kind -/
def keyFits : Bool → D → Prop
  | false, d => ∃ k, keyD d = some k
  | true, .tup ds => ∃ ks, keysD ds = some ks
  | true, _ => False
theorem isD_of {t : Bool} {ks vs : List D} {x : V} (s : Same Hf H) (h : VRp Z Hf H (.dic t ks vs) x) : ∃ a, x = .ref a ∧ IsD H a := by
  cases t with
  | false => obtain ⟨a, kvs, e, h1, _⟩ := vrp_dicK s h; exact ⟨a, e, .inl ⟨kvs, h1⟩⟩
  | true => obtain ⟨a, kvs, e, h1, _⟩ := vrp_dicT s h; exact ⟨a, e, .inr ⟨kvs, h1⟩⟩
theorem look_get {t : Bool} {ks vs : List D} {x y : V} {d : D} (s : Same Hf H) (h : VRp Z Hf H (.dic t ks vs) x) (hk : keyFits t d) (hd : VRp Z Hf H d y) :
    ∃ (a : Addr), x = .ref a ∧ (match lookD ks vs d with
    | some e => ∃ v, DGet H a y (some v) ∧ Rp Z Hf e v
    | none => DGet H a y none) := by
  cases t with
  | false =>
    obtain ⟨a, kvs, e, h1, rfl, h3⟩ := vrp_dicK s h
    obtain ⟨k, hk⟩ := hk
    have ed := kD_of hk
    subst ed
    have ey : y = kV k := by
      rcases hd with hd | ⟨_, _, hd⟩
      · exact rp_kD hd
      · cases k <;> exact hd.elim
    subst ey
    refine ⟨a, e, ?_⟩
    have lv := look_val kD (fun a b => kD_inj) k h3
    have g : DGet H a (kV k) (valV kvs k) := .inl ⟨kvs, k, h1, rfl, rfl⟩
    split at lv
    · rename_i d' q
      obtain ⟨v, e1, e2⟩ := lv
      exact ⟨v, by rw [← e1]; exact g, e2⟩
    · rename_i q
      rw [lv] at g
      exact g
  | true =>
    obtain ⟨a, kvs, e, h1, rfl, h3⟩ := vrp_dicT s h
    cases d with
    | tup ds =>
      obtain ⟨k, hk⟩ := hk
      have ed := kDs_of hk
      subst ed
      obtain ⟨b, ws, ey, hb, rb, _⟩ := vrp_tup s hd
      subst ey
      rw [rpL_kD rb] at hb
      refine ⟨a, e, ?_⟩
      have lv := look_val (fun k : List Key => D.tup (k.map kD)) (fun a b z => kDs_inj (D.tup.inj z)) k h3
      have g : DGet H a (.ref b) (valV kvs k) := .inr ⟨kvs, k, b, h1, rfl, hb, rfl⟩
      split at lv
      · rename_i d' q
        obtain ⟨v, e1, e2⟩ := lv
        exact ⟨v, by rw [← e1]; exact g, e2⟩
      · rename_i q
        rw [lv] at g
        exact g
    | _ => exact hk.elim
end

/-! ### a[b] -/
theorem ix_dict {X : Cx} (hu : X.A.units + 1 < cLine) : IxR X (fun x y H Q => ∃ a v, x = .ref a ∧ DGet H a y (some v) ∧ Q v H) := by
  intro value slice pins s σ H x y v u Q I rx ry h hs
  obtain ⟨a, w, rfl, g, q⟩ := h
  cases rx
  exact tail_any (dict_typeIs I g) PySem.F.slot_dict_getitem.lookup (d_getItem hu I g ry fun w' s' I' r' => ⟨w, H, I', r', q⟩) hs
@[simp] def ixD : RD
  | .lst ds, .int i, k => match atI ds i with
    | some d => k d
    | none => False
  | .tup ds, .int i, k => match atI ds i with
    | some d => k d
    | none => False
  | .str x, .int i, k => x.length ≤ sizeLine ∧ match atI x.cps.toList i with
    | some c => k (.str ⟨#[c]⟩)
    | none => False
  | .dic t ks vs, d, k => keyFits t d ∧ match lookD ks vs d with
    | some e => k e
    | none => False
  | _, _, _ => False
theorem atI_rp {Z : Wz} {H : Hp} {ds : List D} {vs : List V} {i : Int} {d : D} (r : RpL Z H ds vs) (h : atI ds i = some d) : ∃ v, atI vs i = some v ∧ Rp Z H d v := by
  unfold atI at h ⊢
  rw [← r.length]
  cases e : ixN ds.length i with
  | none => rw [e] at h; simp at h
  | some j =>
    rw [e] at h
    obtain ⟨v, e1, e2⟩ := r.get (show ds[j]? = some d from h)
    exact ⟨v, e1, e2⟩
theorem ix_D {X : Cx} {Z : Wz} (hu : X.A.units + 1 < cLine) : IxR X (liftR Z ixD) := by
  intro value slice pins s σ H x y v u Q I rx ry h hs
  obtain ⟨Hf, d, e, k, sub, hx, hy, hr, kk⟩ := h
  unfold ixD at hr
  split at hr
  · cases vrp_int hy
    obtain ⟨p, vs, rfl, h1, r1⟩ := vrp_lst sub hx
    split at hr
    · rename_i w q
      obtain ⟨z, e1, e2⟩ := atI_rp r1 q
      exact ix_list value slice pins s σ H _ _ v u Q I rx ry ⟨p, vs, _, z, rfl, rfl, SqL.of h1, e1, kk z H Hf w (Grow.refl sub) e2 hr⟩ hs
    · exact hr.elim
  · cases vrp_int hy
    obtain ⟨p, vs, rfl, h1, r1, _⟩ := vrp_tup sub hx
    split at hr
    · rename_i w q
      obtain ⟨z, e1, e2⟩ := atI_rp r1 q
      exact ix_tup value slice pins s σ H _ _ v u Q I rx ry ⟨p, vs, _, z, rfl, rfl, SqT.of h1, e1, kk z H Hf w (Grow.refl sub) e2 hr⟩ hs
    · exact hr.elim
  · cases vrp_str hx
    cases vrp_int hy
    obtain ⟨hl, hr⟩ := hr
    split at hr
    · rename_i w q
      exact ix_str value slice pins s σ H _ _ v u Q I rx ry ⟨_, _, w, rfl, rfl, hl, q, kk _ H Hf _ (Grow.refl sub) (rp_str.mpr rfl) hr⟩ hs
    · exact hr.elim
  · obtain ⟨hf, hr⟩ := hr
    obtain ⟨a, e1, g⟩ := look_get sub hx hf hy
    split at hr
    · rename_i w q
      rw [q] at g
      obtain ⟨z, g, r⟩ := g
      exact ix_dict hu value slice pins s σ H _ _ v u Q I rx ry ⟨a, z, e1, g, kk z H Hf w (Grow.refl sub) r hr⟩ hs
    · exact hr.elim
  · exact hr.elim
section
variable {X : Cx} {F : Fd} {a b e : Expr} {pos : Pos} {ta tb te : TED}
theorem de_ix (hu : X.A.units + 1 < cLine) (ha : DB X F a ta) (hb : DB X F b tb) (hs : PlainIx b := by intro _ _; rfl) : DE X F (.Subscript a b pos) (tOpD ixD ta tb) :=
  PE.imp (pe_ix (ix_D hu) ha hb hs) fun σ H Q h => op_use h

/-! ### a[lo:hi] -/
def cutD (ds : List D) (lo hi : Option Int) : List D := (ds.drop (HT.sIx ds.length 0 lo)).take (HT.sIx ds.length ds.length hi - HT.sIx ds.length 0 lo)
abbrev TOD := EnvD → Nat → WD → (Option Int → Nat → Prop) → Prop
@[simp] def tNoPartD : TOD := fun _ c _ Q => Q none c
@[simp] def tPartD (t : TED) : TOD := fun env c W Q => t env c W fun d c1 => match d with
  | .int i => Q (some i) c1
  | _ => False
def liftPO (F : Fd) (t : TOD) : TO := fun σ H Q => ∃ (Hf : Hp) (env : EnvD) (c : Nat) (Wd : WD) (Qd : Option Int → Nat → Prop), Sim F.Z F.H0 F.G0 σ H Hf env c ∧ XL F σ env Wd ∧ t env c Wd Qd ∧
  ∀ (b : Option Int) (H' Hf' : Hp) (c' : Nat), Sim F.Z F.H0 F.G0 σ H' Hf' env c' → Same Hf Hf' → Keep F.Z H H' → Qd b c' → Q b H'
abbrev DPO (X : Cx) (F : Fd) (e : Option Expr) (t : TOD) : Prop := PO X e (liftPO F t)
theorem PO.imp {e : Option Expr} {t t' : TO} (h : PO X e t) (i : ∀ σ H Q, t' σ H Q → t σ H Q) : PO X e t' := ⟨fun pins s σ H Q I q => h.run pins s σ H Q I (i σ H Q q)⟩
theorem dpo_none : DPO X F none tNoPartD := PO.imp po_none fun σ H Q ⟨Hf, env, c, Wd, Qd, S, x, ht, k⟩ => k none H Hf c S (Same.refl _) Keep.refl ht
theorem dpo_some (h : DE X F e te) : DPO X F (some e) (tPartD te) := PO.imp (po_some h) fun σ H Q ⟨Hf, env, c, Wd, Qd, S, x, ht, k⟩ =>
  ⟨Hf, env, c, Wd, _, S, x, ht, fun v H1 Hf1 c1 d S1 s1 k1 r1 q1 => by
    cases d with
    | int i => exact ⟨i, rp_int.mp r1, k (some i) H1 Hf1 c1 S1 s1 k1 q1⟩
    | _ => exact q1.elim⟩
end
end DL
set_option Elab.async false
set_option linter.all false
set_option maxRecDepth 100000
set_option maxHeartbeats 4000000
/-! DL6: slices, truth, in, built-ins by name. -/
namespace DL
open PySem PySem.Spec PyProof.Rows L2

section
variable {Z : Wz} {Hf H : Hp}
theorem RpL.cut {ds : List D} {vs : List V} (r : RpL Z H ds vs) (lo hi : Option Int) : RpL Z H (cutD ds lo hi) (cutV vs lo hi) := by
  unfold cutD cutV
  rw [r.length]
  exact (r.drop _).take _
theorem cutD_whole {ds : List D} {lo hi : Option Int} (h : HT.sIx ds.length 0 lo = 0 ∧ HT.sIx ds.length ds.length hi = ds.length) : cutD ds lo hi = ds := by
  unfold cutD
  rw [h.1, h.2, List.drop_zero, Nat.sub_zero, List.take_length]
end
@[simp] def slD (d : D) (lo hi : Option Int) (k : D → Prop) : Prop := match d with
  | .lst ds => k (.lst (cutD ds lo hi))
  | .tup ds => k (.tup (cutD ds lo hi))
  | .str x => x.length ≤ sizeLine ∧ k (.str (cutS x lo hi))
  | _ => False
def liftSl (Z : Wz) (r : D → Option Int → Option Int → (D → Prop) → Prop) : V → Option Int → Option Int → Hp → VK → Prop := fun x lo hi H Q =>
  ∃ (Hf : Hp) (d : D) (k : D → Prop), Same Hf H ∧ VRp Z Hf H d x ∧ r d lo hi k ∧ ∀ (z : V) (H' Hf' : Hp) (g : D), Grow Hf H Hf' H' → Rp Z Hf' g z → k g → Q z H'
theorem sl_D {X : Cx} {Z : Wz} : SlR X (liftSl Z slD) := by
  intro pins s σ H x v vl vu lo hi sl Q I rx hs pl pu h
  obtain ⟨Hf, d, k, sub, hx, hr, kk⟩ := h
  cases d with
  | lst ds =>
    obtain ⟨p, vs, rfl, h1, r1⟩ := vrp_lst sub hx
    refine sl_list pins s σ H _ v vl vu lo hi sl Q I rx hs pl pu ⟨p, vs, rfl, SqL.of h1, fun n hn => ?_⟩
    obtain ⟨g, r⟩ := new_lst sub hn (r1.cut lo hi)
    exact kk _ _ _ _ g r hr
  | tup ds =>
    obtain ⟨p, vs, rfl, h1, r1, w1⟩ := vrp_tup sub hx
    refine sl_tupA pins s σ H _ v vl vu lo hi sl Q I rx hs pl pu ⟨p, vs, rfl, SqT.of h1, fun hw => ?_, fun _ n hn => ?_⟩
    · rw [← r1.length] at hw
      have e : slD (.tup ds) lo hi k = k (.tup (cutD ds lo hi)) := rfl
      rw [e, cutD_whole hw] at hr
      exact kk _ H Hf _ (Grow.refl sub) w1 hr
    · obtain ⟨g, r⟩ := new_tup sub hn (r1.cut lo hi)
      exact kk _ _ _ _ g r hr
  | str y =>
    cases vrp_str hx
    exact sl_str pins s σ H _ v vl vu lo hi sl Q I rx hs pl pu ⟨y, rfl, hr.1, kk _ H Hf _ (Grow.refl sub) (rp_str.mpr rfl) hr.2⟩
  | _ => exact hr.elim

section
variable {X : Cx} {F : Fd} {a b e : Expr} {es : List Expr} {pos : Pos} {ta tb te : TED}
@[simp] def tSlD (te : TED) (tl th : TOD) : TED := fun env c W Q => te env c W fun d c1 => tl env c1 W fun lo c2 => th env c2 W fun hi c3 => slD d lo hi fun g => Q g c3
theorem de_slice {lo hi : Option Expr} {tl th : TOD} {p2 : Pos} (he : DB X F e te) (hl : DPO X F lo tl) (hh : DPO X F hi th) : DE X F (.Subscript e (.Slice lo hi none p2) pos) (tSlD te tl th) :=
  PE.imp (pe_slice (sl_D (Z := F.Z.toWz)) he hl hh) fun σ H Q ⟨Hf, env, c, Wd, Qd, S, x, ht, k⟩ => by
    refine ⟨Hf, env, c, Wd, _, S, x, ht, fun v H1 Hf1 c1 d S1 s1 k1 r1 q1 => ?_⟩
    refine ⟨Hf1, env, c1, Wd, _, S1, x, q1, fun l H2 Hf2 c2 S2 s2 k2 q2 => ?_⟩
    refine ⟨Hf2, env, c2, Wd, _, S2, x, q2, fun h H3 Hf3 c3 S3 s3 k3 q3 => ?_⟩
    refine ⟨Hf3, d, _, S3.sub, (BRp.mono (s2.trans s3) r1).at S3, q3, fun z H' Hf' g gr rp q4 => ?_⟩
    exact k z H' Hf' c3 g (S3.grow gr) (((s1.trans s2).trans s3).trans gr.hf) (((k1.trans k2).trans k3).trans (Keep.of gr.h)) rp q4

/-! ### truth -/
@[simp] def truD (d : D) (k : Bool → Prop) : Prop := match d with
  | .non => k false
  | .bl b => k b
  | .int i => k (i != 0)
  | .str x => x.length ≤ sizeLine ∧ k ((x.length : Int) != 0)
  | .tup ds => k (!ds.isEmpty)
  | .lst ds => k (!ds.isEmpty)
  | _ => False
@[simp] def tTruD (t : TED) : TTD := fun env c W Q => t env c W fun d c1 => truD d fun b => Q b c1
theorem isEmpty_rp {Z : Wz} {H : Hp} {ds : List D} {vs : List V} (r : RpL Z H ds vs) : (!ds.isEmpty) = !vs.isEmpty := by
  cases ds with
  | nil => rw [rpL_nil.mp r]; rfl
  | cons d ds =>
    obtain ⟨v, w, rfl, _⟩ := rpL_cons.mp r
    rfl
theorem tru_vrp {K : PySem.W.Frag} {Z : Wz} {Hf H : Hp} {d : D} {x : V} {k : Bool → Prop} (s : Same Hf H) (h : VRp Z Hf H d x) (hr : truD d k) : ∃ b, TruV K x H b ∧ k b := by
  cases d with
  | non => cases vrp_non h; exact ⟨_, rfl, hr⟩
  | bl b => cases vrp_bl h; exact ⟨_, rfl, hr⟩
  | int i => cases vrp_int h; exact ⟨_, rfl, hr⟩
  | str y => cases vrp_str h; exact ⟨_, ⟨hr.1, rfl⟩, hr.2⟩
  | tup ds =>
    obtain ⟨p, vs, rfl, h1, r1, _⟩ := vrp_tup s h
    have hr' : k (!ds.isEmpty) := hr
    rw [isEmpty_rp r1] at hr'
    exact ⟨_, .inr (.inl ⟨vs, SqT.of h1, rfl⟩), hr'⟩
  | lst ds =>
    obtain ⟨p, vs, rfl, h1, r1⟩ := vrp_lst s h
    have hr' : k (!ds.isEmpty) := hr
    rw [isEmpty_rp r1] at hr'
    exact ⟨_, .inl ⟨vs, SqL.of h1, rfl⟩, hr'⟩
  | _ => exact hr.elim
theorem dt_tru (ha : DB X F a ta) (he : ∀ whole, isTrue a X.env whole = (do let v ← whole; standAt a.pos; holding [v] (truthy v)) := by intro _; rfl) : DT X F a (tTruD ta) :=
  PT.imp (pt_truth ha he) fun σ H Q ⟨Hf, env, c, Wd, Qd, S, x, ht, k⟩ => ⟨Hf, env, c, Wd, _, S, x, ht, fun v H1 Hf1 c1 d S1 s1 k1 r1 q1 => by
    obtain ⟨b, tv, q⟩ := tru_vrp (K := X.K) S1.sub (r1.at S1) q1
    exact ⟨b, tv, k b H1 Hf1 c1 S1 s1 k1 q⟩⟩

/-! ### in -/
def occS (x y : Str) : Bool := !(Builtin.Str.occurrences y x 0 y.length 1).isEmpty
@[simp] def inD : RD
  | d, .lst ds, k => shapedD d = true ∧ shapedD (.lst ds) = true ∧ k (.bl (ds.any fun z => eqvD z d))
  | .str x, .str y, k => k (.bl (occS x y))
  | d, .dic t ks vs, k => keyFits t d ∧ k (.bl (lookD ks vs d).isSome)
  | _, _, _ => False
@[simp] def notInD : RD := fun d e k => inD d e fun g => match g with
  | .bl b => k (.bl (!b))
  | _ => False
theorem toPyL_map : ∀ ds : List D, toPyL ds = ds.map toPy
  | [] => by rw [toPyL]; rfl
  | d :: ds => by rw [toPyL, toPyL_map ds]; rfl
theorem op_inDict (hu : X.A.units + 1 < cLine) : OpR X (compareOp .In) (fun x y H Q => ∃ a o, y = .ref a ∧ DGet H a x o ∧ Q (.bl o.isSome) H) := by
  intro pins s σ H x y v u Q I rx ry h
  obtain ⟨a, o, rfl, g, q⟩ := h
  cases ry
  exact d_in hu I g rx fun s' I' => ⟨.bl _, H, I', rfl, q⟩
theorem op_notInDict (hu : X.A.units + 1 < cLine) : OpR X (compareOp .NotIn) (fun x y H Q => ∃ a o, y = .ref a ∧ DGet H a x o ∧ Q (.bl (!o.isSome)) H) := by
  intro pins s σ H x y v u Q I rx ry h
  obtain ⟨a, o, rfl, g, q⟩ := h
  cases ry
  exact d_notIn hu I g rx fun s' I' => ⟨.bl _, H, I', rfl, q⟩
theorem op_inDD {Z : Wz} (hu : X.A.units + 65 < cLine) (hK : Z.K = X.K := by rfl) : OpD X Z (compareOp .In) inD := by
  intro pins s σ H x y v u Q I rx ry h
  obtain ⟨Hf, d, e, k, sub, hx, hy, hr, kk⟩ := h
  cases e with
  | lst ds =>
    obtain ⟨h1, h2, hr⟩ : shapedD d = true ∧ shapedD (.lst ds) = true ∧ k (.bl (ds.any fun z => eqvD z d)) := by cases d <;> exact hr
    have z1 := (Bool.and_eq_true_iff.mp h1)
    have z2 := (Bool.and_eq_true_iff.mp h2)
    have d1 := vrp_dp sub z1.1 hx
    have d2 := vrp_dp sub z2.1 hy
    rw [hK] at d1 d2
    rw [toPy] at d2
    have s2 := z2.2
    rw [toPy] at s2
    have ea : ((toPyL ds).any fun z => PyData.eqv z (toPy d)) = ds.any fun z => eqvD z d := by
      rw [toPyL_map, List.any_map]; rfl
    exact op_inD hu pins s σ H x y v u Q I rx ry ⟨_, _, d1, d2, z1.2, s2, by rw [ea]; exact kk _ H Hf _ (Grow.refl sub) (rp_bl.mpr rfl) hr⟩
  | str z =>
    cases d with
    | str w =>
      cases vrp_str hx
      cases vrp_str hy
      exact op_in_str pins s σ H _ _ v u Q I rx ry ⟨_, _, rfl, rfl, kk _ H Hf _ (Grow.refl sub) (rp_bl.mpr rfl) hr⟩
    | _ => exact hr.elim
  | dic t ks vs =>
    obtain ⟨hf, hr⟩ : keyFits t d ∧ k (.bl (lookD ks vs d).isSome) := by cases d <;> exact hr
    obtain ⟨a, e1, g⟩ := look_get sub hy hf hx
    cases q : lookD ks vs d with
    | some e =>
      rw [q] at g hr
      obtain ⟨w, g, _⟩ := g
      exact op_inDict (by omega) pins s σ H x y v u Q I rx ry ⟨a, _, e1, g, kk _ H Hf _ (Grow.refl sub) (rp_bl.mpr rfl) hr⟩
    | none =>
      rw [q] at g hr
      exact op_inDict (by omega) pins s σ H x y v u Q I rx ry ⟨a, _, e1, g, kk _ H Hf _ (Grow.refl sub) (rp_bl.mpr rfl) hr⟩
  | _ => cases d <;> exact hr.elim
theorem op_notInDD {Z : Wz} (hu : X.A.units + 65 < cLine) (hK : Z.K = X.K := by rfl) : OpD X Z (compareOp .NotIn) notInD := by
  intro pins s σ H x y v u Q I rx ry h
  obtain ⟨Hf, d, e, k, sub, hx, hy, hr, kk⟩ := h
  cases e with
  | lst ds =>
    obtain ⟨h1, h2, hr⟩ : shapedD d = true ∧ shapedD (.lst ds) = true ∧ k (.bl (!ds.any fun z => eqvD z d)) := by cases d <;> exact hr
    have z1 := (Bool.and_eq_true_iff.mp h1)
    have z2 := (Bool.and_eq_true_iff.mp h2)
    have d1 := vrp_dp sub z1.1 hx
    have d2 := vrp_dp sub z2.1 hy
    rw [hK] at d1 d2
    rw [toPy] at d2
    have s2 := z2.2
    rw [toPy] at s2
    have ea : ((toPyL ds).any fun z => PyData.eqv z (toPy d)) = ds.any fun z => eqvD z d := by
      rw [toPyL_map, List.any_map]; rfl
    exact op_notInD hu pins s σ H x y v u Q I rx ry ⟨_, _, d1, d2, z1.2, s2, by rw [ea]; exact kk _ H Hf _ (Grow.refl sub) (rp_bl.mpr rfl) hr⟩
  | str z =>
    cases d with
    | str w =>
      cases vrp_str hx
      cases vrp_str hy
      exact op_notIn_str pins s σ H _ _ v u Q I rx ry ⟨_, _, rfl, rfl, kk _ H Hf _ (Grow.refl sub) (rp_bl.mpr rfl) hr⟩
    | _ => exact hr.elim
  | dic t ks vs =>
    obtain ⟨hf, hr⟩ : keyFits t d ∧ k (.bl (!(lookD ks vs d).isSome)) := by cases d <;> exact hr
    obtain ⟨a, e1, g⟩ := look_get sub hy hf hx
    cases q : lookD ks vs d with
    | some e =>
      rw [q] at g hr
      obtain ⟨w, g, _⟩ := g
      exact op_notInDict (by omega) pins s σ H x y v u Q I rx ry ⟨a, _, e1, g, kk _ H Hf _ (Grow.refl sub) (rp_bl.mpr rfl) hr⟩
    | none =>
      rw [q] at g hr
      exact op_notInDict (by omega) pins s σ H x y v u Q I rx ry ⟨a, _, e1, g, kk _ H Hf _ (Grow.refl sub) (rp_bl.mpr rfl) hr⟩
  | _ => cases d <;> exact hr.elim

/-! ### built-ins by name -/
abbrev CD := List D → (D → Prop) → Prop
def liftC (Z : Wz) (r : CD) : List V → Hp → VK → Prop := fun vs H Q => ∃ (Hf : Hp) (ds : List D) (k : D → Prop), Same Hf H ∧ VRpL Z Hf H ds vs ∧ r ds k ∧ ∀ (z : V) (H' Hf' : Hp) (g : D), Grow Hf H Hf' H' → Rp Z Hf' g z → k g → Q z H'
abbrev CallD (X : Cx) (Z : Wz) (f : Value) (r : CD) : Prop := CallR X f (liftC Z r)
@[simp] def tCallD (r : CD) (t : TAD) : TED := fun env c W Q => t env c W fun ds c1 => r ds fun g => Q g c1
theorem callD_use {σ : L2.St} {H : Hp} {r : CD} {t : TAD} {Q : VK} (h : liftE F (tCallD r t) σ H Q) : tCB (liftC F.Z.toWz r) (liftAB F t) σ H Q := by
  obtain ⟨Hf, env, c, Wd, Qd, S, x, ht, k⟩ := h
  refine ⟨Hf, env, c, Wd, _, S, x, ht, fun vs H1 Hf1 c1 ds S1 s1 k1 r1 q1 => ?_⟩
  exact ⟨Hf1, ds, _, S1.sub, r1.at S1, q1, fun z H' Hf' g gr rp q2 => k z H' Hf' c1 g (S1.grow gr) (s1.trans gr.hf) (k1.trans (Keep.of gr.h)) rp q2⟩
theorem de_blt {id : String} {x : Str} {p : Pos} {r : CD} {t : TAD} (hc : CallD X F.Z.toWz (.builtin id) r) (hm : X.mg x = none) (hv : bootBuiltins x = some (.builtin id)) (ha : DAB X F (e :: es) t) (hg : Gl X x := by rfl) (hn : x ≠ "__name__" := by decide)
    (hdb : (x == ("__debug__" : Str)) = false := by decide) (he : starEach (e :: es) X.env = (false, eval e X.env) :: starEach es X.env := by rfl) (hpl : (backTo pos (starEach es X.env)).any (·.1) = false := by rfl) :
    DE X F (.Call (.Name x p) (e :: es) [] pos) (tCallD r t) := PE.imp (pe_callB hc hg hm hv ha hn hdb he hpl) fun σ H Q h => callD_use h
theorem de_ty {T : String} {x : Str} {p : Pos} {r : CD} {t : TAD} (hc : CallD X F.Z.toWz (.type T) r) (hm : X.mg x = none) (hv : bootBuiltins x = some (.type T)) (ha : DAB X F (e :: es) t) (hg : Gl X x := by rfl) (hn : x ≠ "__name__" := by decide)
    (hdb : (x == ("__debug__" : Str)) = false := by decide) (he : starEach (e :: es) X.env = (false, eval e X.env) :: starEach es X.env := by rfl) (hpl : (backTo pos (starEach es X.env)).any (·.1) = false := by rfl) :
    DE X F (.Call (.Name x p) (e :: es) [] pos) (tCallD r t) := PE.imp (pe_callTy hc hg hm hv ha hn hdb he hpl) fun σ H Q h => callD_use h
end
section
variable {Z : Wz} {Hf H : Hp} {x y : V} {xs : List V} {d d' : D}
theorem vrpL_1 (h : VRpL Z Hf H [d] xs) : ∃ x, xs = [x] ∧ VRp Z Hf H d x := by
  obtain ⟨v, r, rfl, h1, h2⟩ := h
  cases h2
  exact ⟨v, rfl, h1⟩
theorem vrpL_2 (h : VRpL Z Hf H [d, d'] xs) : ∃ x y, xs = [x, y] ∧ VRp Z Hf H d x ∧ VRp Z Hf H d' y := by
  obtain ⟨v, r, rfl, h1, h2⟩ := h
  obtain ⟨y, rfl, h3⟩ := vrpL_1 h2
  exact ⟨v, y, rfl, h1, h3⟩
end
@[simp] def lenD : CD
  | [.lst ds], k => k (.int (ds.length : Nat))
  | [.tup ds], k => k (.int (ds.length : Nat))
  | [.str x], k => x.length ≤ sizeLine ∧ k (.int (x.length : Nat))
  | [.scr ns], k => k (.int (ns.length : Nat))
  | [.dic _ ks _], k => k (.int (ks.length : Nat))
  | _, _ => False
theorem call_lenD {X : Cx} {Z : Wz} (hK : Z.K = X.K := by rfl) : CallD X Z (.builtin "len") lenD := by
  intro pins s σ H xs us Q I r h
  obtain ⟨Hf, ds, k, sub, hx, hr, kk⟩ := h
  unfold lenD at hr
  split at hr
  · obtain ⟨x, rfl, hw⟩ := vrpL_1 hx
    obtain ⟨p, vs, rfl, h1, r1⟩ := vrp_lst sub hw
    refine call_len_seq pins s σ H _ us Q I r ⟨p, vs, rfl, .inl (SqL.of h1), ?_⟩
    rw [← r1.length]
    exact kk _ H Hf _ (Grow.refl sub) (rp_int.mpr rfl) hr
  · obtain ⟨x, rfl, hw⟩ := vrpL_1 hx
    obtain ⟨p, vs, rfl, h1, r1, _⟩ := vrp_tup sub hw
    refine call_len_seq pins s σ H _ us Q I r ⟨p, vs, rfl, .inr (SqT.of h1), ?_⟩
    rw [← r1.length]
    exact kk _ H Hf _ (Grow.refl sub) (rp_int.mpr rfl) hr
  · obtain ⟨x, rfl, hw⟩ := vrpL_1 hx
    cases vrp_str hw
    exact call_len_str pins s σ H _ us Q I r ⟨_, rfl, hr.1, kk _ H Hf _ (Grow.refl sub) (rp_int.mpr rfl) hr.2⟩
  · obtain ⟨x, rfl, hw⟩ := vrpL_1 hx
    obtain ⟨p, rfl, h1⟩ := vrp_scr sub hw
    rw [hK] at h1
    refine call_len_seq pins s σ H _ us Q I r ⟨p, _, rfl, .inl h1, ?_⟩
    rw [List.length_map]
    exact kk _ H Hf _ (Grow.refl sub) (rp_int.mpr rfl) hr
  · obtain ⟨x, rfl, hw⟩ := vrpL_1 hx
    rename_i k2 t ks vs
    obtain ⟨u, rfl, rx⟩ := vals1 r
    cases t with
    | false =>
      obtain ⟨p, kvs, rfl, h1, rfl, h3⟩ := vrp_dicK sub hw
      cases rx
      refine d_len I h1 fun t s' I' => ⟨.int kvs.length, H, I', ⟨_, rfl⟩, ?_⟩
      rw [List.length_map] at hr
      exact kk _ H Hf _ (Grow.refl sub) (rp_int.mpr rfl) hr
    | true =>
      obtain ⟨p, kvs, rfl, h1, rfl, h3⟩ := vrp_dicT sub hw
      cases rx
      obtain ⟨z, hd, ys, rel, dd⟩ := dt_rd I.hok h1
      have hl : kvs.length = ys.length := Paired.length rel
      refine call_len_dictH hd dd (by rw [← hl]; rw [sizeLine_eq] at z; omega) ?_
      rw [← hl]
      rw [List.length_map] at hr
      exact ⟨.int ((kvs.length : Nat) : Int), H, I.tok _, ⟨_, rfl⟩, kk _ H Hf _ (Grow.refl sub) (rp_int.mpr rfl) hr⟩
  · exact hr.elim
@[simp] def absD : CD
  | [.int i], k => k (.int (if i < 0 then -i else i))
  | _, _ => False
theorem call_absD {X : Cx} {Z : Wz} : CallD X Z (.builtin "abs") absD := by
  intro pins s σ H xs us Q I r h
  obtain ⟨Hf, ds, k, sub, hx, hr, kk⟩ := h
  unfold absD at hr
  split at hr
  · obtain ⟨x, rfl, hw⟩ := vrpL_1 hx
    cases vrp_int hw
    exact call_abs pins s σ H _ us Q I r ⟨_, rfl, kk _ H Hf _ (Grow.refl sub) (rp_int.mpr rfl) hr⟩
  · exact hr.elim
@[simp] def int1D : CD
  | [.int i], k => k (.int i)
  | [.bl b], k => k (.int (if b then 1 else 0))
  | _, _ => False
theorem call_int1D {X : Cx} {Z : Wz} : CallD X Z (.type "int") int1D := by
  intro pins s σ H xs us Q I r h
  obtain ⟨Hf, ds, k, sub, hx, hr, kk⟩ := h
  unfold int1D at hr
  split at hr
  · obtain ⟨x, rfl, hw⟩ := vrpL_1 hx
    cases vrp_int hw
    exact call_int1 pins s σ H _ us Q I r (.inl ⟨_, rfl, kk _ H Hf _ (Grow.refl sub) (rp_int.mpr rfl) hr⟩)
  · obtain ⟨x, rfl, hw⟩ := vrpL_1 hx
    cases vrp_bl hw
    exact call_int1 pins s σ H _ us Q I r (.inr ⟨_, rfl, kk _ H Hf _ (Grow.refl sub) (rp_int.mpr rfl) hr⟩)
  · exact hr.elim
@[simp] def min2D : CD
  | [.int i, .int j], k => k (.int (if j < i then j else i))
  | _, _ => False
theorem call_min2D {X : Cx} {Z : Wz} (hc : X.calm = true) : CallD X Z (.builtin "min") min2D := by
  intro pins s σ H xs us Q I r h
  obtain ⟨Hf, ds, k, sub, hx, hr, kk⟩ := h
  unfold min2D at hr
  split at hr
  · obtain ⟨x, y, rfl, hw, hy⟩ := vrpL_2 hx
    cases vrp_int hw
    cases vrp_int hy
    exact call_min2 hc pins s σ H _ us Q I r ⟨_, _, rfl, kk _ H Hf _ (Grow.refl sub) (rp_int.mpr rfl) hr⟩
  · exact hr.elim
@[simp] def max2D : CD
  | [.int i, .int j], k => k (.int (if j > i then j else i))
  | _, _ => False
theorem call_max2D {X : Cx} {Z : Wz} (hc : X.calm = true) : CallD X Z (.builtin "max") max2D := by
  intro pins s σ H xs us Q I r h
  obtain ⟨Hf, ds, k, sub, hx, hr, kk⟩ := h
  unfold max2D at hr
  split at hr
  · obtain ⟨x, y, rfl, hw, hy⟩ := vrpL_2 hx
    cases vrp_int hw
    cases vrp_int hy
    exact call_max2 hc pins s σ H _ us Q I r ⟨_, _, rfl, kk _ H Hf _ (Grow.refl sub) (rp_int.mpr rfl) hr⟩
  · exact hr.elim
/-- a list of bools -/
@[simp] def blsD : List D → Option (List Bool)
  | [] => some []
  | .bl b :: r => (blsD r).map (b :: ·)
  | _ :: _ => none
theorem blsD_map : ∀ bs : List Bool, blsD (bs.map D.bl) = some bs
  | [] => rfl
  | b :: r => by
    show (blsD (r.map D.bl)).map (b :: ·) = _
    rw [blsD_map r]; rfl
theorem blsD_of : ∀ {ds : List D} {bs : List Bool}, blsD ds = some bs → ds = bs.map D.bl
  | [], _, h => by cases h; rfl
  | d :: r, bs, h => by
    cases d <;> simp [blsD] at h
    obtain ⟨cs, e, rfl⟩ := h
    rw [blsD_of e]; rfl
theorem rpL_bls {Z : Wz} {H : Hp} : ∀ {bs : List Bool} {vs : List V}, RpL Z H (bs.map D.bl) vs → vs = bs.map V.bl
  | [], _, h => rpL_nil.mp h
  | b :: r, _, h => by
    obtain ⟨v, w, rfl, h1, h2⟩ := rpL_cons.mp h
    rw [rp_bl.mp h1, rpL_bls h2]; rfl
@[simp] def allD : CD
  | [.lst ds], k => match blsD ds with
    | some bs => k (.bl (bs.all id))
    | none => False
  | _, _ => False
@[simp] def anyD : CD
  | [.lst ds], k => match blsD ds with
    | some bs => k (.bl (bs.any id))
    | none => False
  | _, _ => False
theorem call_allD {X : Cx} {Z : Wz} (hc : X.calm = true) : CallD X Z (.builtin "all") allD := by
  intro pins s σ H xs us Q I r h
  obtain ⟨Hf, ds, k, sub, hx, hr, kk⟩ := h
  unfold allD at hr
  split at hr
  · split at hr
    · rename_i bs e
      obtain ⟨x, rfl, hw⟩ := vrpL_1 hx
      obtain ⟨p, vs, rfl, h1, r1⟩ := vrp_lst sub hw
      rw [blsD_of e] at r1
      rw [rpL_bls r1] at h1
      exact cr_all hc pins s σ H _ us Q I r ⟨p, bs, rfl, SqL.of h1, kk _ H Hf _ (Grow.refl sub) (rp_bl.mpr rfl) hr⟩
    · exact hr.elim
  · exact hr.elim
theorem call_anyD {X : Cx} {Z : Wz} (hc : X.calm = true) : CallD X Z (.builtin "any") anyD := by
  intro pins s σ H xs us Q I r h
  obtain ⟨Hf, ds, k, sub, hx, hr, kk⟩ := h
  unfold anyD at hr
  split at hr
  · split at hr
    · rename_i bs e
      obtain ⟨x, rfl, hw⟩ := vrpL_1 hx
      obtain ⟨p, vs, rfl, h1, r1⟩ := vrp_lst sub hw
      rw [blsD_of e] at r1
      rw [rpL_bls r1] at h1
      exact cr_any hc pins s σ H _ us Q I r ⟨p, bs, rfl, SqL.of h1, kk _ H Hf _ (Grow.refl sub) (rp_bl.mpr rfl) hr⟩
    · exact hr.elim
  · exact hr.elim
@[simp] def tupleD : CD
  | [.lst ds], k => k (.tup ds)
  | [.tup ds], k => k (.tup ds)
  | _, _ => False
theorem call_tupleD {X : Cx} {Z : Wz} : CallD X Z (.type "tuple") tupleD := by
  intro pins s σ H xs us Q I r h
  obtain ⟨Hf, ds, k, sub, hx, hr, kk⟩ := h
  unfold tupleD at hr
  split at hr
  · obtain ⟨x, rfl, hw⟩ := vrpL_1 hx
    obtain ⟨p, vs, rfl, h1, r1⟩ := vrp_lst sub hw
    refine call_tuple_of pins s σ H _ us Q I r ⟨p, vs, rfl, .inl ⟨SqL.of h1, fun n hn => ?_⟩⟩
    obtain ⟨g, rr⟩ := new_tup sub hn r1
    exact kk _ _ _ _ g rr hr
  · obtain ⟨x, rfl, hw⟩ := vrpL_1 hx
    obtain ⟨p, vs, rfl, h1, r1, w1⟩ := vrp_tup sub hw
    exact call_tuple_of pins s σ H _ us Q I r ⟨p, vs, rfl, .inr ⟨SqT.of h1, kk _ H Hf _ (Grow.refl sub) w1 hr⟩⟩
  · exact hr.elim

/-! ### isinstance -/
inductive Ty | int | bool | tup | str | lst | dic
def Ty.n : Ty → String
  | .int => "int" | .bool => "bool" | .tup => "tuple" | .str => "str" | .lst => "list" | .dic => "dict"
/-- is a tree of this type -/
def isTy : Ty → D → Bool
  | .int, .int _ => true
  | .int, .bl _ => true
  | .bool, .bl _ => true
  | .tup, .tup _ => true
  | .str, .str _ => true
  | .lst, .lst _ => true
  | .dic, .dic _ _ _ => true
  | _, _ => false
def tyN : D → Option String
  | .non => some "NoneType"
  | .bl _ => some "bool"
  | .int _ => some "int"
  | .str _ => some "str"
  | .tup _ => some "tuple"
  | .lst _ => some "list"
  | .dic _ _ _ => some "dict"
  | _ => none
theorem kitB_all : ∀ T ∈ [Ty.int, Ty.bool, Ty.tup, Ty.str, Ty.lst, Ty.dic], ∀ n ∈ ["NoneType", "bool", "int", "str", "tuple", "list", "dict"], kitB n T.n = some (n == T.n || (T.n == "int" && n == "bool")) := by decide +kernel
theorem kitB_is {T : Ty} {d : D} {n : String} (h : tyN d = some n) : kitB n T.n = some (isTy T d) := by
  have hT : T ∈ [Ty.int, Ty.bool, Ty.tup, Ty.str, Ty.lst, Ty.dic] := by cases T <;> simp
  have hn : n ∈ ["NoneType", "bool", "int", "str", "tuple", "list", "dict"] := by cases d <;> simp [tyN] at h <;> subst h <;> simp
  rw [kitB_all T hT n hn]
  cases d <;> simp [tyN] at h <;> subst h <;> cases T <;> rfl
theorem kit_D {X : Cx} {pins : List (Addr × Obj)} {σ : L2.St} {s : Shared} {Z : Wz} {Hf H : Hp} {d : D} {x : V} {u : Value} {n : String} (I : Inv X pins σ H s) (sub : Same Hf H) (h : VRp Z Hf H d x) (rx : RelV x u) (hn : tyN d = some n) :
    ∃ P : Heap → Prop, PySem.W.KitX X.K u (.type n) P ∧ P s.heap ∧ u ≠ .builtin "__main__.__loader__#opaque" := by
  cases d with
  | non => cases hn; cases vrp_non h; exact kit_of I rx (.base .non)
  | bl b => cases hn; cases vrp_bl h; exact kit_of I rx (.base (.bl b))
  | int i => cases hn; cases vrp_int h; exact kit_of I rx (.base (.int i))
  | str y => cases hn; cases vrp_str h; exact kit_of I rx (.base (.str y))
  | tup ds => cases hn; obtain ⟨p, vs, rfl, h1, _⟩ := vrp_tup sub h; exact kit_of I rx (.base (.tup h1))
  | lst ds => cases hn; obtain ⟨p, vs, rfl, h1, _⟩ := vrp_lst sub h; exact kit_of I rx (.base (.lst h1))
  | dic t ks vs =>
    cases hn
    cases t with
    | false =>
      obtain ⟨p, kvs, rfl, h1, _⟩ := vrp_dicK sub h
      cases (show u = Value.ref p from rx)
      obtain ⟨_, _, vs, _, o, es, ep, e1, e2, _⟩ := dk_rd I.hok h1
      exact ⟨_, PySem.W.kitx_dict, ⟨o, e1, e2.1⟩, fun z => nomatch z⟩
    | true =>
      obtain ⟨p, kvs, rfl, h1, _⟩ := vrp_dicT sub h
      cases (show u = Value.ref p from rx)
      obtain ⟨_, _, xs, _, o, es, ep, e1, e2, _⟩ := dt_rd I.hok h1
      exact ⟨_, PySem.W.kitx_dict, ⟨o, e1, e2.1⟩, fun z => nomatch z⟩
  | _ => cases hn
def rIsD (Z : Wz) (T : Ty) : List V → Hp → VK → Prop := fun xs H Q => ∃ (Hf : Hp) (d : D) (x : V), xs = [x, .ty T.n] ∧ Same Hf H ∧ VRp Z Hf H d x ∧ (tyN d).isSome = true ∧ Q (.bl (isTy T d)) H
theorem call_isD {X : Cx} {Z : Wz} {T : Ty} : CallR X (.builtin "isinstance") (rIsD Z T) := by
  intro pins s σ H xs us Q I r h
  obtain ⟨Hf, d, x, rfl, sub, hx, ht, q⟩ := h
  obtain ⟨n, hn⟩ := Option.isSome_iff_exists.mp ht
  obtain ⟨u1, u2, rfl, r1, r2⟩ := vals2 r
  cases (show u2 = Value.type T.n from r2)
  obtain ⟨P, Zk, p, hx'⟩ := kit_D I sub hx r1 hn
  exact PySem.W.kia_one Zk I.kIn p (kit_ty (kitB_is hn)) hx' fun tk => ⟨.bl _, H, I.tok tk, rfl, q⟩
def rIsD2 (Z : Wz) (T U : Ty) : List V → Hp → VK → Prop := fun xs H Q => ∃ (Hf : Hp) (d : D) (x : V) (tp : Addr), xs = [x, .ref tp] ∧ H tp = some (.tup [.ty T.n, .ty U.n]) ∧ Same Hf H ∧ VRp Z Hf H d x ∧ (tyN d).isSome = true ∧ Q (.bl (isTy T d || isTy U d)) H
theorem call_isD2 {X : Cx} {Z : Wz} {T U : Ty} : CallR X (.builtin "isinstance") (rIsD2 Z T U) := by
  intro pins s σ H xs us Q I r h
  obtain ⟨Hf, d, x, tp, rfl, hT, sub, hx, ht, q⟩ := h
  obtain ⟨n, hn⟩ := Option.isSome_iff_exists.mp ht
  obtain ⟨u1, u2, rfl, r1, r2⟩ := vals2 r
  cases (show u2 = Value.ref tp from r2)
  obtain ⟨P, Zk, p, hx'⟩ := kit_D I sub hx r1 hn
  obtain ⟨_, its, rv, o, h1, h2, m, h3⟩ := (show ObjOk X.prog X.w H s.heap tp (.tup [.ty T.n, .ty U.n]) from I.hok tp _ hT)
  have e3 := ClsV.all (us := [.type T.n, .type U.n]) (.cons (.ty _) (.cons (.ty _) .nil)) rv
  subst e3
  obtain ⟨oc, od, dt, sl⟩ := o
  simp only at h2 h3
  subst h2 h3
  refine PySem.W.kia_tup Zk I.kIn p h1 (kitAny_cons (b := isTy T d) (r := isTy T d || isTy U d) (kit_ty (kitB_is hn)) (fun hb => ?_) fun hb => by rw [hb]; rfl) hx' fun tk => ⟨.bl _, H, I.tok tk, rfl, q⟩
  rw [hb]
  refine kitAny_cons (b := isTy U d) (kit_ty (kitB_is hn)) (fun hb2 => by rw [hb2]; exact kitAny_nil) fun hb2 => by rw [hb2]; rfl
section
variable {X : Cx} {F : Fd} {a : Expr} {pos p q p1 : Pos} {ta : TED} {x y y2 : Str}
@[simp] def tIsD (T : Ty) (t : TED) : TED := fun env c W Q => t env c W fun d c1 => (tyN d).isSome = true ∧ Q (.bl (isTy T d)) c1
theorem de_isi (T : Ty) (ha : DB X F a ta) (hm : X.mg "isinstance" = none) (hy : X.mg y = none) (hv : bootBuiltins y = some (.type T.n)) (hb : bootBuiltins "isinstance" = some (.builtin "isinstance")) (hg : Gl X "isinstance" := by rfl) (hgy : Gl X y := by rfl) (hny : y ≠ "__name__" := by decide)
    (hdy : (y == ("__debug__" : Str)) = false := by decide)
    (he : starEach (a :: [.Name y q]) X.env = (false, eval a X.env) :: starEach [.Name y q] X.env := by rfl) (he2 : starEach [.Name y q] X.env = (false, eval (.Name y q) X.env) :: starEach [] X.env := by rfl) (hpl : (backTo pos (starEach [.Name y q] X.env)).any (·.1) = false := by rfl) :
    DE X F (.Call (.Name "isinstance" p) [a, .Name y q] [] pos) (tIsD T ta) :=
  PE.imp (pe_callB (call_isD (Z := F.Z.toWz) (T := T)) hg hm hb (pa_cons ha (pa_cons (pe_bltn (v := .ty T.n) hgy hy hv rfl hny hdy) pa_nil he2) he) (by decide) (by decide) he hpl) fun σ H Q ⟨Hf, env, c, Wd, Qd, S, xx, ht, k⟩ =>
    ⟨Hf, env, c, Wd, _, S, xx, ht, fun v H1 Hf1 c1 d S1 s1 k1 r1 ⟨q1, q2⟩ => ⟨Hf1, d, v, rfl, S1.sub, r1.at S1, q1, k _ H1 Hf1 c1 _ S1 s1 k1 (rp_bl.mpr rfl) q2⟩⟩
end
end DL
set_option Elab.async false
set_option linter.all false
set_option maxRecDepth 100000
set_option maxHeartbeats 4000000
/-! DL7: what is walked; for, while, list comprehensions. -/
namespace DL
open PySem PySem.Spec PyProof.Rows L2

/-! ### targets: a name, a tuple of names -/
inductive Tg | one (i : Nat) | tup (is : List Nat)
def gNames : List Nat → TGs
  | [] => gNil
  | i :: r => gCons (gName i) (gNames r)
def Tg.g (K : PySem.W.Frag) : Tg → TG
  | .one i => gName i
  | .tup is => gTup K is.length (gNames is)
def setAll (σ : L2.St) : List Nat → List V → L2.St
  | i :: is, v :: vs => setAll (σ.set i (some v)) is vs
  | _, _ => σ
@[simp] def setAllD (env : EnvD) : List Nat → List D → EnvD
  | i :: is, d :: ds => setAllD (env.set i (.val d)) is ds
  | _, _ => env
@[simp] def Tg.set : Tg → D → EnvD → (EnvD → Prop) → Prop
  | .one i, d, env, k => k (env.set i (.val d))
  | .tup is, .tup ds, env, k => ds.length = is.length ∧ k (setAllD env is ds)
  | .tup _, _, _, _ => False
def Tg.slots : Tg → List Nat
  | .one i => [i]
  | .tup is => is
theorem gNames_use : ∀ {is : List Nat} {xs : List V} {σ : L2.St} {H : Hp} {Q : L2.St → Hp → Prop}, xs.length = is.length → Q (setAll σ is xs) H → gNames is xs σ H Q
  | [], xs, σ, H, Q, e, h => by
    have e' := List.length_eq_zero_iff.mp e
    subst e'
    exact ⟨rfl, h⟩
  | i :: is, xs, σ, H, Q, e, h => by
    cases xs with
    | nil => cases e
    | cons v vs => exact ⟨v, vs, rfl, gNames_use (by simpa using e) h⟩
theorem setAllD_ne {j : Nat} : ∀ {is : List Nat} {ds : List D} {env : EnvD}, j ∉ is → (setAllD env is ds)[j]? = env[j]?
  | [], ds, env, h => by cases ds <;> rfl
  | i :: is, [], env, h => rfl
  | i :: is, d :: ds, env, h => by
    show (setAllD (env.set i (.val d)) is ds)[j]? = _
    rw [setAllD_ne fun z => h (List.mem_cons_of_mem _ z)]
    exact List.getElem?_set_ne fun z => h (by rw [← z]; exact List.mem_cons_self)
theorem sim_setAll {Z : Wd} {H0 G0 H Hf : Hp} {c : Nat} : ∀ {is : List Nat} {ds : List D} {vs : List V} {σ : L2.St} {env : EnvD}, Sim Z H0 G0 σ H Hf env c → RpL Z.toWz Hf ds vs → Sim Z H0 G0 (setAll σ is vs) H Hf (setAllD env is ds) c
  | [], ds, vs, σ, env, S, r => by
    cases ds <;> cases vs <;> exact S
  | i :: is, [], vs, σ, env, S, r => by
    rw [rpL_nil.mp r]
    exact S
  | i :: is, d :: ds, vs, σ, env, S, r => by
    obtain ⟨v, w, rfl, h1, h2⟩ := rpL_cons.mp r
    have z := sim_setAll (is := is) (S.set h1 i) h2
    exact z
section
variable {Z : Wd} {H0 G0 : Hp} {σ : L2.St} {H Hf H' Hf' : Hp} {env : EnvD} {c : Nat}
theorem Tg.use {K : PySem.W.Frag} {tg : Tg} {d : D} {v : V} {k : EnvD → Prop} {Q : L2.St → Hp → Prop} (S : Sim Z H0 G0 σ H Hf env c) (r : Rp Z.toWz Hf d v) (h : tg.set d env k)
    (q : ∀ σ' env', Sim Z H0 G0 σ' H Hf env' c → (∃ us, σ' = DL.setAll σ tg.slots us) → (∀ j, j ∉ tg.slots → env'[j]? = env[j]?) → k env' → Q σ' H) : tg.g K v σ H Q := by
  cases tg with
  | one i => exact q _ _ (S.set r i) ⟨[v], rfl⟩ (fun j hj => List.getElem?_set_ne (fun z => hj (by rw [← z]; exact List.mem_singleton.mpr rfl))) h
  | tup is =>
    cases d with
    | tup ds =>
      obtain ⟨hl, h⟩ := h
      obtain ⟨a, vs, rfl, h1, h2⟩ := rp_tup.mp r
      refine ⟨a, vs, rfl, SqT.of (S.sub _ _ h1), by rw [← h2.length]; exact hl, gNames_use (by rw [← h2.length]; exact hl) ?_⟩
      exact q _ _ (sim_setAll S h2) ⟨vs, rfl⟩ (fun j hj => setAllD_ne hj) h
    | _ => exact h.elim
end
theorem setAll_wipe : ∀ {is : List Nat} {us : List V} {σ : L2.St} {ws : List Nat}, (∀ i ∈ is, i ∈ ws) → wipe (setAll σ is us) ws = wipe σ ws
  | [], us, σ, ws, h => by cases us <;> rfl
  | i :: is, [], σ, ws, h => rfl
  | i :: is, v :: us, σ, ws, h => by
    show wipe (setAll (σ.set i (some v)) is us) ws = wipe σ ws
    rw [setAll_wipe fun j hj => h j (List.mem_cons_of_mem _ hj)]
    have hi := h i List.mem_cons_self
    clear h
    induction ws with
    | nil => cases hi
    | cons w ws ih =>
      show (wipe (σ.set i (some v)) ws).set w none = (wipe σ ws).set w none
      by_cases e : i ∈ ws
      · rw [ih e]
      · have e' : i = w := by
          rcases List.mem_cons.mp hi with z | z
          · exact z
          · exact absurd z e
        subst e'
        have comm : ∀ (ws : List Nat), i ∉ ws → wipe (σ.set i (some v)) ws = (wipe σ ws).set i (some v) := by
          intro ws
          induction ws with
          | nil => intro _; rfl
          | cons w ws ih2 =>
            intro hn
            show (wipe (σ.set i (some v)) ws).set w none = ((wipe σ ws).set w none).set i (some v)
            rw [ih2 fun z => hn (List.mem_cons_of_mem _ z)]
            rw [List.set_comm]
            exact fun z => hn (by rw [z]; exact List.mem_cons_self)
        rw [comm ws e, List.set_set]

/-! ### walks -/
structure WalkD (Z : Wz) (J : It) (ds : List D) (Hf : Hp) : Prop where
  goes : ∀ i H Hf1, i < ds.length → Same Hf Hf1 → Same Hf1 H → J.go i H
  yields : ∀ i H x H' Hf1, i < ds.length → Same Hf Hf1 → Same Hf1 H → J.yld i H x H' → ∃ Hf2 d, Grow Hf1 H Hf2 H' ∧ ds[i]? = some d ∧ Rp Z Hf2 d x
  stops : ∀ H Hf1, Same Hf Hf1 → Same Hf1 H → J.stop ds.length H
abbrev TLD := EnvD → Nat → WD → (List D → Nat → Prop) → Prop
def liftI (F : Fd) (t : TLD) : TI := fun σ H R => ∃ (Hf : Hp) (env : EnvD) (c : Nat) (Wd : WD) (Qd : List D → Nat → Prop), Sim F.Z F.H0 F.G0 σ H Hf env c ∧ XL F σ env Wd ∧ t env c Wd Qd ∧
  ∀ (J : It) (H' Hf' : Hp) (c' : Nat) (ds : List D), Sim F.Z F.H0 F.G0 σ H' Hf' env c' → Same Hf Hf' → Keep F.Z H H' → WalkD F.Z.toWz J ds Hf' → Qd ds c' → R J H'
abbrev DI (X : Cx) (F : Fd) (tg e : Expr) (t : TLD) : Prop := PI X tg e (liftI F t)
theorem PI.imp {X : Cx} {tg e : Expr} {t t' : TI} (h : PI X tg e t) (i : ∀ σ H R, t' σ H R → t σ H R) : PI X tg e t' := ⟨fun pins s σ H R I q => h.run pins s σ H R I (i σ H R q)⟩

theorem walkD_lst {Z : Wz} {Hf : Hp} {a : Addr} {ds : List D} {vs : List V} (K : PySem.W.Frag) (h : Hf a = some (.lst vs)) (r : RpL Z Hf ds vs) : WalkD Z (Itl K a) ds Hf where
  goes := fun i H Hf1 hi s1 s2 => by
    rw [r.length] at hi
    exact ⟨vs, vs[i], SqL.of (s2 _ _ (s1 _ _ h)), by simp [hi]⟩
  yields := fun i H x H' Hf1 hi s1 s2 ⟨e, y⟩ => by
    subst e
    have z := y vs (SqL.of (s2 _ _ (s1 _ _ h)))
    obtain ⟨d, e1, e2⟩ := r.get' z
    exact ⟨Hf1, d, Grow.refl s2, e1, Rp.mono s1 _ _ e2⟩
  stops := fun H Hf1 s1 s2 => ⟨vs, SqL.of (s2 _ _ (s1 _ _ h)), by rw [r.length]; exact Nat.le_refl _⟩
theorem walkD_tup {Z : Wz} {Hf : Hp} {a : Addr} {ds : List D} {vs : List V} (K : PySem.W.Frag) (h : Hf a = some (.tup vs)) (r : RpL Z Hf ds vs) : WalkD Z (Itt K a) ds Hf where
  goes := fun i H Hf1 hi s1 s2 => by
    rw [r.length] at hi
    exact ⟨vs, vs[i], SqT.of (s2 _ _ (s1 _ _ h)), by simp [hi]⟩
  yields := fun i H x H' Hf1 hi s1 s2 ⟨e, y⟩ => by
    subst e
    have z := y vs (SqT.of (s2 _ _ (s1 _ _ h)))
    obtain ⟨d, e1, e2⟩ := r.get' z
    exact ⟨Hf1, d, Grow.refl s2, e1, Rp.mono s1 _ _ e2⟩
  stops := fun H Hf1 s1 s2 => ⟨vs, SqT.of (s2 _ _ (s1 _ _ h)), by rw [r.length]; exact Nat.le_refl _⟩
theorem walkD_scr {Z : Wz} {Hf : Hp} {a : Addr} {ns : List Int} {K : PySem.W.Frag} (h : SqL K Hf a (ns.map V.int)) : WalkD Z (Itl K a) (ns.map D.int) Hf where
  goes := fun i H Hf1 hi s1 s2 => by
    have hi' : i < (ns.map V.int).length := by simpa using hi
    exact ⟨ns.map V.int, (ns.map V.int)[i], (s1.trans s2).seq h, by simp [hi']⟩
  yields := fun i H x H' Hf1 hi s1 s2 ⟨e, y⟩ => by
    subst e
    have z := y _ ((s1.trans s2).seq h)
    rw [List.getElem?_map] at z
    cases e : ns[i]? with
    | none => rw [e] at z; cases z
    | some n =>
      rw [e] at z
      cases z
      exact ⟨Hf1, .int n, Grow.refl s2, by rw [List.getElem?_map, e]; rfl, rp_int.mpr rfl⟩
  stops := fun H Hf1 s1 s2 => ⟨_, (s1.trans s2).seq h, by simp⟩
theorem walkD_keysK {Z : Wz} {Hf : Hp} {a : Addr} {o : Obj} {kvs : List (Key × V)} (h : Hf a = some (.frz o (.dK kvs))) : WalkD Z (Itk a o kvs) (kvs.map fun p => kD p.1) Hf := by
  have w := walk_keys (d := a) (o := o) (kvs := kvs)
  refine ⟨fun i H Hf1 hi s1 s2 => w.goes i H (by simpa using hi) (s2 _ _ (s1 _ _ h)), fun i H x H' Hf1 hi s1 s2 y => ?_, fun H Hf1 s1 s2 => ?_⟩
  · obtain ⟨e, k, v, e1, e2⟩ := w.yields i H x H' (by simpa using hi) (s2 _ _ (s1 _ _ h)) y
    subst e e2
    refine ⟨Hf1, kD k, Grow.refl s2, by rw [List.getElem?_map, e1]; rfl, ?_⟩
    cases k with
    | inl i => exact rp_int.mpr rfl
    | inr x => exact rp_str.mpr rfl
  · rw [List.length_map]
    exact w.stops H (s2 _ _ (s1 _ _ h))
end DL
set_option Elab.async false
set_option linter.all false
set_option maxRecDepth 100000
set_option maxHeartbeats 200000
/-! DL8: iterables, for, while. -/
namespace DL
open PySem PySem.Spec PyProof.Rows L2

theorem kD_rp {Z : Wz} {H : Hp} : ∀ {k : Key}, Rp Z H (kD k) (kV k)
  | .inl _ => rp_int.mpr rfl
  | .inr _ => rp_str.mpr rfl
theorem kDs_rp {Z : Wz} {H : Hp} : ∀ {ks : List Key}, RpL Z H (ks.map kD) (ks.map kV)
  | [] => RpL.nil
  | k :: r => RpL.cons kD_rp kDs_rp
/-- a tuple that stood is taken into the standing part -/
theorem Grow.take {Hf H : Hp} {q : Addr} {xs : List V} (s : Same Hf H) (h : H q = some (.tup xs)) : Grow Hf H (upd Hf q (.tup xs)) H where
  hf := fun b o e => by
    by_cases hb : b = q
    · subst hb; rw [upd_same]; have z := s _ _ e; rw [h] at z; exact z
    · rw [upd_ne hb]; exact e
  h := Same.refl _
  sub := fun b o e => by
    by_cases hb : b = q
    · subst hb; rw [upd_same] at e; cases e; exact h
    · rw [upd_ne hb] at e; exact s _ _ e
  new := fun b h1 h2 => by
    by_cases hb : b = q
    · subst hb; exact .inr ⟨xs, h⟩
    · rw [upd_ne hb] at h1; exact absurd h2 h1
  ntb := fun b ps e => by
    by_cases hb : b = q
    · subst hb; rw [upd_same] at e; cases e
    · rw [upd_ne hb] at e; exact e
theorem walkD_keysT {Z : Wz} {Hf : Hp} {a : Addr} {o : Obj} {kvs : List (List Key × V)} (h : Hf a = some (.frz o (.dT kvs))) : WalkD Z (Itkt a o kvs) (kvs.map fun p => D.tup (p.1.map kD)) Hf := by
  have w := walk_keysT (d := a) (o := o) (kvs := kvs)
  refine ⟨fun i H Hf1 hi s1 s2 => w.goes i H (by simpa using hi) (s2 _ _ (s1 _ _ h)), fun i H x H' Hf1 hi s1 s2 y => ?_, fun H Hf1 s1 s2 => ?_⟩
  · obtain ⟨e, k, v, q, e1, e2, e3⟩ := w.yields i H x H' (by simpa using hi) (s2 _ _ (s1 _ _ h)) y
    subst e e2
    exact ⟨_, .tup (k.map kD), Grow.take s2 e3, by rw [List.getElem?_map, e1]; rfl, rp_tup.mpr ⟨q, _, rfl, upd_same, kDs_rp⟩⟩
  · rw [List.length_map]
    exact w.stops H (s2 _ _ (s1 _ _ h))
theorem walkD_vals {Z : Wz} {Hf : Hp} {a : Addr} {o : Obj} {kvs : List (Key × V)} {ds : List D} (h : Hf a = some (.frz o (.dK kvs))) (r : RpL Z Hf ds (kvs.map (fun p => p.2))) : WalkD Z (Itd a o kvs) ds Hf := by
  have w := walk_values (d := a) (o := o) (kvs := kvs)
  have hl : ds.length = kvs.length := by rw [r.length, List.length_map]
  refine ⟨fun i H Hf1 hi s1 s2 => w.goes i H (by omega) (s2 _ _ (s1 _ _ h)), fun i H x H' Hf1 hi s1 s2 y => ?_, fun H Hf1 s1 s2 => ?_⟩
  · obtain ⟨e, k, e1⟩ := w.yields i H x H' (by omega) (s2 _ _ (s1 _ _ h)) y
    subst e
    obtain ⟨d, e2, e3⟩ := r.get' (i := i) (v := x) (by rw [List.getElem?_map, e1]; rfl)
    exact ⟨Hf1, d, Grow.refl s2, e2, Rp.mono s1 _ _ e3⟩
  · rw [hl]
    exact w.stops H (s2 _ _ (s1 _ _ h))
theorem pair_new {Z : Wz} {Hf H : Hp} {T : Addr} {x y : V} {d e : D} (s : Same Hf H) (hT : H T = none) (r1 : Rp Z Hf d x) (r2 : Rp Z Hf e y) :
    Grow Hf H (upd Hf T (.tup [x, y])) (upd H T (.tup [x, y])) ∧ Rp Z (upd Hf T (.tup [x, y])) (.tup [d, e]) (.ref T) := new_tup s hT (RpL.cons r1 (RpL.cons r2 RpL.nil))
@[simp] def pairD (a b : D) : D := .tup [a, b]
theorem zip_get {as bs : List D} {i : Nat} {x y : D} (h1 : as[i]? = some x) (h2 : bs[i]? = some y) : (List.zipWith pairD as bs)[i]? = some (.tup [x, y]) := by
  rw [List.getElem?_zipWith, h1, h2]; rfl
theorem walkD_items {Z : Wz} {Hf : Hp} {a : Addr} {o : Obj} {kvs : List (Key × V)} {ds : List D} (h : Hf a = some (.frz o (.dK kvs))) (r : RpL Z Hf ds (kvs.map (fun p => p.2))) : WalkD Z (Iti a o kvs) (List.zipWith pairD (kvs.map fun p => kD p.1) ds) Hf := by
  have w := walk_items (d := a) (o := o) (kvs := kvs)
  have hl : ds.length = kvs.length := by rw [r.length, List.length_map]
  have hz : (List.zipWith pairD (kvs.map fun p => kD p.1) ds).length = kvs.length := by rw [List.length_zipWith, List.length_map, hl, Nat.min_self]
  refine ⟨fun i H Hf1 hi s1 s2 => w.goes i H (by omega) (s2 _ _ (s1 _ _ h)), fun i H x H' Hf1 hi s1 s2 y => ?_, fun H Hf1 s1 s2 => ?_⟩
  · obtain ⟨T, x, y2, e1, e2, e3, e4, e5⟩ := w.yields i H x H' (by omega) (s2 _ _ (s1 _ _ h)) y
    subst e1 e3
    replace e4 : kvs[i]?.map (fun kv => kV kv.1) = some x := e4
    replace e5 : kvs[i]?.map Prod.snd = some y2 := e5
    cases q : kvs[i]? with
    | none => rw [q] at e4; cases e4
    | some kv =>
      rw [q] at e4 e5
      cases e4
      cases e5
      obtain ⟨d, g1, g2⟩ := r.get' (i := i) (v := kv.2) (by rw [List.getElem?_map, q]; rfl)
      obtain ⟨gr, rp⟩ := pair_new (Z := Z) s2 e2 (kD_rp (k := kv.1)) (Rp.mono s1 _ _ g2)
      exact ⟨_, _, gr, zip_get (by rw [List.getElem?_map, q]; rfl) g1, rp⟩
  · rw [hz]
    exact w.stops H (s2 _ _ (s1 _ _ h))
def enumD : Nat → List D → List D
  | _, [] => []
  | n, d :: r => .tup [.int n, d] :: enumD (n + 1) r
theorem enumD_get : ∀ {n i : Nat} {ds : List D} {d : D}, ds[i]? = some d → (enumD n ds)[i]? = some (.tup [.int (n + i : Nat), d])
  | n, 0, d :: r, _, h => by simp at h; subst h; rfl
  | n, i + 1, d :: r, _, h => by
    have z := enumD_get (n := n + 1) (i := i) (ds := r) (by simpa using h)
    rw [show n + 1 + i = n + (i + 1) by omega] at z
    simpa [enumD] using z
theorem enumD_length : ∀ {n : Nat} {ds : List D}, (enumD n ds).length = ds.length
  | _, [] => rfl
  | n, d :: r => by simp [enumD, enumD_length]
theorem walkD_enum {Z : Wz} {Hf : Hp} {a : Addr} {ds : List D} {vs : List V} (K : PySem.W.Frag) (h : Hf a = some (.lst vs)) (r : RpL Z Hf ds vs) : WalkD Z (Ite K a) (enumD 0 ds) Hf where
  goes := fun i H Hf1 hi s1 s2 => by
    rw [enumD_length, r.length] at hi
    exact ⟨vs, vs[i], SqL.of (s2 _ _ (s1 _ _ h)), by simp [hi]⟩
  yields := fun i H x H' Hf1 hi s1 s2 ⟨T, y, e1, e2, e3, e4⟩ => by
    subst e1 e3
    obtain ⟨d, g1, g2⟩ := r.get' (e4 vs (SqL.of (s2 _ _ (s1 _ _ h))))
    obtain ⟨gr, rp⟩ := pair_new (Z := Z) (d := .int i) s2 e2 (rp_int.mpr rfl) (Rp.mono s1 _ _ g2)
    exact ⟨_, _, gr, by have z := enumD_get (n := 0) g1; rw [Nat.zero_add] at z; exact z, rp⟩
  stops := fun H Hf1 s1 s2 => ⟨vs, SqL.of (s2 _ _ (s1 _ _ h)), by rw [enumD_length, r.length]; exact Nat.le_refl _⟩
theorem walkD_zip {Z : Wz} {Hf : Hp} {a b : Addr} {ds es : List D} {vs ws : List V} (K : PySem.W.Frag) (h : Hf a = some (.lst vs)) (r : RpL Z Hf ds vs) (h' : Hf b = some (.lst ws)) (r' : RpL Z Hf es ws) : WalkD Z (Itz K a b) (List.zipWith pairD ds es) Hf where
  goes := fun i H Hf1 hi s1 s2 => by
    rw [List.length_zipWith, r.length, r'.length] at hi
    have h1 : i < vs.length := by omega
    have h2 : i < ws.length := by omega
    exact ⟨vs, ws, vs[i], ws[i], SqL.of (s2 _ _ (s1 _ _ h)), SqL.of (s2 _ _ (s1 _ _ h')), by simp [h1], by simp [h2]⟩
  yields := fun i H x H' Hf1 hi s1 s2 ⟨T, y, z, e1, e2, e3, e4, e5⟩ => by
    subst e1 e3
    obtain ⟨d, g1, g2⟩ := r.get' (e4 vs (SqL.of (s2 _ _ (s1 _ _ h))))
    obtain ⟨e, g3, g4⟩ := r'.get' (e5 ws (SqL.of (s2 _ _ (s1 _ _ h'))))
    obtain ⟨gr, rp⟩ := pair_new (Z := Z) s2 e2 (Rp.mono s1 _ _ g2) (Rp.mono s1 _ _ g4)
    exact ⟨_, _, gr, zip_get g1 g3, rp⟩
  stops := fun H Hf1 s1 s2 => ⟨vs, ws, SqL.of (s2 _ _ (s1 _ _ h)), SqL.of (s2 _ _ (s1 _ _ h')), by rw [List.length_zipWith, r.length, r'.length]; omega⟩
theorem walkD_zipT {Z : Wz} {Hf : Hp} {a b : Addr} {ds es : List D} {vs ws : List V} (K : PySem.W.Frag) (h : Hf a = some (.tup vs)) (r : RpL Z Hf ds vs) (h' : Hf b = some (.tup ws)) (r' : RpL Z Hf es ws) : WalkD Z (RZ.ItzT K a b) (List.zipWith pairD ds es) Hf where
  goes := fun i H Hf1 hi s1 s2 => by
    rw [List.length_zipWith, r.length, r'.length] at hi
    have h1 : i < vs.length := by omega
    have h2 : i < ws.length := by omega
    exact ⟨vs, ws, vs[i], ws[i], SqT.of (s2 _ _ (s1 _ _ h)), SqT.of (s2 _ _ (s1 _ _ h')), by simp [h1], by simp [h2]⟩
  yields := fun i H x H' Hf1 hi s1 s2 ⟨T, y, z, e1, e2, e3, e4, e5⟩ => by
    subst e1 e3
    obtain ⟨d, g1, g2⟩ := r.get' (e4 vs (SqT.of (s2 _ _ (s1 _ _ h))))
    obtain ⟨e, g3, g4⟩ := r'.get' (e5 ws (SqT.of (s2 _ _ (s1 _ _ h'))))
    obtain ⟨gr, rp⟩ := pair_new (Z := Z) s2 e2 (Rp.mono s1 _ _ g2) (Rp.mono s1 _ _ g4)
    exact ⟨_, _, gr, zip_get g1 g3, rp⟩
  stops := fun H Hf1 s1 s2 => ⟨vs, ws, SqT.of (s2 _ _ (s1 _ _ h)), SqT.of (s2 _ _ (s1 _ _ h')), by rw [List.length_zipWith, r.length, r'.length]; omega⟩
theorem rev_get {α : Type} {xs : List α} {i : Nat} (h : i < xs.length) : xs.reverse[i]? = xs[xs.length - 1 - i]? := List.getElem?_reverse h
theorem walkD_rev {Z : Wz} {Hf : Hp} {a : Addr} {ds : List D} {vs : List V} (K : PySem.W.Frag) (h : Hf a = some (.lst vs)) (r : RpL Z Hf ds vs) : WalkD Z (Itv K a vs.length) ds.reverse Hf where
  goes := fun i H Hf1 hi s1 s2 => by
    rw [List.length_reverse, r.length] at hi
    exact ⟨hi, vs, vs[vs.length - 1 - i]'(by omega), SqL.of (s2 _ _ (s1 _ _ h)), by simp [show vs.length - 1 - i < vs.length by omega]⟩
  yields := fun i H x H' Hf1 hi s1 s2 ⟨e, y⟩ => by
    subst e
    rw [List.length_reverse] at hi
    have z := y vs (SqL.of (s2 _ _ (s1 _ _ h)))
    rw [← r.length] at z
    obtain ⟨d, e1, e2⟩ := r.get' z
    exact ⟨Hf1, d, Grow.refl s2, by rw [rev_get hi]; exact e1, Rp.mono s1 _ _ e2⟩
  stops := fun H Hf1 s1 s2 => by rw [List.length_reverse, r.length]; exact Nat.le_refl _
theorem walkD_revT {Z : Wz} {Hf : Hp} {a : Addr} {ds : List D} {vs : List V} (K : PySem.W.Frag) (h : Hf a = some (.tup vs)) (r : RpL Z Hf ds vs) : WalkD Z (RT.ItvT K a vs.length) ds.reverse Hf where
  goes := fun i H Hf1 hi s1 s2 => by
    rw [List.length_reverse, r.length] at hi
    exact ⟨hi, vs, vs[vs.length - 1 - i]'(by omega), SqT.of (s2 _ _ (s1 _ _ h)), by simp [show vs.length - 1 - i < vs.length by omega]⟩
  yields := fun i H x H' Hf1 hi s1 s2 ⟨e, y⟩ => by
    subst e
    rw [List.length_reverse] at hi
    have z := y vs (SqT.of (s2 _ _ (s1 _ _ h)))
    rw [← r.length] at z
    obtain ⟨d, e1, e2⟩ := r.get' z
    exact ⟨Hf1, d, Grow.refl s2, by rw [rev_get hi]; exact e1, Rp.mono s1 _ _ e2⟩
  stops := fun H Hf1 s1 s2 => by rw [List.length_reverse, r.length]; exact Nat.le_refl _
/-- lo, lo + c, .. (n of them) -/
def rngD (lo c : Int) : Nat → List D
  | 0 => []
  | n + 1 => .int lo :: rngD (lo + c) c n
theorem rngD_length : ∀ {lo c : Int} {n : Nat}, (rngD lo c n).length = n
  | _, _, 0 => rfl
  | lo, c, n + 1 => by simp [rngD, rngD_length]
theorem rngD_get : ∀ {lo c : Int} {n i : Nat}, i < n → (rngD lo c n)[i]? = some (.int (lo + (i : Nat) * c))
  | lo, c, 0, i, h => by omega
  | lo, c, n + 1, 0, h => by simp [rngD]
  | lo, c, n + 1, i + 1, h => by
    have z := rngD_get (lo := lo + c) (c := c) (n := n) (i := i) (by omega)
    have e : lo + c + (i : Int) * c = lo + ((i + 1 : Nat) : Int) * c := by
      rw [Int.natCast_add, Int.add_mul]; omega
    rw [e] at z
    simpa [rngD] using z
theorem walkD_range {Z : Wz} {Hf : Hp} {lo : Int} {n : Nat} : WalkD Z (Itr lo n) (rngD lo 1 n) Hf where
  goes := fun i H Hf1 hi s1 s2 => by rw [rngD_length] at hi; exact hi
  yields := fun i H x H' Hf1 hi s1 s2 ⟨e, y⟩ => by
    subst e y
    rw [rngD_length] at hi
    exact ⟨Hf1, _, Grow.refl s2, rngD_get hi, rp_int.mpr (by rw [Int.mul_one])⟩
  stops := fun H Hf1 s1 s2 => by rw [rngD_length]; exact Nat.le_refl _
theorem walkD_rangeC {Z : Wz} {Hf : Hp} {lo c : Int} {n : Nat} : WalkD Z (Itc lo c n) (rngD lo c n) Hf where
  goes := fun i H Hf1 hi s1 s2 => by rw [rngD_length] at hi; exact hi
  yields := fun i H x H' Hf1 hi s1 s2 ⟨e, y⟩ => by
    subst e y
    rw [rngD_length] at hi
    exact ⟨Hf1, _, Grow.refl s2, rngD_get hi, rp_int.mpr rfl⟩
  stops := fun H Hf1 s1 s2 => by rw [rngD_length]; exact Nat.le_refl _
def signsD (x : Str) : List D := x.cps.toList.map fun c => .str ⟨#[c]⟩
theorem walkD_str {Z : Wz} {Hf : Hp} {x : Str} : WalkD Z (Its x) (signsD x) Hf where
  goes := fun i H Hf1 hi s1 s2 => by
    show i < x.cps.size
    simpa [signsD] using hi
  yields := fun i H v H' Hf1 hi s1 s2 ⟨e, c, e1, e2⟩ => by
    subst e e2
    exact ⟨Hf1, .str ⟨#[c]⟩, Grow.refl s2, by simp [signsD, e1], rp_str.mpr rfl⟩
  stops := fun H Hf1 s1 s2 => by
    show x.cps.size ≤ _
    simp [signsD]
/-! ### iterables -/
/-- what is walked in a value -/
@[simp] def itemsD : D → Option (List D)
  | .lst ds => some ds
  | .tup ds => some ds
  | .scr ns => some (ns.map .int)
  | .str x => some (signsD x)
  | .dic _ ks _ => some ks
  | _ => none
section
variable {X : Cx} {tg e : Expr} {te : TE}
def iAny (K : PySem.W.Frag) (te : TE) : TI := fun σ H R => te σ H fun x H1 => (∃ a, x = .ref a ∧ (∃ xs, SqL K H1 a xs) ∧ R (Itl K a) H1) ∨ (∃ a, x = .ref a ∧ (∃ xs, SqT K H1 a xs) ∧ R (Itt K a) H1) ∨ (∃ z, x = .str z ∧ R (Its z) H1) ∨
  (∃ d o kvs, x = .ref d ∧ H1 d = some (.frz o (.dK kvs)) ∧ R (Itk d o kvs) H1) ∨ ∃ d o kvs, x = .ref d ∧ H1 d = some (.frz o (.dT kvs)) ∧ R (Itkt d o kvs) H1
theorem pi_any (he : PE X e te) : PI X tg e (iAny X.K te) := by
  refine ⟨fun pins s σ H R I h => ?_⟩
  refine thn (he.run pins s σ H _ I h) fun v s1 ⟨x, H1, I1, r1, q1⟩ => ?_
  have one : ∀ {b : Addr}, b ∈ [s1.heap.objs.size] → FpOk X pins H1 b := fun {b} hb => by
    have e : b = s1.heap.objs.size := by simpa using hb
    subst e
    exact I1.fpOk (Nat.le_refl _) (I1.hok.fresh (Nat.le_refl _))
  rcases q1 with ⟨a, ex, ⟨xs, hq⟩, q⟩ | ⟨a, ex, ⟨xs, hq⟩, q⟩ | ⟨z, ex, q⟩ | ⟨d, o, kvs, ex, hd, q⟩ | ⟨d, o, kvs, ex, hd, q⟩
  · subst ex
    cases r1
    obtain ⟨its, rv, p, hz⟩ := I1.list hq
    refine wpAny_pyIter_list p.isList ?_
    exact ⟨s1.heap.objs.size, [s1.heap.objs.size], _, _, H1, rfl, I1.kept (t' := s1.toks) fun b o e => Heap.get?_push_of_some _ e, turn_list a _, ⟨_, Heap.get?_push_size _ rfl, rfl, rfl⟩, fun b hb => one hb, q⟩
  · subst ex
    cases r1
    obtain ⟨its, rv, p, hz⟩ := I1.tuple hq
    refine wpAny_pyIter_tuple (show s1.heap.IsTuple a its.toArray from p) ?_
    exact ⟨s1.heap.objs.size, [s1.heap.objs.size], _, _, H1, rfl, I1.kept (t' := s1.toks) fun b o e => Heap.get?_push_of_some _ e, turn_tuple a _, ⟨_, Heap.get?_push_size _ rfl, rfl, rfl⟩, fun b hb => one hb, q⟩
  · subst ex
    obtain ⟨t, rfl⟩ := r1
    cases ha : z.cps.all (· < 128)
    · exact wpAny_pyIter_wide ha (pi_one (tk := s1.toks) I1 _ (turn_str _ z t "str_iterator" (.inr rfl)) ⟨_, Heap.get?_push_size _ rfl, rfl, rfl⟩ q)
    · exact wpAny_pyIter_ascii ha (pi_one (tk := s1.toks) I1 _ (turn_str _ z t "str_ascii_iterator" (.inl rfl)) ⟨_, Heap.get?_push_size _ rfl, rfl, rfl⟩ q)
  · subst ex
    obtain rfl : v = Value.ref d := r1
    obtain ⟨hs, hgd, hx, es, ep, vs, hdt, hsz, kv, hm⟩ := I1.frzK hd
    refine iter_keys hs hgd hx hdt (pi_one (tk := s1.toks) I1 _ (turn_keys _ hdt) ⟨_, Heap.get?_push_size _ rfl, rfl, ?_⟩ q)
    rw [hsz] <;> rfl
  · subst ex
    obtain rfl : v = Value.ref d := r1
    obtain ⟨hs, hgd, hx, es, ep, hdt, hsz, ent⟩ := I1.frzT hd
    refine iter_keys hs hgd hx hdt (pi_one (tk := s1.toks) I1 _ (turn_keysT _ hdt) ⟨_, Heap.get?_push_size _ rfl, rfl, ?_⟩ q)
    rw [hsz] <;> rfl
end
section
variable {X : Cx} {F : Fd} {tg e e2 : Expr} {p pos : Pos} {t : TED} {ta : TAD}
@[simp] def tItD (t : TED) : TLD := fun env c W R => t env c W fun d c1 => match itemsD d with
  | some ds => R ds c1
  | none => False
theorem di_any (he : DE X F e t) (hK : F.Z.K = X.K := by rfl) : DI X F tg e (tItD t) := PI.imp (pi_any he) fun σ H R ⟨Hf, env, c, Wd, Qd, S, x, ht, k⟩ => by
  refine ⟨Hf, env, c, Wd, _, S, x, ht, fun v H' Hf' c' d S' s1 k1 r q => ?_⟩
  cases d with
  | lst ds =>
    obtain ⟨a, vs, rfl, h1, h2⟩ := rp_lst.mp r
    exact .inl ⟨a, rfl, ⟨vs, SqL.of (S'.sub _ _ h1)⟩, k _ H' Hf' c' ds S' s1 k1 (walkD_lst _ h1 h2) q⟩
  | tup ds =>
    obtain ⟨a, vs, rfl, h1, h2⟩ := rp_tup.mp r
    exact .inr (.inl ⟨a, rfl, ⟨vs, SqT.of (S'.sub _ _ h1)⟩, k _ H' Hf' c' ds S' s1 k1 (walkD_tup _ h1 h2) q⟩)
  | scr ns =>
    obtain ⟨a, rfl, h1⟩ := rp_scr.mp r
    rw [hK] at h1
    exact .inl ⟨a, rfl, ⟨_, S'.sub.seq h1⟩, k _ H' Hf' c' _ S' s1 k1 (walkD_scr h1) q⟩
  | str z =>
    cases rp_str.mp r
    exact .inr (.inr (.inl ⟨z, rfl, k _ H' Hf' c' _ S' s1 k1 walkD_str q⟩))
  | dic b ks vs =>
    cases b with
    | false =>
      obtain ⟨a, o, kvs, rfl, h1, rfl, h2⟩ := rp_dicK.mp r
      exact .inr (.inr (.inr (.inl ⟨a, o, kvs, rfl, S'.sub _ _ h1, k _ H' Hf' c' _ S' s1 k1 (walkD_keysK h1) q⟩)))
    | true =>
      obtain ⟨a, o, kvs, rfl, h1, rfl, h2⟩ := rp_dicT.mp r
      exact .inr (.inr (.inr (.inr ⟨a, o, kvs, rfl, S'.sub _ _ h1, k _ H' Hf' c' _ S' s1 k1 (walkD_keysT h1) q⟩)))
  | _ => exact q.elim
def smallI (j : Int) : Prop := -4611686018427387904 ≤ j ∧ j < 4611686018427387904
theorem smallI.use {j : Int} (h : smallI j) : -(2 ^ 62) ≤ j ∧ j < 2 ^ 62 := by
  unfold smallI at h
  omega
@[simp] def ints1 : List D → Option Int
  | [.int j] => some j
  | _ => none
@[simp] def ints2 : List D → Option (Int × Int)
  | [.int i, .int j] => some (i, j)
  | _ => none
@[simp] def ints3 : List D → Option (Int × Int × Int)
  | [.int i, .int j, .int s] => some (i, j, s)
  | _ => none
theorem ints1_of {ds : List D} {j : Int} (h : ints1 ds = some j) : ds = [.int j] := by
  unfold ints1 at h
  split at h
  · cases h; rfl
  · cases h
theorem ints2_of {ds : List D} {j : Int × Int} (h : ints2 ds = some j) : ds = [.int j.1, .int j.2] := by
  unfold ints2 at h
  split at h
  · cases h; rfl
  · cases h
theorem ints3_of {ds : List D} {j : Int × Int × Int} (h : ints3 ds = some j) : ds = [.int j.1, .int j.2.1, .int j.2.2] := by
  unfold ints3 at h
  split at h
  · cases h; rfl
  · cases h
@[simp] def tRng1D (ta : TAD) : TLD := fun env c W R => ta env c W fun ds c1 => match ints1 ds with
  | some j => smallI j ∧ R (rngD 0 1 j.toNat) c1
  | none => False
theorem di_range1 {a : Expr} (hm : X.mg "range" = none) (ha : DA X F [a] ta) (hg : Gl X "range" := by rfl) (hs : starEach [a] X.env = [(false, eval a X.env)] := by rfl) : DI X F tg (.Call (.Name "range" p) [a] [] pos) (tRng1D ta) :=
  PI.imp (pi_range1 hg hm ha hs) fun σ H R ⟨Hf, env, c, Wd, Qd, S, x, ht, k⟩ => by
  refine ⟨Hf, env, c, Wd, _, S, x, ht, fun vs H' Hf' c' ds S' s1 k1 r q => ?_⟩
  split at q
  · rename_i j e
    have e' := ints1_of e
    subst e'
    obtain ⟨v, w, rfl, h1, h2⟩ := rpL_cons.mp r
    cases rpL_nil.mp h2
    cases rp_int.mp h1
    exact ⟨j, rfl, q.1.use.1, q.1.use.2, k _ H' Hf' c' _ S' s1 k1 walkD_range q.2⟩
  · exact q.elim
@[simp] def tRng2D (ta : TAD) : TLD := fun env c W R => ta env c W fun ds c1 => match ints2 ds with
  | some p => smallI p.1 ∧ smallI p.2 ∧ R (rngD p.1 1 (p.2 - p.1).toNat) c1
  | none => False
theorem di_range2 {a b : Expr} (hm : X.mg "range" = none) (ha : DA X F [a, b] ta) (hg : Gl X "range" := by rfl) (hs : starEach [a, b] X.env = [(false, eval a X.env), (false, eval b X.env)] := by rfl) (hs2 : starEach [b] X.env = [(false, eval b X.env)] := by rfl) :
    DI X F tg (.Call (.Name "range" p) [a, b] [] pos) (tRng2D ta) :=
  PI.imp (pi_range2 hg hm ha hs hs2) fun σ H R ⟨Hf, env, c, Wd, Qd, S, x, ht, k⟩ => by
  refine ⟨Hf, env, c, Wd, _, S, x, ht, fun vs H' Hf' c' ds S' s1 k1 r q => ?_⟩
  split at q
  · rename_i j e
    have e' := ints2_of e
    subst e'
    obtain ⟨v, w, rfl, h1, h2⟩ := rpL_cons.mp r
    obtain ⟨v2, w2, rfl, h3, h4⟩ := rpL_cons.mp h2
    cases rpL_nil.mp h4
    cases rp_int.mp h1
    cases rp_int.mp h3
    exact ⟨j.1, j.2, rfl, ⟨q.1.use.1, q.1.use.2, q.2.1.use.1, q.2.1.use.2⟩, k _ H' Hf' c' _ S' s1 k1 walkD_range q.2.2⟩
  · exact q.elim
/-- with a step -/
@[simp] def tRng3D (ta : TAD) : TLD := fun env c W R => ta env c W fun ds c1 => match ints3 ds with
  | some p => ∃ n, RgC p.1 p.2.1 p.2.2 n ∧ R (rngD p.1 p.2.2 n) c1
  | none => False
theorem di_range3 {a b d : Expr} (hm : X.mg "range" = none) (ha : DA X F [a, b, d] ta) (hg : Gl X "range" := by rfl) (hs : starEach [a, b, d] X.env = (false, eval a X.env) :: starEach [b, d] X.env := by rfl) (hpl : (backTo pos (starEach [b, d] X.env)).any (·.1) = false := by rfl) :
    DI X F tg (.Call (.Name "range" p) [a, b, d] [] pos) (tRng3D ta) :=
  PI.imp (pi_range3 hg hm ha hs hpl) fun σ H R ⟨Hf, env, c, Wd, Qd, S, x, ht, k⟩ => by
  refine ⟨Hf, env, c, Wd, _, S, x, ht, fun vs H' Hf' c' ds S' s1 k1 r q => ?_⟩
  split at q
  · rename_i j e
    have e' := ints3_of e
    subst e'
    obtain ⟨n, q1, q⟩ := q
    obtain ⟨v, w, rfl, h1, h2⟩ := rpL_cons.mp r
    obtain ⟨v2, w2, rfl, h3, h4⟩ := rpL_cons.mp h2
    obtain ⟨v3, w3, rfl, h5, h6⟩ := rpL_cons.mp h4
    cases rpL_nil.mp h6
    cases rp_int.mp h1
    cases rp_int.mp h3
    cases rp_int.mp h5
    exact ⟨_, _, _, n, rfl, q1, k _ H' Hf' c' _ S' s1 k1 walkD_rangeC q⟩
  · exact q.elim
@[simp] def tEnumD (ta : TAD) : TLD := fun env c W R => ta env c W fun ds c1 => match ds with
  | [.lst xs] => R (enumD 0 xs) c1
  | _ => False
theorem di_enum {elts : List Expr} {kk : Nat} {tpos : Pos} (hm : X.mg "enumerate" = none) (ha : DA X F [e] ta) (hg : Gl X "enumerate" := by rfl) (hs : starEach [e] X.env = [(false, eval e X.env)] := by rfl) :
    DI X F (.Tuple elts kk tpos) (.Call (.Name "enumerate" p) [e] [] pos) (tEnumD ta) :=
  PI.imp (pi_enum hg hm ha hs) fun σ H R ⟨Hf, env, c, Wd, Qd, S, x, ht, k⟩ => by
  refine ⟨Hf, env, c, Wd, _, S, x, ht, fun vs H' Hf' c' ds S' s1 k1 r q => ?_⟩
  split at q
  · rename_i xs
    obtain ⟨v, w, rfl, h1, h2⟩ := rpL_cons.mp r
    cases rpL_nil.mp h2
    obtain ⟨a, ws, rfl, h3, h4⟩ := rp_lst.mp h1
    exact ⟨a, ws, rfl, SqL.of (S'.sub _ _ h3), k _ H' Hf' c' _ S' s1 k1 (walkD_enum _ h3 h4) q⟩
  · exact q.elim
@[simp] def tZipD (ta : TAD) : TLD := fun env c W R => ta env c W fun ds c1 => match ds with
  | [.lst xs, .lst ys] => R (List.zipWith pairD xs ys) c1
  | [.tup xs, .tup ys] => R (List.zipWith pairD xs ys) c1
  | _ => False
theorem di_zip {elts : List Expr} {kk : Nat} {tpos : Pos} (hm : X.mg "zip" = none) (ha : DA X F [e, e2] ta) (hg : Gl X "zip" := by rfl) (hs : starEach [e, e2] X.env = (false, eval e X.env) :: starEach [e2] X.env := by rfl) (hpl : (backTo pos (starEach [e2] X.env)).any (·.1) = false := by rfl) :
    DI X F (.Tuple elts kk tpos) (.Call (.Name "zip" p) [e, e2] [] pos) (tZipD ta) :=
  PI.imp (RZ.pi_zipA hg hm ha hs hpl) fun σ H R ⟨Hf, env, c, Wd, Qd, S, x, ht, k⟩ => by
  refine ⟨Hf, env, c, Wd, _, S, x, ht, fun vs H' Hf' c' ds S' s1 k1 r q => ?_⟩
  split at q
  · rename_i xs ys
    obtain ⟨v, w, rfl, h1, h2⟩ := rpL_cons.mp r
    obtain ⟨v2, w2, rfl, h3, h4⟩ := rpL_cons.mp h2
    cases rpL_nil.mp h4
    obtain ⟨a, ws, rfl, g1, g2⟩ := rp_lst.mp h1
    obtain ⟨b, us, rfl, g3, g4⟩ := rp_lst.mp h3
    exact ⟨a, b, ws, us, rfl, .inl ⟨SqL.of (S'.sub _ _ g1), SqL.of (S'.sub _ _ g3), k _ H' Hf' c' _ S' s1 k1 (walkD_zip _ g1 g2 g3 g4) q⟩⟩
  · rename_i xs ys
    obtain ⟨v, w, rfl, h1, h2⟩ := rpL_cons.mp r
    obtain ⟨v2, w2, rfl, h3, h4⟩ := rpL_cons.mp h2
    cases rpL_nil.mp h4
    obtain ⟨a, ws, rfl, g1, g2⟩ := rp_tup.mp h1
    obtain ⟨b, us, rfl, g3, g4⟩ := rp_tup.mp h3
    exact ⟨a, b, ws, us, rfl, .inr ⟨SqT.of (S'.sub _ _ g1), SqT.of (S'.sub _ _ g3), k _ H' Hf' c' _ S' s1 k1 (walkD_zipT _ g1 g2 g3 g4) q⟩⟩
  · exact q.elim
@[simp] def tRevD (t : TED) : TLD := fun env c W R => t env c W fun d c1 => match d with
  | .lst xs => R xs.reverse c1
  | .tup xs => R xs.reverse c1
  | _ => False
theorem di_rev (hm : X.mg "reversed" = none) (he : DE X F e t) (hg : Gl X "reversed" := by rfl) (hs : starEach [e] X.env = (false, eval e X.env) :: starEach [] X.env := by rfl) : DI X F tg (.Call (.Name "reversed" p) [e] [] pos) (tRevD t) :=
  PI.imp (RT.pi_revA hg hm he hs) fun σ H R ⟨Hf, env, c, Wd, Qd, S, x, ht, k⟩ => by
  refine ⟨Hf, env, c, Wd, _, S, x, ht, fun v H' Hf' c' d S' s1 k1 r q => ?_⟩
  cases d with
  | lst ds =>
    obtain ⟨a, vs, rfl, h1, h2⟩ := rp_lst.mp r
    exact ⟨a, vs, rfl, .inl ⟨SqL.of (S'.sub _ _ h1), k _ H' Hf' c' _ S' s1 k1 (walkD_rev _ h1 h2) q⟩⟩
  | tup ds =>
    obtain ⟨a, vs, rfl, h1, h2⟩ := rp_tup.mp r
    exact ⟨a, vs, rfl, .inr ⟨SqT.of (S'.sub _ _ h1), k _ H' Hf' c' _ S' s1 k1 (walkD_revT _ h1 h2) q⟩⟩
  | _ => exact q.elim
@[simp] def tItemsD (t : TED) : TLD := fun env c W R => t env c W fun d c1 => match d with
  | .dic false ks vs => R (List.zipWith pairD ks vs) c1
  | _ => False
theorem di_items {elts : List Expr} {kk : Nat} {tpos apos cpos : Pos} (he : DE X F e t) (hbase : attributeBase e "items" X.env (eval e X.env) = eval e X.env := by rfl) (hline : (apos.endLine == cpos.line) = true := by rfl) :
    DI X F (.Tuple elts kk tpos) (.Call (.Attribute e "items" apos) [] [] cpos) (tItemsD t) :=
  PI.imp (pi_items he hbase hline) fun σ H R ⟨Hf, env, c, Wd, Qd, S, x, ht, k⟩ => by
  refine ⟨Hf, env, c, Wd, _, S, x, ht, fun v H' Hf' c' d S' s1 k1 r q => ?_⟩
  split at q
  · rename_i ks vs
    obtain ⟨a, o, kvs, rfl, h1, rfl, h2⟩ := rp_dicK.mp r
    exact ⟨a, o, kvs, rfl, S'.sub _ _ h1, k _ H' Hf' c' _ S' s1 k1 (walkD_items h1 h2) q⟩
  · exact q.elim
@[simp] def tValsD (t : TED) : TLD := fun env c W R => t env c W fun d c1 => match d with
  | .dic false ks vs => R vs c1
  | _ => False
theorem di_values {apos cpos : Pos} (he : DE X F e t) (hbase : attributeBase e "values" X.env (eval e X.env) = eval e X.env := by rfl) (hline : (apos.endLine == cpos.line) = true := by rfl) :
    DI X F tg (.Call (.Attribute e "values" apos) [] [] cpos) (tValsD t) :=
  PI.imp (pi_values he hbase hline) fun σ H R ⟨Hf, env, c, Wd, Qd, S, x, ht, k⟩ => by
  refine ⟨Hf, env, c, Wd, _, S, x, ht, fun v H' Hf' c' d S' s1 k1 r q => ?_⟩
  split at q
  · rename_i ks vs
    obtain ⟨a, o, kvs, rfl, h1, rfl, h2⟩ := rp_dicK.mp r
    exact ⟨a, o, kvs, rfl, S'.sub _ _ h1, k _ H' Hf' c' _ S' s1 k1 (walkD_vals h1 h2) q⟩
  · exact q.elim
end
end DL
set_option Elab.async false
set_option linter.all false
set_option maxRecDepth 100000
set_option maxHeartbeats 1000000
/-! DL9: for, while, list comprehensions, freezing a slot. -/
namespace DL
open PySem PySem.Spec PyProof.Rows L2

theorem drop_cons {α : Type} {xs : List α} {i : Nat} {x : α} (h : xs[i]? = some x) : xs.drop i = x :: xs.drop (i + 1) := by
  obtain ⟨h1, h2⟩ := List.getElem?_eq_some_iff.mp h
  rw [← h2]
  exact List.drop_eq_getElem_cons h1

/-! ### for -/
/-- the turns that are left -/
@[simp] def loopD (tg : Tg) (tb : TSD) (D0 : EndsD) : List D → EnvD → Nat → Prop
  | [] => fun env c => D0.nx env c
  | d :: ds => fun env c => tg.set d env fun env1 => tb { D0 with nx := loopD tg tb D0 ds, ct := loopD tg tb D0 ds, bk := D0.nx } env1 c
@[simp] def tForD (tg : Tg) (ti : TLD) (tb : TSD) : TSD := fun D0 env c => ti env c (fun d c1 => D0.ex d env c1) fun ds c1 => loopD tg tb D0 ds env c1
section
variable {X : Cx} {F : Fd} {pos : Pos}
theorem ds_for {target iter : Expr} {body : List Stmt} {ti : TLD} {tb : TSD} (tg : Tg) {K : PySem.W.Frag} (hp : PassesOwn (model X.prog X.w) X.A X.env X.xe) (hc : X.calm = true) (hi : DI X F target iter ti) (hg : PG X target (tg.g K)) (hb : DSs X F body tb)
    (hs : ∀ x, foldedSetIterable iter X.env x = pure x := by intro _; rfl) : DS X F (.For target iter body [] pos) (tForD tg ti tb) := PS.imp (ps_for hp hc hi hg hb hs) fun D0 σ H ⟨Hf, env, c, Dd, S, L, h⟩ => by
  refine ⟨Hf, env, c, _, _, S, L.xl σ env, h, fun J H1 Hf1 c1 ds S1 s1 k1 w q => ?_⟩
  refine ⟨fun i m σ H => m = ds.length - i ∧ i ≤ ds.length ∧ ∃ (Hf2 : Hp) (env : EnvD) (c : Nat), Sim F.Z F.H0 F.G0 σ H Hf2 env c ∧ Same Hf1 Hf2 ∧ loopD tg tb Dd (ds.drop i) env c, ⟨_, rfl, Nat.zero_le _, Hf1, env, c1, S1, Same.refl _, q⟩, ?_⟩
  rintro i m σ2 H2 ⟨rfl, hi2, Hf2, env2, c2, S2, s2, q2⟩
  by_cases hlt : i < ds.length
  · refine .inr ⟨w.goes i H2 Hf2 hlt s2 S2.sub, fun σ H => ∃ (Hf3 : Hp) (env : EnvD) (c : Nat), Sim F.Z F.H0 F.G0 σ H Hf3 env c ∧ Same Hf1 Hf3 ∧ loopD tg tb Dd (ds.drop (i + 1)) env c, fun σ' H' z => ⟨_, ?_, rfl, hlt, z⟩, fun x H' y => ?_⟩
    · omega
    · obtain ⟨Hf3, d, g, e, r⟩ := w.yields i H2 x H' Hf2 hlt s2 S2.sub y
      rw [drop_cons e] at q2
      refine Tg.use (S2.grow g) r q2 fun σ' env' S3 _ _ q3 => ?_
      refine ⟨Hf3, env', c2, _, S3, ?_, q3⟩
      have sx : Same Hf Hf3 := (s1.trans s2).trans g.hf
      exact ⟨fun σ H Hf4 env c S s q => ⟨Hf4, env, c, S, (s2.trans g.hf).trans s, q⟩, fun σ H Hf4 env c d v S s r q => L.rt σ H Hf4 env c d v S (sx.trans s) r q, fun σ H Hf4 env c S s q => L.nx σ H Hf4 env c S (sx.trans s) q,
        fun σ H Hf4 env c S s q => ⟨Hf4, env, c, S, (s2.trans g.hf).trans s, q⟩, L.ex⟩
  · have e : i = ds.length := by omega
    subst e
    rw [List.drop_length] at q2
    exact .inl ⟨w.stops H2 Hf2 s2 S2.sub, L.nx σ2 H2 Hf2 env2 c2 S2 (s1.trans s2) q2⟩
/-! ### while -/
@[simp] def tWhileD (tc : TTD) (tb : TSD) : TSD := fun D0 env c => ∃ W : Nat → EnvD → Nat → Prop, (∃ m, W m env c) ∧ ∀ m env c, W m env c → tc env c (fun d c1 => D0.ex d env c1) fun b c1 =>
  if b = true then tb { D0 with nx := fun env' c' => ∃ m', m' < m ∧ W m' env' c', ct := fun env' c' => ∃ m', m' < m ∧ W m' env' c', bk := D0.nx } env c1 else D0.nx env c1
theorem ds_while {e : Expr} {body : List Stmt} {tc : TTD} {tb : TSD} (hp : PassesOwn (model X.prog X.w) X.A X.env X.xe) (hc : DT X F e tc) (hb : DSs X F body tb) : DS X F (.While e body [] pos) (tWhileD tc tb) :=
  PS.imp (ps_while hp hc hb) fun D0 σ H ⟨Hf, env, c, Dd, S, L, W, ⟨m0, w0⟩, turn⟩ => by
  refine ⟨fun m σ H => ∃ (Hf2 : Hp) (env : EnvD) (c : Nat), Sim F.Z F.H0 F.G0 σ H Hf2 env c ∧ Same Hf Hf2 ∧ W m env c, ⟨m0, Hf, env, c, S, Same.refl _, w0⟩, ?_⟩
  rintro m σ2 H2 ⟨Hf2, env2, c2, S2, s2, w2⟩
  refine ⟨Hf2, env2, c2, _, _, S2, L.xl σ2 env2, turn m env2 c2 w2, fun b H3 Hf3 c3 S3 s3 _ q => ?_⟩
  cases b with
  | true =>
    refine iteT ⟨fun σ H => ∃ (m' : Nat), m' < m ∧ ∃ (Hf2 : Hp) (env : EnvD) (c : Nat), Sim F.Z F.H0 F.G0 σ H Hf2 env c ∧ Same Hf Hf2 ∧ W m' env c, fun σ' H' z => z, Hf3, env2, c3, _, S3, ?_, q⟩
    have sx := s2.trans s3
    exact ⟨fun σ H Hf4 env c S s ⟨m', lt, q⟩ => ⟨m', lt, Hf4, env, c, S, sx.trans s, q⟩, fun σ H Hf4 env c d v S s r q => L.rt σ H Hf4 env c d v S (sx.trans s) r q, fun σ H Hf4 env c S s q => L.nx σ H Hf4 env c S (sx.trans s) q,
      fun σ H Hf4 env c S s ⟨m', lt, q⟩ => ⟨m', lt, Hf4, env, c, S, sx.trans s, q⟩, L.ex⟩
  | false => exact iteF (L.nx σ2 H3 Hf3 env2 c3 S3 (s2.trans s3) q)
end

/-! ### a slot's own thing is kept from here on -/
def tFreezeS (t : TS) : TS := fun D0 σ H => ∃ (a : Addr) (u : HO), H a = some u ∧ ((∃ vs, u = .lst vs ∧ t D0 σ H) ∨ (((∃ kvs, u = .dK kvs) ∨ ∃ kvs, u = .dT kvs) ∧ ∀ od, t D0 σ (upd H a (.frz od u))))
theorem pss_freeze {X : Cx} {sts : List Stmt} {t : TS} (h : PSs X sts t) : PSs X sts (tFreezeS t) := ⟨fun pins s σ H D0 I q => by
  obtain ⟨a, u, e, q | ⟨m, q⟩⟩ := q
  · obtain ⟨vs, _, q⟩ := q
    exact h.run pins s σ H D0 I q
  · obtain ⟨od, I2⟩ := I.lock e (by rcases m with ⟨kvs, rfl⟩ | ⟨kvs, rfl⟩ <;> trivial)
    exact h.run pins s σ _ D0 I2 (q od)⟩
@[simp] def tFrzD (i : Nat) (t : TSD) : TSD := fun D0 env c => match env[i]? with
  | some (.own d) => t D0 (env.set i (.val d)) c
  | _ => False
theorem set_same {α : Type} : ∀ {xs : List α} {i : Nat} {x : α}, xs[i]? = some x → xs.set i x = xs
  | [], _, _, h => by simp at h
  | a :: r, 0, x, h => by simp at h; subst h; rfl
  | a :: r, i + 1, x, h => by
    rw [List.set_cons_succ, set_same (by simpa using h)]
theorem EL.back {F : Fd} {H1 H2 : Hp} {D0 : Ends} {Dd : EndsD} (L : EL F H1 D0 Dd) (s : Same H1 H2) : EL F H2 D0 Dd := L.grow s
theorem dss_freeze {X : Cx} {F : Fd} (i : Nat) {sts : List Stmt} {t : TSD} (h : DSs X F sts t) : DSs X F sts (tFrzD i t) := PSs.imp (pss_freeze h) fun D0 σ H ⟨Hf, env, c, Dd, S, L, q⟩ => by
  unfold tFrzD at q
  split at q
  · rename_i d e
    obtain ⟨a, e1, h2, h3, h4, h5⟩ := S.own i _ e
    obtain ⟨S1, f, r⟩ := S.letGo e e1
    have fin : ∀ o : HO, ((∃ vs, o = .lst vs ∧ H a = some (.lst vs)) ∨ (∃ od kvs, o = .frz od (.dK kvs) ∧ H a = some (.dK kvs)) ∨ ∃ od kvs, o = .frz od (.dT kvs) ∧ H a = some (.dT kvs)) → liftS F t D0 σ (upd H a o) := fun o ho => by
      have S2 := (S1.freeze f o (fun u hu => OwnRp.ntab hu r) (own_ntb ho)).set (own_rp (H' := H) f.hf r o ho) i
      rw [set_same e1, List.set_set] at S2
      exact ⟨_, _, c, Dd, S2, L.grow (same_upd f.hf), q⟩
    cases d with
    | lst ds =>
      obtain ⟨vs, g1, _⟩ := id r
      have z := fin _ (.inl ⟨vs, rfl, g1⟩)
      rw [upd_id g1] at z
      exact ⟨a, _, g1, .inl ⟨vs, rfl, z⟩⟩
    | dic t ks ds =>
      cases t with
      | false =>
        obtain ⟨kvs, g1, _⟩ := id r
        exact ⟨a, _, g1, .inr ⟨.inl ⟨kvs, rfl⟩, fun od => fin _ (.inr (.inl ⟨od, kvs, rfl, g1⟩))⟩⟩
      | true =>
        obtain ⟨kvs, g1, _⟩ := id r
        exact ⟨a, _, g1, .inr ⟨.inr ⟨kvs, rfl⟩, fun od => fin _ (.inr (.inr ⟨od, kvs, rfl, g1⟩))⟩⟩
    | _ => exact r.elim
  · exact q.elim

/-! ### blocks of comprehensions -/
@[simp] def wipeD (env : EnvD) : List Nat → EnvD
  | [] => env
  | v :: vs => (wipeD env vs).set v .un
theorem wipeD_in {env : EnvD} {i : Nat} {d : D} : ∀ {vs : List Nat}, i ∈ vs → (wipeD env vs)[i]? ≠ some (Slot.own d)
  | v :: vs, h, e => by
    show False
    replace e : ((wipeD env vs).set v .un)[i]? = some (Slot.own d) := e
    rw [List.getElem?_set] at e
    by_cases hv : v = i
    · rw [if_pos hv] at e
      split at e <;> cases e
    · rw [if_neg hv] at e
      rcases List.mem_cons.mp h with z | z
      · exact hv z.symm
      · exact wipeD_in z e
theorem wipeD_out {env : EnvD} {i : Nat} : ∀ {vs : List Nat}, i ∉ vs → (wipeD env vs)[i]? = env[i]?
  | [], h => rfl
  | v :: vs, h => by
    show ((wipeD env vs).set v .un)[i]? = _
    rw [List.getElem?_set_ne fun z => h (by rw [z]; exact List.mem_cons_self)]
    exact wipeD_out fun z => h (List.mem_cons_of_mem _ z)
theorem wipe_out {σ : L2.St} {i : Nat} : ∀ {vs : List Nat}, i ∉ vs → (wipe σ vs)[i]? = σ[i]?
  | [], h => rfl
  | v :: vs, h => by
    show ((wipe σ vs).set v none)[i]? = _
    rw [List.getElem?_set_ne fun z => h (by rw [z]; exact List.mem_cons_self)]
    exact wipe_out fun z => h (List.mem_cons_of_mem _ z)
open Classical in
/-- the heap without what the slots alone hold -/
noncomputable def mask (H : Hp) (σ : L2.St) (env : EnvD) : Hp := fun b => if ∃ (i : Nat) (d : D), env[i]? = some (Slot.own d) ∧ σ[i]? = some (some (.ref b)) then none else H b
theorem mask_in {H : Hp} {σ : L2.St} {env : EnvD} {b : Addr} {i : Nat} {d : D} (h1 : env[i]? = some (Slot.own d)) (h2 : σ[i]? = some (some (.ref b))) : mask H σ env b = none := by
  unfold mask
  rw [if_pos ⟨i, d, h1, h2⟩]
theorem mask_out {H : Hp} {σ : L2.St} {env : EnvD} {b : Addr} (h : ∀ (i : Nat) (d : D), env[i]? = some (Slot.own d) → σ[i]? ≠ some (some (.ref b))) : mask H σ env b = H b := by
  unfold mask
  rw [if_neg]
  rintro ⟨i, d, h1, h2⟩
  exact h i d h1 h2
theorem mask_some {H : Hp} {σ : L2.St} {env : EnvD} {b : Addr} {o : HO} (h : mask H σ env b = some o) : H b = some o := by
  unfold mask at h
  split at h
  · cases h
  · exact h
section
variable {Z : Wd} {H0 G0 : Hp} {σ : L2.St} {H Hf H' Hf' : Hp} {env : EnvD} {c : Nat}
theorem Sim.kill (S : Sim Z H0 G0 σ H Hf env c) (i : Nat) : Sim Z H0 G0 (σ.set i none) H Hf (env.set i .un) c where
  sub := S.sub
  g0 := S.g0
  new := S.new
  keep := S.keep
  len := by rw [List.length_set, List.length_set]; exact S.len
  val := fun j e h => by
    rw [List.getElem?_set] at h ⊢
    by_cases hj : i = j
    · rw [if_pos hj] at h
      split at h <;> cases h
    · rw [if_neg hj] at h ⊢
      exact S.val j e h
  own := fun j e h => by
    rw [List.getElem?_set] at h ⊢
    by_cases hj : i = j
    · rw [if_pos hj] at h
      split at h <;> cases h
    · rw [if_neg hj] at h ⊢
      exact S.own j e h
  inj := fun j k d e a h1 h2 h3 h4 => by
    rw [List.getElem?_set] at h1 h2 h3 h4
    by_cases hj : i = j
    · rw [if_pos hj] at h1
      split at h1 <;> cases h1
    · by_cases hk : i = k
      · rw [if_pos hk] at h2
        split at h2 <;> cases h2
      · rw [if_neg hj] at h1 h3
        rw [if_neg hk] at h2 h4
        exact S.inj j k d e a h1 h2 h3 h4
  st := S.st
  stf := S.stf
  tab := S.tab
  ntb := S.ntb
theorem Sim.wiped (S : Sim Z H0 G0 σ H Hf env c) : ∀ vs : List Nat, Sim Z H0 G0 (wipe σ vs) H Hf (wipeD env vs) c
  | [] => S
  | v :: vs => (S.wiped vs).kill v
/-- a frame of its own begins here -/
theorem Sim.enter (S : Sim Z H0 G0 σ H Hf env c) : Sim Z (mask H σ env) Hf σ H Hf env c where
  sub := S.sub
  g0 := Same.refl _
  new := fun b h1 h2 => absurd h2 h1
  keep := fun b o h _ => mask_some h
  len := S.len
  val := S.val
  own := fun i d h => by
    obtain ⟨a, h1, h2, h3, h4, h5⟩ := S.own i d h
    exact ⟨a, h1, h2, mask_in h h1, h4, h5⟩
  inj := S.inj
  st := S.st
  stf := S.stf
  tab := S.tab
  ntb := fun _ _ h => h
/-- .. and is left -/
theorem Sim.join {σ2 : L2.St} {env2 : EnvD} {vs : List Nat} {c' : Nat} (S : Sim Z H0 G0 σ H Hf env c) (B : Sim Z (mask H (wipe σ vs) (wipeD env vs)) Hf σ2 H' Hf' env2 c') (he : ∀ i, i ∉ vs → env2[i]? = env[i]?) (hs : ∀ i, i ∉ vs → σ2[i]? = σ[i]?) : Sim Z H0 G0 σ H' Hf' env c' where
  sub := B.sub
  g0 := S.g0.trans B.g0
  new := fun b h1 h2 => by
    by_cases e : Hf b = none
    · have z := B.new b h1 e
      cases q : H0 b with
      | none => exact .inl rfl
      | some o =>
        by_cases s : Z.S b
        · exfalso
          exact h1 (B.stf b s)
        · have hb := S.keep b o q s
          have hm : mask H (wipe σ vs) (wipeD env vs) b = H b := mask_out fun j d g1 g2 => by
            have hj : j ∉ vs := fun m => wipeD_in m g1
            rw [wipeD_out hj] at g1
            rw [wipe_out hj] at g2
            obtain ⟨a, g3, _, g4, _⟩ := S.own j d g1
            rw [g2] at g3
            cases g3
            rw [q] at g4
            cases g4
          rw [hm, hb] at z
          exact z
    · exact S.new b e h2
  keep := fun b o h n => by
    have hb := S.keep b o h n
    have hm : mask H (wipe σ vs) (wipeD env vs) b = H b := mask_out fun j d g1 g2 => by
      have hj : j ∉ vs := fun m => wipeD_in m g1
      rw [wipeD_out hj] at g1
      rw [wipe_out hj] at g2
      obtain ⟨a, g3, _, g4, _⟩ := S.own j d g1
      rw [g2] at g3
      cases g3
      rw [h] at g4
      cases g4
    exact B.keep b o (by rw [hm]; exact hb) n
  len := S.len
  val := fun i d h => let ⟨v, h1, h2⟩ := S.val i d h; ⟨v, h1, Rp.mono B.g0 _ _ h2⟩
  own := fun i d h => by
    obtain ⟨a, h1, h2, h3, h4, h5⟩ := S.own i d h
    by_cases hi : i ∈ vs
    · have hm : mask H (wipe σ vs) (wipeD env vs) a = H a := mask_out fun j e g1 g2 => by
        have hj : j ∉ vs := fun m => wipeD_in m g1
        rw [wipeD_out hj] at g1
        rw [wipe_out hj] at g2
        have z := S.inj i j d e a h g1 h1 g2
        subst z
        exact hj hi
      obtain ⟨u, hu⟩ := h5.some
      have hk := B.keep a u (by rw [hm]; exact hu) fun z => h4 z.t
      refine ⟨a, h1, ?_, h3, h4, ?_⟩
      · cases q : Hf' a with
        | none => rfl
        | some o =>
          have z := B.new a (by rw [q]; exact fun z => by cases z) h2
          rw [hm, hu] at z
          cases d with
          | lst ds => obtain ⟨vs, e, _⟩ := h5; rw [hu] at e; cases e; rcases z with z | ⟨xs, z⟩ <;> cases z
          | dic t ks ds => cases t <;> (obtain ⟨kvs, e, _⟩ := h5; rw [hu] at e; cases e; rcases z with z | ⟨xs, z⟩ <;> cases z)
          | _ => exact h5.elim
      · have h6 : OwnRp Z.toWz Hf H' a d := OwnRp.at (by rw [hk, hu]) h5
        exact OwnRp.mono (Z := Z) B.g0 KeepX.refl h4 h6
    · have e2 := he i hi
      have s2 := hs i hi
      obtain ⟨a', g1, g2, g3, g4, g5⟩ := B.own i d (by rw [e2]; exact h)
      rw [s2, h1] at g1
      cases g1
      exact ⟨a, h1, g2, h3, h4, g5⟩
  inj := S.inj
  st := B.st
  stf := B.stf
  tab := B.tab
  ntb := fun b ps h => S.ntb b ps (B.ntb b ps h)
/-- a new thing that no slot holds is changed -/
theorem Sim.touch (S : Sim Z H0 G0 σ H Hf env c) {a : Addr} (f : Fresh Z H0 σ Hf env a) (o : HO) (nt : ∀ u, H a = some u → ¬ IsTab u) : Sim Z H0 G0 σ (upd H a o) Hf env c where
  sub := fun b u e => by rw [upd_ne (ne_of_none e f.hf)]; exact S.sub b u e
  g0 := S.g0
  new := S.new
  keep := fun b u h n => by
    rw [upd_ne (ne_of_none h f.h0)]
    exact S.keep b u h n
  len := S.len
  val := S.val
  own := fun i d h => by
    obtain ⟨b, h1, h2, h3, h4, h5⟩ := S.own i d h
    have nb : b ≠ a := fun z => f.ns i d h (by rw [h1, z])
    exact ⟨b, h1, h2, h3, h4, OwnRp.at (upd_ne nb) h5⟩
  inj := S.inj
  st := fun hs => (S.st hs).keep fun b hb u e => by
    rw [upd_ne (fun z => f.nt ⟨hs, by rw [← z]; exact hb⟩)]
    exact e
  stf := S.stf
  tab := tabs_keep (fun b u e it => by rw [upd_ne (fun z => nt u (by rw [← z]; exact e) it)]; exact e) S.tab
  ntb := S.ntb
end
end DL
set_option Elab.async false
set_option linter.all false
set_option maxRecDepth 100000
set_option maxHeartbeats 1000000
/-! DL10: list comprehensions. -/
namespace DL
open PySem PySem.Spec PyProof.Rows L2

theorem wipe_get_in {σ : L2.St} {i : Nat} : ∀ {vs : List Nat}, i ∈ vs → (wipe σ vs)[i]? = if i < σ.length then some none else none
  | v :: vs, h => by
    show ((wipe σ vs).set v none)[i]? = _
    rw [List.getElem?_set, wipe_length]
    by_cases hv : v = i
    · rw [if_pos hv, hv]
    · rw [if_neg hv]
      rcases List.mem_cons.mp h with z | z
      · exact absurd z.symm hv
      · exact wipe_get_in z
theorem wipe_wipe (σ : L2.St) (vs : List Nat) : wipe (wipe σ vs) vs = wipe σ vs := by
  apply List.ext_getElem?
  intro i
  by_cases h : i ∈ vs
  · rw [wipe_get_in h, wipe_get_in h, wipe_length]
  · rw [DL.wipe_out h]
def noW : WX := fun _ _ _ _ => False
def noWD : WD := fun _ _ => False
theorem xl_no {F : Fd} {σ : L2.St} {env : EnvD} : XL F σ env noWD := fun _ _ _ _ _ _ _ _ h => h.elim
/-- in a block of X: P there, whatever frame -/
def InBlk (X : Cx) (F : Fd) (scope : Scope) (P : Cx → Fd → Prop) : Prop := ∀ (s : Shared) (H : Hp) (C : Addr) (cl : List (Str × Addr)) (fp : List Addr) (H0 G0 : Hp), P (X.blk s H scope (compEnvC scope cl C X.env) fp) ⟨F.Z, H0, G0, noW⟩
abbrev DTs (X : Cx) (F : Fd) (ifs : List Expr) (t : TTD) : Prop := PTs X ifs (liftT F t)
@[simp] def tYesD : TTD := fun _ c _ Q => Q true c
theorem PTs.imp {X : Cx} {e : List Expr} {t t' : TT} (h : PTs X e t) (i : ∀ σ H Q, t' σ H Q → t σ H Q) : PTs X e t' := ⟨fun pins s σ H Q I q => h.run pins s σ H Q I (i σ H Q q)⟩
theorem dts_nil {X : Cx} {F : Fd} : DTs X F [] tYesD := PTs.imp pts_nil fun σ H Q ⟨Hf, env, c, Wd, Qd, S, _, ht, k⟩ => k true H Hf c S (Same.refl _) Keep.refl ht
theorem dts_one {X : Cx} {F : Fd} {e : Expr} {t : TTD} (h : DT X F e t) : DTs X F [e] t := pts_one h
def liftEB (Z : Wd) (t : TED) : TE := fun σ H Q => ∃ H0 G0 : Hp, liftE ⟨Z, H0, G0, noW⟩ t σ H Q
def liftTB (Z : Wd) (t : TTD) : TT := fun σ H Q => ∃ H0 G0 : Hp, liftT ⟨Z, H0, G0, noW⟩ t σ H Q
theorem pe_EB {X : Cx} {e : Expr} {Z : Wd} {t : TED} (h : ∀ H0 G0 : Hp, DE X ⟨Z, H0, G0, noW⟩ e t) : PE X e (liftEB Z t) := ⟨fun pins s σ H Q I ⟨H0, G0, q⟩ => (h H0 G0).run pins s σ H Q I q⟩
theorem pts_TB {X : Cx} {e : List Expr} {Z : Wd} {t : TTD} (h : ∀ H0 G0 : Hp, DTs X ⟨Z, H0, G0, noW⟩ e t) : PTs X e (liftTB Z t) := ⟨fun pins s σ H Q I ⟨H0, G0, q⟩ => (h H0 G0).run pins s σ H Q I q⟩

/-- the turns that are left, what is found so far -/
@[simp] def lcD (tg : Tg) (own : List Nat) (tt : TTD) (te : TED) (env : EnvD) (Q : D → Nat → Prop) : List D → List D → Nat → Prop
  | [] => fun acc c => Q (.lst acc) c
  | d :: ds => fun acc c => tg.set d (wipeD env own) fun env1 => tt env1 c noWD fun b c1 => if b = true then te env1 c1 noWD fun y c2 => acc.length < sizeLine ∧ lcD tg own tt te env Q ds (acc ++ [y]) c2 else lcD tg own tt te env Q ds acc c1
@[simp] def tLcDD (tg : Tg) (own : List Nat) (ti : TLD) (tt : TTD) (te : TED) : TED := fun env c W Q => ti env c W fun ds c1 => lcD tg own tt te env Q ds [] c1
theorem NewB.not_lst {o : Option HO} {vs : List V} (h : NewB o) (e : o = some (.lst vs)) : False := by
  subst e
  rcases h with h | ⟨xs, h⟩ <;> cases h
theorem lc_use {F : Fd} {K : PySem.W.Frag} {tg : Tg} {vs : List Nat} {ti : TLD} {tt : TTD} {te : TED} {σ : L2.St} {H : Hp} {Q : VK} (hv : ∀ i ∈ tg.slots, i ∈ vs) (h : liftO F (tLcDD tg vs ti tt te) σ H Q) :
    tLc (liftI F ti) (tg.g K) (liftTB F.Z tt) (liftEB F.Z te) vs σ H Q := by
  obtain ⟨Hf, env, c, Wd, Qd, S, x, ht, k⟩ := h
  refine ⟨Hf, env, c, Wd, _, S, x, ht, fun J H1 Hf1 c1 ds S1 s1 k1 w q => fun p0 hD => ?_⟩
  have fD := S1.fresh hD
  have nm : ∀ (Hx : Hp), mask Hx (wipe σ vs) (wipeD env vs) p0 = Hx p0 := fun Hx => mask_out fun j d g1 g2 => by
    have hj : j ∉ vs := fun m => wipeD_in m g1
    rw [wipeD_out hj] at g1
    rw [DL.wipe_out hj] at g2
    exact fD.ns j d g1 g2
  refine ⟨fun i m H => m = ds.length - i ∧ i ≤ ds.length ∧ ∃ (Hf2 : Hp) (c : Nat) (acc : List D) (av : List V), Sim F.Z F.H0 F.G0 σ H Hf2 env c ∧ Same Hf1 Hf2 ∧ Keep F.Z H1 H ∧ H p0 = some (.lst av) ∧ RpL F.Z.toWz Hf2 acc av ∧ Hf2 p0 = none ∧ lcD tg vs tt te env Qd (ds.drop i) acc c,
    ⟨_, rfl, Nat.zero_le _, Hf1, c1, [], [], S1.laid hD _, Same.refl _, Keep.of (same_upd hD), upd_same, RpL.nil, fD.hf, q⟩, ?_⟩
  rintro i m H2 ⟨rfl, hi2, Hf2, c2, acc, av, S2, s2, k2, hD2, r2, f2, q2⟩
  by_cases hlt : i < ds.length
  · refine .inr ⟨w.goes i H2 Hf2 hlt s2 S2.sub, fun H => ∃ (Hf3 : Hp) (c : Nat) (acc : List D) (av : List V), Sim F.Z F.H0 F.G0 σ H Hf3 env c ∧ Same Hf1 Hf3 ∧ Keep F.Z H1 H ∧ H p0 = some (.lst av) ∧ RpL F.Z.toWz Hf3 acc av ∧ Hf3 p0 = none ∧ lcD tg vs tt te env Qd (ds.drop (i + 1)) acc c,
      fun H' z => ⟨_, ?_, rfl, hlt, z⟩, fun x H' y => ?_⟩
    · omega
    · obtain ⟨Hf3, d, g, e, r⟩ := w.yields i H2 x H' Hf2 hlt s2 S2.sub y
      rw [drop_cons e] at q2
      have S3 := S2.grow g
      have hD3 := g.h _ _ hD2
      have f3 : Hf3 p0 = none := by
        cases z : Hf3 p0 with
        | none => rfl
        | some o => exact (NewB.not_lst (g.new p0 (by rw [z]; exact fun z => by cases z) f2) hD2).elim
      refine Tg.use (S3.wiped vs).enter r q2 fun σ' env' B ⟨us, hσ⟩ hne q3 => ?_
      have hw : wipe σ' vs = wipe σ vs := by rw [hσ, setAll_wipe hv, wipe_wipe]
      have he : ∀ j, j ∉ vs → env'[j]? = env[j]? := fun j hj => (hne j fun z => hj (hv j z)).trans (wipeD_out hj)
      have hs : ∀ j, j ∉ vs → σ'[j]? = σ[j]? := fun j hj => by rw [← DL.wipe_out hj, hw, DL.wipe_out hj]
      have stay : ∀ {Hx Hfx : Hp} {cx : Nat}, Sim F.Z (mask H' (wipe σ vs) (wipeD env vs)) Hf3 σ' Hx Hfx env' cx → Hx p0 = some (.lst av) ∧ Hfx p0 = none := fun {Hx Hfx cx} Bx => by
        have hm : mask H' (wipe σ vs) (wipeD env vs) p0 = some (.lst av) := by rw [nm H']; exact hD3
        refine ⟨Bx.keep p0 _ hm fun z => fD.nt z.t, ?_⟩
        cases z : Hfx p0 with
        | none => rfl
        | some o => exact (NewB.not_lst (Bx.new p0 (by rw [z]; exact fun z => by cases z) f3) hm).elim
      refine ⟨hw, mask H' (wipe σ vs) (wipeD env vs), Hf3, Hf3, env', c2, noWD, _, B, xl_no, q3, fun b H4 Hf4 c4 B4 s4 k4 q4 => ?_⟩
      cases b with
      | true =>
        refine iteT ⟨mask H' (wipe σ vs) (wipeD env vs), Hf3, Hf4, env', c4, noWD, _, B4, xl_no, q4, fun v H5 Hf5 c5 d5 B5 s5 k5 r5 ⟨hl, q5⟩ => ?_⟩
        obtain ⟨hD5, f5⟩ := stay B5
        have S5 := S3.join B5 he hs
        have sx : Same Hf2 Hf5 := (g.hf.trans s4).trans s5
        refine ⟨av, hD5, by rw [← r2.length]; exact hl, Hf5, c5, acc ++ [d5], av ++ [v], S5.touch ⟨fD.h0, f5, fD.nt, fD.ns⟩ _ (fun u hu => by rw [hD5] at hu; cases hu; exact ntab_lst), s2.trans sx, ?_, upd_same, (RpL.mono sx _ _ r2).append (RpL.cons r5 RpL.nil), f5, q5⟩
        have kk : Keep F.Z H1 H5 := ((k2.trans (Keep.of g.h)).trans k4).trans k5
        exact Keep.refl.upd hD kk _
      | false =>
        obtain ⟨hD4, f4⟩ := stay B4
        exact iteF ⟨Hf4, c4, acc, av, S3.join B4 he hs, (s2.trans g.hf).trans s4, (k2.trans (Keep.of g.h)).trans k4, hD4, RpL.mono (g.hf.trans s4) _ _ r2, f4, q4⟩
  · have e : i = ds.length := by omega
    subst e
    rw [List.drop_length] at q2
    exact .inl ⟨w.stops H2 Hf2 s2 S2.sub, k p0 H2 Hf2 c2 (.lst acc) S2 (s1.trans s2) (k1.trans k2) ⟨fD.h0, f2, fD.nt, fD.ns⟩ (k1.upd hD k2) ⟨av, hD2, r2⟩ q2⟩
section
variable {X : Cx} {F : Fd} {elt target iter : Expr} {ifs : List Expr} {scope : Scope} {pos : Pos} {ti : TLD} {tt : TTD} {te : TED}
theorem do_lc (tg : Tg) {K : PySem.W.Frag} (own : List (Str × Nat)) (hc : X.calm = true) (hN : X.N.Nodup) (hi : DI X F target iter ti) (ok : BlkOk X.N X.env.scope scope own)
    (hg : InBlk X F scope fun X' _ => PG X' target (tg.g K)) (ht : InBlk X F scope fun X' F' => DTs X' F' ifs tt) (he : InBlk X F scope fun X' F' => DE X' F' elt te)
    (hv : ∀ i ∈ tg.slots, i ∈ own.map (·.2) := by decide) (hs : ∀ x, foldedSetIterable iter X.env x = pure x := by intro _; rfl) : DO X F (.ListComp elt [⟨target, iter, ifs, 0⟩] scope pos) (tLcDD tg (own.map (·.2)) ti tt te) :=
  PE.imp (pe_lc hc hN hi ok (fun s H C cl fp => hg s H C cl fp H H) (fun s H C cl fp => pts_TB (ht s H C cl fp)) (fun s H C cl fp => pe_EB (he s H C cl fp)) hs) fun σ H Q h => lc_use hv h
/-- name = [..] on one line, the name a local: the list in a slot of its own -/
theorem ds_setLc (i : Nat) {y : Str} {py spos : Pos} (tg : Tg) {K : PySem.W.Frag} (own : List (Str × Nat)) (hc : X.calm = true) (hN : X.N.Nodup) (hy : X.N[i]? = some y) (hyl : X.env.scope.names.lookup y = some .local)
    (hsw : swapsWith (.ListComp elt [⟨target, iter, ifs, 0⟩] scope pos) (some (.Name y py)) spos.line X.env = pure true) (hi : DI X F target iter ti) (ok : BlkOk X.N X.env.scope scope own)
    (hg : InBlk X F scope fun X' _ => PG X' target (tg.g K)) (ht : InBlk X F scope fun X' F' => DTs X' F' ifs tt) (he : InBlk X F scope fun X' F' => DE X' F' elt te)
    (hv : ∀ i ∈ tg.slots, i ∈ own.map (·.2) := by decide) (hs : ∀ x, foldedSetIterable iter X.env x = pure x := by intro _; rfl) :
    DS X F (.Assign [.Name y py] (.ListComp elt [⟨target, iter, ifs, 0⟩] scope pos) spos) (tSetO i (tLcDD tg (own.map (·.2)) ti tt te)) :=
  PS.imp (ps_setLc hc hN hy hyl hsw hi ok (fun s H C cl fp => hg s H C cl fp H H) (fun s H C cl fp => pts_TB (ht s H C cl fp)) (fun s H C cl fp => pe_EB (he s H C cl fp)) hs) fun D σ H ⟨Hf, env, c, Dd, S, L, h⟩ =>
    lc_use hv ⟨Hf, env, c, _, _, S, L.xl σ env, h, fun a H' Hf' c' d S' s1 _ f _ r q => L.nx _ H' Hf' _ c' (S'.setOwn f r i) s1 q⟩
end
end DL
set_option Elab.async false
set_option linter.all false
set_option maxRecDepth 100000
set_option maxHeartbeats 1000000
/-! DL11: defs with the law's state at hand. -/
namespace DL
open PySem PySem.Spec PyProof.Rows L2

structure GrowS (Z : Wz) (Hf H Hf' H' : Hp) : Prop where
  hf : Same Hf Hf'
  h : KeepX ⟨Z, true, []⟩ H H'
  sub : Same Hf' H'
  new : ∀ b, Hf' b ≠ none → Hf b = none → NewB (H b)
  stf : ∀ b, (b = Z.sa ∨ b = Z.sl) → Hf' b = none
  ntb : ∀ b ps, Hf' b = some (.tbl ps) → Hf b = some (.tbl ps)
section
variable {Z : Wd} {H0 G0 : Hp} {σ : L2.St} {H Hf H' Hf' : Hp} {env : EnvD} {c c' : Nat}
theorem keep_of {Z : Wd} {H H' : Hp} (hz : Z.sf = true) (k : KeepX ⟨Z.toWz, true, []⟩ H H') : Keep Z H H' := fun b o e n => .inr ⟨o, k b o e fun s => n ⟨hz, s.2⟩, id⟩
theorem keepX_of {Z : Wd} {H H' : Hp} (hz : Z.sf = true) (k : KeepX ⟨Z.toWz, true, []⟩ H H') : KeepX Z H H' := fun b o e n => k b o e fun s => n ⟨hz, s.2⟩
theorem Sim.growS (S : Sim Z H0 G0 σ H Hf env c) (hz : Z.sf = true) (g : GrowS Z.toWz Hf H Hf' H') (st : StAt Z.toWz H' c') : Sim Z H0 G0 σ H' Hf' env c' where
  sub := g.sub
  g0 := S.g0.trans g.hf
  new := fun b h1 h2 => by
    by_cases e : Hf b = none
    · have hb := g.new b h1 e
      cases q : H0 b with
      | none => exact .inl rfl
      | some o =>
        by_cases s : Z.S b
        · exact absurd (g.stf b s.2) h1
        · rw [S.keep b o q s] at hb
          exact hb
    · exact S.new b e h2
  keep := fun b o h n => g.h b o (S.keep b o h n) fun s => n ⟨hz, s.2⟩
  len := S.len
  val := fun i d h => let ⟨v, h1, h2⟩ := S.val i d h; ⟨v, h1, Rp.mono g.hf _ _ h2⟩
  own := fun i d h => by
    obtain ⟨a, h1, h2, h3, h4, h5⟩ := S.own i d h
    refine ⟨a, h1, ?_, h3, h4, OwnRp.mono g.hf (keepX_of hz g.h) h4 h5⟩
    cases q : Hf' a with
    | none => rfl
    | some o =>
      have z := g.new a (by rw [q]; exact fun z => by cases z) h2
      cases d with
      | lst ds => obtain ⟨vs, e, _⟩ := h5; rw [e] at z; rcases z with z | ⟨xs, z⟩ <;> cases z
      | dic t ks ds => cases t <;> (obtain ⟨kvs, e, _⟩ := h5; rw [e] at z; rcases z with z | ⟨xs, z⟩ <;> cases z)
      | _ => exact h5.elim
  inj := S.inj
  st := fun _ => st
  stf := fun b s => g.stf b s.2
  tab := tabs_keep (fun b u e it => g.h b u e fun s => by
    obtain ⟨_, _, _, _, a1, a2, _⟩ := S.st hz
    rcases s.2 with z | z
    · replace z : b = Z.sa := z
      rw [z, a1] at e; cases e; exact ntab_dK it
    · replace z : b = Z.sl := z
      rw [z, a2] at e; cases e; exact ntab_lst it) S.tab
  ntb := fun b ps h => S.ntb b ps (g.ntb b ps h)
theorem Sim.backS (S : Sim Z H0 G0 σ H Hf env c) (hz : Z.sf = true) : GrowS Z.toWz G0 H0 Hf H :=
  ⟨S.g0, fun b o h n => S.keep b o h fun s => n ⟨rfl, s.2⟩, S.sub, S.new, fun b s => S.stf b ⟨hz, s⟩, S.ntb⟩
end

/-- a promise over trees of a def that may draw: arguments, the count of draws, wanted exception, wanted value -/
abbrev PFS := List D → Nat → WD → (D → Nat → Prop) → Prop
def spS (K : PySem.W.Frag) (mg : Str → Option Value) (f : PFS) : Sp := fun vs H Q E => ∃ (Z : Wz) (ds : List D) (G : Hp) (c : Nat) (W : WD) (R : D → Nat → Prop), Z.K = K ∧ Z.mg = mg ∧ Same G H ∧ RpL Z G ds vs ∧ StAt Z H c ∧ (∀ b, (b = Z.sa ∨ b = Z.sl) → G b = none) ∧ f ds c W R ∧
  (∀ (v : V) (H' G' : Hp) (d : D) (c' : Nat), GrowS Z G H G' H' → StAt Z H' c' → Rp Z G' d v → R d c' → Q v H') ∧
  (∀ (cls : Value) (dx : Option Addr) (H' G' : Hp) (d : D) (c' : Nat), GrowS Z G H G' H' → StAt Z H' c' → IsX Z G' cls dx d → W d c' → E cls dx H')
section
variable {P : Program} {w : World} {K : PySem.W.Frag} {mg : Str → Option Value} {base : Heap}
/-- the frame of a def with the state at hand -/
abbrev fdS (K : PySem.W.Frag) (mg : Str → Option Value) (sa sl sc : Addr) (H G : Hp) (W : WX) : Fd := ⟨⟨⟨K, mg, sa, sl, sc⟩, true, []⟩, H, G, W⟩
theorem okS {x qual : Str} {st : Stmt} {f : Addr} {fd : FuncData} {N ps : List Str} {k : Nat} {pf : PFS} (Fn : Fun K x qual st f fd) (S : FnScope N ps (defScope st)) (len : ∀ ds c W R, pf ds c W R → ds.length = ps.length)
    (hbody : ∀ (X : Cx) (F : Fd) (cdv : Value) (A : Around) (outer : List Env) (s : Shared) (H G : Hp) (sa sl sc : Addr) (E : XK), X = cxOf (L2.CX P w) P w K mg base N qual (defScope st) f cdv A outer s H E → F = fdS K mg sa sl sc H G (fun cls d _ H => E cls d H) →
      Takes X F.W → Room k X.A → ∃ t, DSs X F (defBody st) t ∧ ∀ (ds : List D) (c : Nat) (W : WD) (R : D → Nat → Prop), pf ds c W R → t { nx := fun _ c => R .non c, rt := R, ex := fun d _ c => W d c } (envAt N.length ds) c) :
    FnOk P w K mg base (L2.CX P w) (k + 1) f fd ps (spS K mg pf) := by
  refine Fn.okX S (fun vs H Q E h => ?_) fun cdv A outer s H vs Q E hr h => ?_
  · obtain ⟨Z, ds, G, c, W, R, _, _, _, r, _, _, hp, _⟩ := h
    rw [← r.length]
    exact len _ _ _ _ hp
  · obtain ⟨⟨K', mg', sa, sl, sc⟩, ds, G, c, W, R, e1, e2, g, r, st, sf, hp, kq, kx⟩ := h
    cases e1
    cases e2
    obtain ⟨t, ht, hq⟩ := hbody _ (fdS K' mg' sa sl sc H G (fun cls d _ H => E cls d H)) cdv A outer s H G sa sl sc E rfl rfl (takes_of rfl rfl rfl rfl) hr
    refine ⟨_, ht, G, envAt N.length ds, c, _, Sim.begin (Z := ⟨⟨K', mg', sa, sl, sc⟩, true, []⟩) g r (fun _ => st) (fun b s => sf b s.2) (fun _ z => absurd z List.not_mem_nil), ?_, hq ds c W R hp⟩
    refine ⟨fun σ' H' Hf' env' c' S' _ q => ?_, fun σ' H' Hf' env' c' d v S' _ r' q => ?_, fun σ' H' Hf' env' c' S' _ q => q.elim, fun σ' H' Hf' env' c' S' _ q => q.elim, fun σ' H' Hf' env' c' cls dx d S' x' q => ?_⟩
    · exact kq .non H' Hf' .non c' (S'.backS rfl) (S'.st rfl) (rp_non.mpr rfl) q
    · exact kq v H' Hf' d c' (S'.backS rfl) (S'.st rfl) r' q
    · exact kx cls dx H' Hf' d c' (S'.backS rfl) (S'.st rfl) x' q
end
/-! ### a call of such a def -/
@[simp] def tDrawn (f : PFS) (t : TAD) : TED := fun env c W Q => t env c W fun ds c1 => f ds c1 W Q
section
variable {X : Cx} {F : Fd} {k : Nat} {f : Addr} {fd : FuncData} {ps : List Str} {pf : PFS} {x : Str} {p pos : Pos} {e : Expr} {es : List Expr} {t : TAD}
theorem callS_use {σ : L2.St} {H : Hp} {Q : VK} {K : PySem.W.Frag} {mg : Str → Option Value} (hz : F.Z.sf = true) (hK : F.Z.K = K) (hM : F.Z.mg = mg) (h : liftE F (tDrawn pf t) σ H Q) : tCallS (spS K mg pf) (WE F.W) (liftA F t) σ H Q := by
  obtain ⟨Hf, env, c, Wd, Qd, S, x, ht, k⟩ := h
  refine ⟨Hf, env, c, Wd, _, S, x, ht, fun vs H1 Hf1 c1 ds S1 s1 k1 r1 q1 => ?_⟩
  refine ⟨F.Z.toWz, ds, Hf1, c1, _, _, hK, hM, S1.sub, r1, S1.st hz, fun b s => S1.stf b ⟨hz, s⟩, q1, fun v H' G' d c' g st r q => ?_, fun cls dx H' G' d c' g st i q => ?_⟩
  · exact k v H' G' c' d (S1.growS hz g st) (s1.trans g.hf) (k1.trans (keep_of hz g.h)) r q
  · exact x cls dx H' G' c' d (S1.growS hz g st) i q
theorem de_callS (Fk : FnOk X.prog X.w X.K X.mg X.base (L2.CX X.prog X.w) k f fd ps (spS X.K X.mg pf)) (hr : Room k X.A) (hm : X.mg x = some (.ref f)) (hk : PySem.W.keepIn X.K (.ref f) = true) (hb : Binds X.K fd ps []) (tk : Takes X F.W)
    (ha : DA X F (e :: es) t) (hz : F.Z.sf = true := by rfl) (hg : Gl X x := by rfl) (hK : F.Z.K = X.K := by rfl) (hM : F.Z.mg = X.mg := by rfl) (hdb : (x == ("__debug__" : Str)) = false := by decide) (he : starEach (e :: es) X.env = (false, eval e X.env) :: starEach es X.env := by rfl)
    (hpl : (backTo pos (starEach es X.env)).any (·.1) = false := by rfl) : DE X F (.Call (.Name x p) (e :: es) [] pos) (tDrawn pf t) :=
  PE.imp (pe_callS Fk hr hg hm hk hb (fun σ => passAt tk σ) ha hdb he hpl) fun σ H Q h => callS_use hz hK hM h
end
end DL
set_option Elab.async false
set_option linter.all false
set_option maxRecDepth 100000
set_option maxHeartbeats 1000000
/-! DL12: _law_draw, by hand. -/
namespace DL
open PySem PySem.Spec PyProof.Rows L2

/-! ### lists of ints, as data -/
def pyInts (ls : List Int) : PyData := .list (ls.map .int)
theorem pyInts_lay : ∀ ls : List Int, PyData.canLayAll0 (ls.map .int) = true
  | [] => by simp [PyData.canLayAll0]
  | z :: zs => by simp [PyData.canLayAll0, PyData.canLay0, pyInts_lay zs]
theorem pyInts_depth : ∀ ls : List Int, PyData.depthAll (ls.map .int) = 0
  | [] => by simp [PyData.depthAll]
  | z :: zs => by
    have h1 := pyInts_depth zs
    simp only [List.map_cons, PyData.depthAll, PyData.depth, h1]
    omega
theorem pyInts_shaped (ls : List Int) : SeqAt.shaped (pyInts ls) = true := by
  have h1 := pyInts_depth ls
  have h2 : PyData.depth (pyInts ls) ≤ 64 := by
    simp only [pyInts, PyData.depth, h1]
    omega
  show (PyData.canLay0 (pyInts ls) && decide (PyData.depth (pyInts ls) ≤ 64)) = true
  rw [Bool.and_eq_true]
  exact ⟨by simp only [pyInts, PyData.canLay0]; exact pyInts_lay ls, decide_eq_true h2⟩
theorem pyInts_ne (ls : List Int) : (!PyData.eqv (pyInts ls) (pyInts [])) = !ls.isEmpty := by
  cases ls with
  | nil => simp [pyInts, PyData.eqv, PyData.eqvAll]
  | cons a r => simp [pyInts, PyData.eqv, PyData.eqvAll]
theorem dp_ints {K : PySem.W.Frag} {H : Hp} {a : Addr} {ls : List Int} (h : H a = some (.lst (ls.map V.int))) : Dp K H (.ref a) (pyInts ls) := by
  refine Dp.lst (SqL.of h) ?_
  clear h
  induction ls with
  | nil => exact DpAll.nil
  | cons z r ih => exact DpAll.cons (Dp.int z) ih

/-! ### the readings -/
def rDct : R2 := fun x y H Q => ∃ a v, x = .ref a ∧ DGet H a y (some v) ∧ Q v H
def tSt (k : Str) : TE := tOp rDct (tVar 0) (tC (.str k))
def rIntC : List V → Hp → VK → Prop := fun xs H Q => (∃ i, xs = [.int i] ∧ Q (.int i) H) ∨ ∃ k, xs = [.bl k] ∧ Q (.int (if k then 1 else 0)) H
def tInt (t : TE) : TE := tCB rIntC (tCons t tNil)
def rGtS : R2 := rI0 fun i j => .bl (decide (j < i))
def rAddI : R2 := rI0 fun i j => .int (i + j)
def rMulI : R2 := rI CMul fun i j => .int (i * j)
def rModI : R2 := rI (fun _ j => 0 < j) fun i j => .int (i % j)
def rDivI : R2 := rI CDiv fun i j => .int (i / j)
def rPowI : R2 := rI CPow fun i j => .int (i ^ j.toNat)
def rLenQ (K : PySem.W.Frag) : List V → Hp → VK → Prop := fun xs H Q => ∃ p ys, xs = [.ref p] ∧ (SqL K H p ys ∨ SqT K H p ys) ∧ Q (.int ys.length) H
def tDrawW (K : PySem.W.Frag) : TS := tWhile (tAnd (tTest (tOp rEq (tSt "left") (tC (.int 0)))) (tTest (tOp (rNeD K) (tSt "large") (tLst tNil)))) (tAsg (tBM K "list" rPopAt (tSt "large") (tCons (tC (.int 0)) tNil)) (gSub (tVar 0) (tC (.str "left")) rSetD))
def tDrawI : TS := tIfS (tTest (tOp rGtS (tSt "left") (tC (.int 0)))) (tSeq (tAsg (tOp rModI (tInt (tSt "left")) (tVar 1)) (gName 2)) (tSeq (tAsg (tOp rDivI (tSt "left") (tVar 1)) (gSub (tVar 0) (tC (.str "left")) rSetD)) (tRet (tVar 2)))) tNext
def tDrawT : TS := tSeq (tAsg (tOp rAddI (tSt "turn") (tC (.int 1))) (gName 3)) (tAsg (tVar 3) (gSub (tVar 0) (tC (.str "turn")) rSetD))
def tDrawC (K : PySem.W.Frag) : TS := tAsg (tIf (tTest (tOp (rNeD K) (tSt "cells") (tLst tNil))) (tOp (rIx K) (tSt "cells") (tOp rModI (tInt (tVar 3)) (tCB (rLenQ K) (tCons (tSt "cells") tNil)))) (tC (.int 0))) (gName 4)
def tDrawM : TS := tAsg (tOp rModI (tInt (tOp rPowI (tOp rAddI (tOp rAddI (tOp rModI (tInt (tVar 4)) (tC (.int 2147483563))) (tOp rMulI (tC (.int 40692)) (tVar 3))) (tC (.int 24681))) (tC (.int 3)))) (tC (.int 2147483629))) (gName 5)
def tDrawR : TS := tRet (tOp rModI (tInt (tOp rDivI (tOp rModI (tInt (tOp rPowI (tOp rAddI (tVar 5) (tOp rMulI (tC (.int 104917)) (tVar 3))) (tC (.int 5)))) (tC (.int 2147483579))) (tC (.int 29)))) (tVar 1))
def tDraw (K : PySem.W.Frag) : TS := tSeq (tDrawW K) (tSeq tDrawI (tSeq (tAsg (tOp rAddI (tSt "turn") (tC (.int 1))) (gName 3)) (tSeq (tAsg (tVar 3) (gSub (tVar 0) (tC (.str "turn")) rSetD)) (tSeq (tDrawC K) (tSeq tDrawM tDrawR)))))
/-- the promise: any number below n -/
def drawPF : PFS := fun ds c _ R => ∃ n : Int, ds = [.st, .int n] ∧ 0 < n ∧ n < 1073741824 ∧ c < 2 ^ 40 ∧ ∀ v : Int, 0 ≤ v → v < n → R (.int v) (c + 1)

/-- the state by its parts -/
structure StX (Z : Wz) (H : Hp) (l t : Int) (ls cs : List Int) : Prop where
  a : H Z.sa = some (.dK [(.inr "large", .ref Z.sl), (.inr "cells", .ref Z.sc), (.inr "left", .int l), (.inr "turn", .int t)])
  l : H Z.sl = some (.lst (ls.map V.int))
  c : H Z.sc = some (.lst (cs.map V.int))
  n1 : Z.sa ≠ Z.sl
  n2 : Z.sa ≠ Z.sc
  n3 : Z.sl ≠ Z.sc
theorem val_pos {k : Key} {v : V} {r : List (Key × V)} : some v = valV ((k, v) :: r) k := by rw [valV_pos rfl]
theorem big3 {w t : Int} (h1 : 0 ≤ w) (h2 : w < 2147483563) (h3 : 0 ≤ t) (h4 : t < 2 ^ 41) : (w + 40692 * (t + 1) + 24681).natAbs < 2 ^ 64 := by omega
theorem big5 {w t : Int} (h1 : 0 ≤ w) (h2 : w < 2147483629) (h3 : 0 ≤ t) (h4 : t < 2 ^ 41) : (w + 104917 * (t + 1)).natAbs < 2 ^ 64 := by omega
section
variable {Z : Wz} {H H' : Hp} {l t : Int} {ls cs : List Int}
theorem kLC : ¬ ((.inr "large" : Key) = .inr "cells") := by decide +kernel
theorem kLl : ¬ ((.inr "large" : Key) = .inr "left") := by decide +kernel
theorem kLt : ¬ ((.inr "large" : Key) = .inr "turn") := by decide +kernel
theorem kCl : ¬ ((.inr "cells" : Key) = .inr "left") := by decide +kernel
theorem kCt : ¬ ((.inr "cells" : Key) = .inr "turn") := by decide +kernel
theorem klt : ¬ ((.inr "left" : Key) = .inr "turn") := by decide +kernel
theorem ktl : ¬ ((.inr "turn" : Key) = .inr "left") := by decide +kernel
theorem StX.mono (S : StX Z H l t ls cs) (s : Same H H') : StX Z H' l t ls cs := ⟨s _ _ S.a, s _ _ S.l, s _ _ S.c, S.n1, S.n2, S.n3⟩
theorem StX.gLarge (S : StX Z H l t ls cs) {Q : VK} {σ : L2.St} (h0 : σ[0]? = some (some (.ref Z.sa))) (q : Q (.ref Z.sl) H) : tSt "large" σ H Q :=
  ⟨_, h0, Z.sa, .ref Z.sl, rfl, .inl ⟨_, .inr "large", .inl S.a, rfl, val_pos⟩, q⟩
theorem StX.gCells (S : StX Z H l t ls cs) {Q : VK} {σ : L2.St} (h0 : σ[0]? = some (some (.ref Z.sa))) (q : Q (.ref Z.sc) H) : tSt "cells" σ H Q :=
  ⟨_, h0, Z.sa, .ref Z.sc, rfl, .inl ⟨_, .inr "cells", .inl S.a, rfl, by rw [valV_neg kLC]; exact val_pos⟩, q⟩
theorem StX.gLeft (S : StX Z H l t ls cs) {Q : VK} {σ : L2.St} (h0 : σ[0]? = some (some (.ref Z.sa))) (q : Q (.int l) H) : tSt "left" σ H Q :=
  ⟨_, h0, Z.sa, .int l, rfl, .inl ⟨_, .inr "left", .inl S.a, rfl, by rw [valV_neg kLl, valV_neg kCl]; exact val_pos⟩, q⟩
theorem StX.gTurn (S : StX Z H l t ls cs) {Q : VK} {σ : L2.St} (h0 : σ[0]? = some (some (.ref Z.sa))) (q : Q (.int t) H) : tSt "turn" σ H Q :=
  ⟨_, h0, Z.sa, .int t, rfl, .inl ⟨_, .inr "turn", .inl S.a, rfl, by rw [valV_neg kLt, valV_neg kCt, valV_neg klt]; exact val_pos⟩, q⟩
theorem put_left (x y : V) (l t l' : V) : putK [(.inr "large", x), (.inr "cells", y), (.inr "left", l), (.inr "turn", t)] (.inr "left") l' = ([(.inr "large", x), (.inr "cells", y), (.inr "left", l'), (.inr "turn", t)] : List (Key × V)) := by
  unfold putK
  rw [if_pos (by simp)]
  simp only [List.map_cons, List.map_nil, if_neg kLl, if_neg kCl, if_neg ktl, if_true]
theorem put_turn (x y : V) (l t t' : V) : putK [(.inr "large", x), (.inr "cells", y), (.inr "left", l), (.inr "turn", t)] (.inr "turn") t' = ([(.inr "large", x), (.inr "cells", y), (.inr "left", l), (.inr "turn", t')] : List (Key × V)) := by
  unfold putK
  rw [if_pos (by simp)]
  simp only [List.map_cons, List.map_nil, if_neg kLt, if_neg kCt, if_neg klt, if_true]
theorem keep_sa {o : HO} : KeepX ⟨Z, true, []⟩ H (upd H Z.sa o) := fun b u e n => by
  rw [upd_ne fun z => n ⟨rfl, .inl z⟩]
  exact e
theorem keep_sl {o : HO} : KeepX ⟨Z, true, []⟩ H (upd H Z.sl o) := fun b u e n => by
  rw [upd_ne fun z => n ⟨rfl, .inr z⟩]
  exact e
theorem StX.pLeft (S : StX Z H l t ls cs) {σ : L2.St} {Q : L2.St → Hp → Prop} {l' : Int} (h0 : σ[0]? = some (some (.ref Z.sa))) (q : ∀ H', StX Z H' l' t ls cs → KeepX ⟨Z, true, []⟩ H H' → Q σ H') : gSub (tVar 0) (tC (.str "left")) rSetD (.int l') σ H Q := by
  refine ⟨_, h0, Z.sa, _, rfl, DPut.k (k := .inr "left") S.a (show 4 < sizeLine by rw [sizeLine_eq]; decide), ?_⟩
  rw [put_left]
  refine q _ ⟨upd_same, ?_, ?_, S.n1, S.n2, S.n3⟩ keep_sa
  · rw [upd_ne S.n1.symm]; exact S.l
  · rw [upd_ne S.n2.symm]; exact S.c
theorem StX.pTurn (S : StX Z H l t ls cs) {σ : L2.St} {Q : L2.St → Hp → Prop} {t' : Int} (h0 : σ[0]? = some (some (.ref Z.sa))) (q : ∀ H', StX Z H' l t' ls cs → KeepX ⟨Z, true, []⟩ H H' → Q σ H') : gSub (tVar 0) (tC (.str "turn")) rSetD (.int t') σ H Q := by
  refine ⟨_, h0, Z.sa, _, rfl, DPut.k (k := .inr "turn") S.a (show 4 < sizeLine by rw [sizeLine_eq]; decide), ?_⟩
  rw [put_turn]
  refine q _ ⟨upd_same, ?_, ?_, S.n1, S.n2, S.n3⟩ keep_sa
  · rw [upd_ne S.n1.symm]; exact S.l
  · rw [upd_ne S.n2.symm]; exact S.c
theorem StX.pop {z : Int} {r : List Int} {K : PySem.W.Frag} (S : StX Z H l t (z :: r) cs) {σ : L2.St} {Q : VK} (h0 : σ[0]? = some (some (.ref Z.sa))) (q : ∀ H', StX Z H' l t r cs → KeepX ⟨Z, true, []⟩ H H' → Q (.int z) H') :
    tBM K "list" rPopAt (tSt "large") (tCons (tC (.int 0)) tNil) σ H Q := by
  refine S.gLarge h0 ⟨.inl ⟨rfl, _, SqL.of S.l⟩, Z.sl, _, 0, 0, .int z, rfl, rfl, S.l, by decide, by decide, seqIndex_of (by decide) (by simp), rfl, ?_⟩
  refine q _ ⟨?_, ?_, ?_, S.n1, S.n2, S.n3⟩ keep_sl
  · rw [upd_ne S.n1]; exact S.a
  · rw [upd_same]; rfl
  · rw [upd_ne S.n3.symm]; exact S.c
/-- state[k] != [] -/
theorem ne_nil {K : PySem.W.Frag} {a : Addr} {xs : List Int} {σ : L2.St} {Q : Bool → Hp → Prop} {te : TE} (h : ∀ Q', Q' (.ref a) H → te σ H Q') (hx : H a = some (.lst (xs.map V.int))) (q : ∀ H', Same H H' → Q (!xs.isEmpty) H') : tTest (tOp (rNeD K) te (tLst tNil)) σ H Q := by
  refine h _ ⟨Nat.zero_le _, fun p hp => ?_⟩
  have s : Same H (upd H p (.lst [])) := same_upd hp
  refine ⟨pyInts xs, pyInts [], dp_ints (s _ _ hx), dp_ints (ls := []) upd_same, pyInts_shaped _, pyInts_shaped _, _, rfl, ?_⟩
  rw [pyInts_ne]
  exact q _ s
theorem keepS (s : Same H H') : KeepX ⟨Z, true, []⟩ H H' := KeepX.of s
end
/-- the frame of a draw -/
theorem draw_run {K : PySem.W.Frag} {Z : Wz} {H : Hp} {l t n : Int} {ls cs : List Int} {D0 : Ends} {s2 s3 s4 s5 : Option V} (S : StX Z H l t ls cs) (hl : 0 ≤ l) (ht : 0 ≤ t) (htb : t < 2 ^ 41) (hls : ∀ z ∈ ls, 0 ≤ z) (hcs : ∀ z ∈ cs, 0 ≤ z) (hn : 0 < n) (hn2 : n < 1073741824)
    (q : ∀ (v l' t' : Int) (ls' : List Int) (H' : Hp), 0 ≤ v → v < n → StX Z H' l' t' ls' cs → 0 ≤ l' → 0 ≤ t' → t' ≤ t + 1 → (∀ z ∈ ls', 0 ≤ z) → KeepX ⟨Z, true, []⟩ H H' → D0.rt (.int v) H') :
    tDraw K D0 [some (.ref Z.sa), some (.int n), s2, s3, s4, s5] H := by
  have behind : ∀ (H1 : Hp) (l1 : Int) (ls1 : List Int), StX Z H1 l1 t ls1 cs → 0 ≤ l1 → (∀ z ∈ ls1, 0 ≤ z) → KeepX ⟨Z, true, []⟩ H H1 →
      (tSeq tDrawI (tSeq (tAsg (tOp rAddI (tSt "turn") (tC (.int 1))) (gName 3)) (tSeq (tAsg (tVar 3) (gSub (tVar 0) (tC (.str "turn")) rSetD)) (tSeq (tDrawC K) (tSeq tDrawM tDrawR))))) D0 [some (.ref Z.sa), some (.int n), s2, s3, s4, s5] H1 := by
    intro H1 l1 ls1 S1 hl1 hls1 k1
    have e0 : ([some (V.ref Z.sa), some (V.int n), s2, s3, s4, s5] : L2.St)[0]? = some (some (.ref Z.sa)) := rfl
    refine S1.gLeft e0 ⟨l1, 0, rfl, rfl, decide (0 < l1), rfl, ?_⟩
    by_cases hp : 0 < l1
    · rw [decide_eq_true hp]
      refine iteT ?_
      refine S1.gLeft e0 (.inl ⟨l1, rfl, _, rfl, l1, n, rfl, rfl, hn, ?_⟩)
      have e1 : ([some (V.ref Z.sa), some (V.int n), some (V.int (l1 % n)), s3, s4, s5] : L2.St)[0]? = some (some (.ref Z.sa)) := rfl
      refine S1.gLeft e1 ⟨_, rfl, l1, n, rfl, rfl, ⟨hn, hn2⟩, ?_⟩
      refine S1.pLeft e1 fun H2 S2 k2 => ⟨_, rfl, ?_⟩
      exact q (l1 % n) (l1 / n) t ls1 H2 (Int.emod_nonneg _ (by omega)) (Int.emod_lt_of_pos _ hn) S2 (Int.ediv_nonneg hl1 (by omega)) ht (by omega) hls1 (k1.trans k2)
    · rw [decide_eq_false hp]
      refine iteF ?_
      refine S1.gTurn e0 ⟨t, 1, rfl, rfl, ?_⟩
      have e1 : ([some (V.ref Z.sa), some (V.int n), s2, some (V.int (t + 1)), s4, s5] : L2.St)[0]? = some (some (.ref Z.sa)) := rfl
      refine ⟨_, rfl, S1.pTurn e1 fun H2 S2 k2 => ?_⟩
      have behind2 : ∀ (H3 : Hp) (w : Int), StX Z H3 l1 (t + 1) ls1 cs → 0 ≤ w → KeepX ⟨Z, true, []⟩ H H3 → (tSeq tDrawM tDrawR) D0 [some (.ref Z.sa), some (.int n), s2, some (.int (t + 1)), some (.int w), s5] H3 := by
        intro H3 w S3 hw k3
        have hm0 : 0 ≤ w % 2147483563 := Int.emod_nonneg _ (by omega)
        have hm1 : w % 2147483563 < 2147483563 := Int.emod_lt_of_pos _ (by omega)
        refine ⟨_, rfl, .inl ⟨w, rfl, w, 2147483563, rfl, rfl, (show (0 : Int) < 2147483563 by decide), _, rfl, 40692, t + 1, rfl, rfl, .inl ⟨by decide, by decide⟩, _, _, rfl, rfl, _, _, rfl, rfl, _, _, rfl, rfl, ⟨by decide, by decide, big3 hm0 hm1 ht htb⟩, .inl ⟨_, rfl, _, _, rfl, rfl, (show (0 : Int) < 2147483629 by decide), ?_⟩⟩⟩
        refine ⟨_, rfl, _, rfl, 104917, t + 1, rfl, rfl, .inl ⟨by decide, by decide⟩, _, _, rfl, rfl, _, _, rfl, rfl, ⟨by decide, by decide, big5 (Int.emod_nonneg _ (by omega)) (Int.emod_lt_of_pos _ (by omega)) ht htb⟩, .inl ⟨_, rfl, _, _, rfl, rfl, (show (0 : Int) < 2147483579 by decide), _, _, rfl, rfl, ⟨by decide, by decide⟩, .inl ⟨_, rfl, _, rfl, _, n, rfl, rfl, hn, ?_⟩⟩⟩
        exact q _ l1 (t + 1) ls1 H3 (Int.emod_nonneg _ (by omega)) (Int.emod_lt_of_pos _ hn) S3 hl1 (by omega) (by omega) hls1 k3
      have e2 : ([some (V.ref Z.sa), some (V.int n), s2, some (V.int (t + 1)), s4, s5] : L2.St)[0]? = some (some (.ref Z.sa)) := rfl
      refine ne_nil (K := K) (te := tSt "cells") (fun Q' q' => S2.gCells e2 q') S2.c fun H3 s3' => ?_
      have S3 := S2.mono s3'
      have k3 : KeepX ⟨Z, true, []⟩ H H3 := (k1.trans k2).trans (keepS s3')
      cases hc : cs with
      | nil => exact iteF (behind2 H3 0 S3 (by decide) k3)
      | cons z r =>
        refine iteT (S3.gCells e2 ⟨_, rfl, .inl ⟨t + 1, rfl, S3.gCells e2 ⟨Z.sc, _, rfl, .inl (SqL.of S3.c), ?_⟩⟩⟩)
        rw [List.length_map]
        have hlen : 0 < cs.length := by rw [hc]; simp
        have i0 : 0 ≤ (t + 1) % (cs.length : Int) := Int.emod_nonneg _ (by omega)
        have i1 : (t + 1) % (cs.length : Int) < cs.length := Int.emod_lt_of_pos _ (by omega)
        have hj : ((t + 1) % (cs.length : Int)).toNat < cs.length := by omega
        have eg : (cs.map V.int)[((t + 1) % (cs.length : Int)).toNat]? = some (.int (cs[((t + 1) % (cs.length : Int)).toNat])) := by
          rw [List.getElem?_map, List.getElem?_eq_getElem hj]; rfl
        have ea := atI_nat eg
        rw [Int.toNat_of_nonneg i0] at ea
        refine ⟨_, _, rfl, rfl, by omega, .inl ⟨Z.sc, _, _, _, rfl, rfl, SqL.of S3.c, ea, ?_⟩⟩
        exact behind2 H3 _ S3 (hcs _ (List.getElem_mem hj)) k3
  refine ⟨fun m σ H1 => σ = [some (.ref Z.sa), some (.int n), s2, s3, s4, s5] ∧ ∃ (l1 : Int) (ls1 : List Int), m = ls1.length ∧ StX Z H1 l1 t ls1 cs ∧ 0 ≤ l1 ∧ (∀ z ∈ ls1, 0 ≤ z) ∧ KeepX ⟨Z, true, []⟩ H H1, ⟨ls.length, rfl, l, ls, rfl, S, hl, hls, KeepX.refl⟩, ?_⟩
  rintro m σ H1 ⟨rfl, l1, ls1, rfl, S1, hl1, hls1, k1⟩
  have e0 : ([some (V.ref Z.sa), some (V.int n), s2, s3, s4, s5] : L2.St)[0]? = some (some (.ref Z.sa)) := rfl
  refine S1.gLeft e0 ⟨rfl, decide (V.int l1 = V.int 0), rfl, ?_⟩
  by_cases hz : l1 = 0
  · rw [decide_eq_true (by rw [hz])]
    refine iteT ?_
    refine ne_nil (K := K) (te := tSt "large") (fun Q' q' => S1.gLarge e0 q') S1.l fun H2 s2' => ?_
    have S2 := S1.mono s2'
    cases ls1 with
    | nil => exact iteF (behind H2 l1 [] S2 hl1 hls1 (k1.trans (keepS s2')))
    | cons z r =>
      refine iteT ⟨fun σ' H' => σ' = [some (.ref Z.sa), some (.int n), s2, s3, s4, s5] ∧ ∃ (l1 : Int), StX Z H' l1 t r cs ∧ 0 ≤ l1 ∧ KeepX ⟨Z, true, []⟩ H H', fun σ' H' ⟨e, l2, S3, h3, k3⟩ => ⟨r.length, by simp, e, l2, r, rfl, S3, h3, fun z hz => hls1 z (List.mem_cons_of_mem _ hz), k3⟩, ?_⟩
      refine S2.pop e0 fun H3 S3 k3 => ?_
      refine S3.pLeft e0 fun H4 S4 k4 => ?_
      exact ⟨rfl, z, S4, hls1 z List.mem_cons_self, ((k1.trans (keepS s2')).trans k3).trans k4⟩
  · rw [decide_eq_false (fun e => hz (by cases e; rfl))]
    exact iteF (iteF (behind H1 l1 ls1 S1 hl1 hls1 k1))
end DL
namespace DL
open PySem PySem.Spec PyProof.Rows L2
section
variable {P : Program} {w : World} {K : PySem.W.Frag} {mg : Str → Option Value} {base : Heap}
theorem ok_draw {x qual : Str} {st : Stmt} {f : Addr} {fd : FuncData} {N ps : List Str} {k : Nat} (Fn : Fun K x qual st f fd) (S : FnScope N ps (defScope st)) (hps : ps.length = 2) (hN : N.length = 6)
    (hbody : ∀ (X : Cx) (cdv : Value) (A : Around) (outer : List Env) (s : Shared) (H : Hp) (E : XK), X = cxOf (L2.CX P w) P w K mg base N qual (defScope st) f cdv A outer s H E → Room k X.A → PSs X (defBody st) (tDraw X.K)) :
    FnOk P w K mg base (L2.CX P w) (k + 1) f fd ps (spS K mg drawPF) := by
  refine Fn.okX S (fun vs H Q E h => ?_) fun cdv A outer s H vs Q E hr h => ?_
  · obtain ⟨Z, ds, G, c, W, R, _, _, _, r, _, _, ⟨n, e, _⟩, _⟩ := h
    rw [← r.length, e, hps]
    rfl
  · obtain ⟨Z, ds, G, c, W, R, e1, e2, g, r, st, sf, ⟨n, e, hn, hn2, hc, hR⟩, kq, kx⟩ := h
    refine ⟨_, hbody _ cdv A outer s H E rfl hr, ?_⟩
    subst e
    obtain ⟨v, vs1, rfl, r1, r2⟩ := rpL_cons.mp r
    obtain ⟨v2, vs2, rfl, r3, r4⟩ := rpL_cons.mp r2
    cases rpL_nil.mp r4
    cases rp_st.mp r1
    cases rp_int.mp r3
    obtain ⟨l, t, ls, cs, a1, a2, a3, hl, ht, htc, hls, hcs, hlen, n1, n2, n3⟩ := st
    have es : L2.start N [V.ref Z.sa, V.int n] = [some (.ref Z.sa), some (.int n), none, none, none, none] := by
      unfold L2.start
      rw [hN]
      rfl
    rw [es]
    refine draw_run (Z := Z) ⟨a1, a2, a3, n1, n2, n3⟩ hl ht (by omega) hls hcs hn hn2 fun v l' t' ls' H' hv0 hv1 S' hl' ht' ht2 hls' kp => ?_
    refine kq (.int v) H' G (.int v) (c + 1) ⟨Same.refl _, kp, fun b o e => ?_, fun b h1 h2 => absurd h2 h1, sf, fun _ _ h => h⟩ ⟨l', t', ls', cs, S'.a, S'.l, S'.c, hl', ht', by omega, hls', hcs, hlen, n1, n2, n3⟩ (rp_int.mpr rfl) (hR v hv0 hv1)
    exact kp b o (g b o e) fun s => by
      have z := sf b s.2
      rw [e] at z
      cases z
end
end DL
set_option Elab.async false
set_option linter.all false
set_option maxRecDepth 100000
set_option maxHeartbeats 1000000
/-! DL13: _law_begun. -/
namespace DL
open PySem PySem.Spec PyProof.Rows L2

/-- a list in a slot of its own stands from now on -/
theorem Sim.freezeL {Z : Wd} {H0 G0 : Hp} {σ : L2.St} {H Hf : Hp} {env : EnvD} {c : Nat} (S : Sim Z H0 G0 σ H Hf env c) {i : Nat} {ds : List D} (e : env[i]? = some (Slot.own (.lst ds))) :
    ∃ (a : Addr) (vs : List V), σ[i]? = some (some (.ref a)) ∧ H a = some (.lst vs) ∧ Fresh Z H0 σ Hf (env.set i .un) a ∧ RpL Z.toWz Hf ds vs ∧ Sim Z H0 G0 σ H (upd Hf a (.lst vs)) (env.set i (.val (.lst ds))) c := by
  obtain ⟨a, e1, h2, h3, h4, h5⟩ := S.own i _ e
  obtain ⟨S1, f, r⟩ := S.letGo e e1
  obtain ⟨vs, g1, g2⟩ := id r
  have S2 := (S1.freeze f (.lst vs) (fun u hu => OwnRp.ntab hu r) (fun _ z => by cases z)).set (own_rp (H' := H) f.hf r (.lst vs) (.inl ⟨vs, rfl, g1⟩)) i
  rw [set_same e1, List.set_set, upd_id g1] at S2
  exact ⟨a, vs, e1, g1, f, g2, S2⟩

@[simp] def tAbsC : TED := tLcDD (.one 3) [3] (tItD (tVarD 0)) tYesD (tCallD absD (tConsD (tVarB 3) tNilD))
@[simp] def tBigC : TED := tOpD powD (tCD (.int 10)) (tCD (.int 18))
@[simp] def tLargeC : TED := tLcDD (.one 3) [3] (tItD (tVarD 1)) (tTestD (tOpD geD (tVarB 3) tBigC)) (tOpD subD (tVarB 3) tBigC)
theorem pow18 : CPow 10 18 := ⟨by decide, by decide, by decide⟩
def absI (n : Int) : Int := if n < 0 then -n else n
theorem abs_lc {e0 e1 e2 e3 : Slot} {Q : D → Nat → Prop} : ∀ (ns : List Int) (acc : List D) (c : Nat), acc.length + ns.length ≤ 63 → Q (.lst (acc ++ ns.map fun n => D.int (absI n))) c →
    lcD (.one 3) [3] tYesD (tCallD absD (tConsD (tVarB 3) tNilD)) [e0, e1, e2, e3] Q (ns.map D.int) acc c
  | [], acc, c, _, q => by
    simpa using q
  | n :: r, acc, c, h, q => by
    rw [List.length_cons] at h
    simp
    refine ⟨by rw [sizeLine_eq]; omega, ?_⟩
    have z := abs_lc (e0 := e0) (e1 := e1) (e2 := e2) (e3 := e3) (Q := Q) r (acc ++ [.int (absI n)]) c (by simp; omega) (by simpa using q)
    simpa [absI] using z
def big18 : Int := 1000000000000000000
def bigI (n : Int) : Bool := decide (big18 ≤ n)
theorem big_lc {e0 e1 e2 e3 : Slot} {Q : D → Nat → Prop} : ∀ (ns : List Int) (acc : List D) (c : Nat), acc.length + ns.length ≤ 63 → Q (.lst (acc ++ (ns.filter bigI).map fun n => D.int (n - big18))) c →
    lcD (.one 3) [3] (tTestD (tOpD geD (tVarB 3) tBigC)) (tOpD subD (tVarB 3) tBigC) [e0, e1, e2, e3] Q (ns.map D.int) acc c
  | [], acc, c, _, q => by
    simpa using q
  | n :: r, acc, c, h, q => by
    rw [List.length_cons] at h
    have p18 := pow18
    simp [p18]
    by_cases hb : big18 ≤ n
    · rw [if_pos (show (1000000000000000000 : Int) ≤ n from hb)]
      refine ⟨by rw [sizeLine_eq]; omega, ?_⟩
      have z := big_lc (e0 := e0) (e1 := e1) (e2 := e2) (e3 := e3) (Q := Q) r (acc ++ [.int (n - big18)]) c (by simp; omega) (by
        have e : bigI n = true := decide_eq_true hb
        rw [List.filter_cons_of_pos e] at q
        simpa using q)
      simpa [big18] using z
    · rw [if_neg (show ¬ (1000000000000000000 : Int) ≤ n from hb)]
      have z := big_lc (e0 := e0) (e1 := e1) (e2 := e2) (e3 := e3) (Q := Q) r acc c (by omega) (by
        have e : ¬ bigI n = true := fun z => hb (of_decide_eq_true z)
        rw [List.filter_cons_of_neg e] at q
        exact q)
      simpa using z
theorem rpL_ints {Z : Wz} {H : Hp} : ∀ {ns : List Int} {vs : List V}, RpL Z H (ns.map D.int) vs → vs = ns.map V.int
  | [], vs, h => rpL_nil.mp h
  | n :: r, vs, h => by
    obtain ⟨v, w, rfl, h1, h2⟩ := rpL_cons.mp h
    rw [rp_int.mp h1, rpL_ints h2]
    rfl

/-- the readings of the body -/
def tBegun (F : Fd) : TS := tSeq (liftS F (tSetO 1 tAbsC)) (tSeq (liftS F (tSetO 2 tLargeC)) (tRet (tDisp [(tC (.str "large"), tVar 2), (tC (.str "cells"), tVar 1), (tC (.str "left"), tC (.int 0)), (tC (.str "turn"), tC (.int 0))])))
def spBegun (K : PySem.W.Frag) (mg : Str → Option Value) : Sp := fun vs H Q _ => ∃ (a : Addr) (ns : List Int), vs = [.ref a] ∧ SqL K H a (ns.map V.int) ∧ ns.length ≤ 63 ∧
  ∀ (H' : Hp) (sa sl sc : Addr), Same H H' → H sa = none → H sl = none → StAt ⟨K, mg, sa, sl, sc⟩ H' 0 → Q (.ref sa) H'
theorem merge4_of {a b c d : Key} (h1 : ¬ a = b) (h2 : ¬ a = c) (h3 : ¬ a = d) (h4 : ¬ b = c) (h5 : ¬ b = d) (h6 : ¬ c = d) (x y l t : V) : mergeK [] [(a, x), (b, y), (c, l), (d, t)] = ([(a, x), (b, y), (c, l), (d, t)] : List (Key × V)) := by
  simp [mergeK, putK, h1, h2, h3, h4, h5, h6]
theorem merge4 (x y l t : V) : mergeK [] [(.inr "large", x), (.inr "cells", y), (.inr "left", l), (.inr "turn", t)] = ([(.inr "large", x), (.inr "cells", y), (.inr "left", l), (.inr "turn", t)] : List (Key × V)) :=
  merge4_of kLC kLl kLt kCl kCt klt x y l t
theorem absI_nn (n : Int) : 0 ≤ absI n := by
  unfold absI
  split <;> omega
theorem begun_run {K : PySem.W.Frag} {mg : Str → Option Value} {H : Hp} {a : Addr} {ns : List Int} {D0 : Ends} {N : List Str} {W : WX} (hN : N.length = 4) (hs : SqL K H a (ns.map V.int)) (hl : ns.length ≤ 63)
    (q : ∀ (H' : Hp) (sa sl sc : Addr), Same H H' → H sa = none → H sl = none → StAt ⟨K, mg, sa, sl, sc⟩ H' 0 → D0.rt (.ref sa) H') (hW : ∀ cls dx σ H, ¬ W cls dx σ H) :
    tBegun ⟨⟨⟨K, mg, 0, 0, 0⟩, false, []⟩, H, H, W⟩ D0 (L2.start N [.ref a]) H := by
  have S0 : Sim (⟨⟨K, mg, 0, 0, 0⟩, false, []⟩ : Wd) H H (L2.start N [V.ref a]) H H (envAt N.length [.scr ns]) 0 :=
    Sim.begin (Same.refl _) (RpL.cons (rp_scr.mpr ⟨a, rfl, hs⟩) RpL.nil) (fun z => absurd z Bool.false_ne_true) (fun b s => absurd s.1 Bool.false_ne_true) fun _ z => absurd z List.not_mem_nil
  have no : ∀ (D0' : Ends) (H1 : Hp) (P : EnvD → Nat → Prop), (∀ σ H' Hf env c, Sim (⟨⟨K, mg, 0, 0, 0⟩, false, []⟩ : Wd) H H σ H' Hf env c → P env c → D0'.nx σ H') →
      EL ⟨⟨⟨K, mg, 0, 0, 0⟩, false, []⟩, H, H, W⟩ H1 D0' { nx := P, rt := fun _ _ => False, ex := fun _ _ _ => False } := fun D0' H1 P h =>
    ⟨fun σ H' Hf env c S _ p => h σ H' Hf env c S p, fun _ _ _ _ _ _ _ _ _ _ z => z.elim, fun _ _ _ _ _ _ _ z => z.elim, fun _ _ _ _ _ _ _ z => z.elim, fun _ _ _ _ _ _ _ _ _ _ z => z.elim⟩
  refine ⟨H, _, 0, _, S0, no _ H (fun env c => env = [.val (.scr ns), .own (.lst (ns.map fun n => D.int (absI n))), .un, .un]) fun σ H1 Hf1 env c S1 e => ?_, ?_⟩
  · subst e
    obtain ⟨sc, vs1, e1, g1, f1, r1, S2⟩ := S1.freezeL (i := 1) rfl
    refine ⟨_, _, c, _, S2, no _ _ (fun env _ => env = [.val (.scr ns), .val (.lst (ns.map fun n => D.int (absI n))), .own (.lst (((ns.map absI).filter bigI).map fun n => D.int (n - big18))), .un]) fun σ H3 Hf3 env c S3 e => ?_, ?_⟩
    · subst e
      obtain ⟨v1, w1, w2⟩ := S3.val 1 _ rfl
      obtain ⟨sc', vs3, rfl, g3, r3⟩ := rp_lst.mp w2
      obtain ⟨sl, w3, n3, n4, _, vs2, g2, r2⟩ := S3.own 2 _ rfl
      have e2 : (ns.map fun n => D.int (absI n)) = (ns.map absI).map D.int := by rw [List.map_map]; rfl
      rw [e2] at r3
      have e3 : (((ns.map absI).filter bigI).map fun n => D.int (n - big18)) = (((ns.map absI).filter bigI).map fun n => n - big18).map D.int := by rw [List.map_map]; rfl
      rw [e3] at r2
      have r3' := rpL_ints r3
      have r2' := rpL_ints r2
      subst r3' r2'
      have g3' := S3.sub _ _ g3
      intro p hp
      have s3 : Same H H3 := fun b o e => S3.keep b o e fun s => absurd s.1 Bool.false_ne_true
      refine ⟨_, w3, _, w1, ?_⟩
      refine ⟨upd_same, [(.inr "large", .ref sl), (.inr "cells", .ref sc'), (.inr "left", .int 0), (.inr "turn", .int 0)], rfl, (show 4 ≤ 15 by decide), ?_⟩
      rw [merge4]
      have np1 : sl ≠ p := ne_of_none g2 hp
      have np2 : sc' ≠ p := ne_of_none g3' hp
      refine q _ p sl sc' ?_ (s3.free hp) n4 ⟨0, 0, ((ns.map absI).filter bigI).map (fun n => n - big18), ns.map absI, upd_same, ?_, ?_, by decide, by decide, by decide, ?_, ?_, ?_, np1.symm, np2.symm, ?_⟩
      · refine fun b o e => ?_
        have nb : b ≠ p := ne_of_none (s3 b o e) hp
        rw [upd_ne nb, upd_ne nb]
        exact s3 b o e
      · rw [upd_ne np1, upd_ne np1]; exact g2
      · rw [upd_ne np2, upd_ne np2]; exact g3'
      · intro z hz
        obtain ⟨n, h1, rfl⟩ := List.mem_map.mp hz
        have h2 := (List.mem_filter.mp h1).2
        have h3 : big18 ≤ n := of_decide_eq_true h2
        omega
      · intro z hz
        obtain ⟨n, _, rfl⟩ := List.mem_map.mp hz
        exact absI_nn n
      · rw [List.length_map]; exact hl
      · intro z
        replace z : sl = sc' := z
        rw [z, g3] at n3
        cases n3
    · simp [envAt, hN]
      have z := big_lc (e0 := .val (.scr ns)) (e1 := .val (.lst (ns.map fun n => D.int (absI n)))) (e2 := .un) (e3 := .un) (Q := fun d _ => [Slot.val (.scr ns), .val (.lst (ns.map fun n => D.int (absI n))), .own d, .un] = [Slot.val (.scr ns), .val (.lst (ns.map fun n => D.int (absI n))), .own (.lst (((ns.map absI).filter bigI).map fun n => D.int (n - big18))), .un]) (ns.map absI) [] c (by simp; omega) (by simp)
      have e2 : (ns.map absI).map D.int = (ns.map fun n => D.int (absI n)) := by rw [List.map_map]; rfl
      rw [e2] at z
      simpa using z
  · have e : envAt N.length [D.scr ns] = [.val (.scr ns), .un, .un, .un] := by simp [envAt, hN]
    rw [e]
    have z := abs_lc (e0 := .val (.scr ns)) (e1 := .un) (e2 := .un) (e3 := .un) (Q := fun d _ => [Slot.val (.scr ns), .own d, .un, .un] = [Slot.val (.scr ns), .own (.lst (ns.map fun n => D.int (absI n))), .un, .un]) ns [] 0 (by simp; omega) (by simp)
    simpa using z
section
variable {P : Program} {w : World} {K : PySem.W.Frag} {mg : Str → Option Value} {base : Heap}
theorem ok_begun {x qual : Str} {st : Stmt} {f : Addr} {fd : FuncData} {N ps : List Str} {k : Nat} (Fn : Fun K x qual st f fd) (S : FnScope N ps (defScope st)) (hps : ps.length = 1) (hN : N.length = 4)
    (hbody : ∀ (X : Cx) (F : Fd) (cdv : Value) (A : Around) (outer : List Env) (s : Shared) (H : Hp) (E : XK), X = cxOf (L2.CX P w) P w K mg base N qual (defScope st) f cdv A outer s H E → F = fdP K mg 0 0 0 H H noW → Room k X.A → PSs X (defBody st) (tBegun F)) :
    FnOk P w K mg base (L2.CX P w) (k + 1) f fd ps (spBegun K mg) := by
  refine Fn.okX S (fun vs H Q E h => ?_) fun cdv A outer s H vs Q E hr h => ?_
  · obtain ⟨a, ns, rfl, _⟩ := h
    exact hps.symm
  · obtain ⟨a, ns, rfl, hs, hl, q⟩ := h
    exact ⟨_, hbody _ _ cdv A outer s H E rfl rfl hr, begun_run (W := noW) hN hs hl q fun _ _ _ _ z => z⟩
end
end DL
set_option Elab.async false
set_option linter.all false
set_option maxRecDepth 100000
set_option maxHeartbeats 1000000
/-! DL14: defs of the text, by name. -/
namespace DL
open PySem PySem.Spec PyProof.Rows L2

/-- a def stands in the text's part under its name -/
structure Df (K : PySem.W.Frag) (mg : Str → Option Value) (x : Str) (st : Stmt) (ps : List Str) : Prop where
  ex : ∃ (f : Addr) (fd : FuncData), Fun K x x st f fd ∧ mg x = some (.ref f) ∧ Binds K fd ps []
/-- .. and keeps a promise -/
structure Has (P : Program) (w : World) (K : PySem.W.Frag) (mg : Str → Option Value) (base : Heap) (k : Nat) (x : Str) (ps : List Str) (sp : Sp) : Prop where
  ex : ∃ (f : Addr) (fd : FuncData), FnOk P w K mg base (L2.CX P w) k f fd ps sp ∧ mg x = some (.ref f) ∧ PySem.W.keepIn K (.ref f) = true ∧ Binds K fd ps []
/-- the built-in names that no def hides -/
def bltNames : List Str := ["abs", "int", "len", "min", "max", "sum", "all", "any", "tuple", "list", "dict", "sorted", "range", "zip", "enumerate", "reversed", "repr", "isinstance", "set", "str", "bool"]
structure Blt (mg : Str → Option Value) : Prop where
  abs : mg "abs" = none
  int : mg "int" = none
  len : mg "len" = none
  min : mg "min" = none
  max : mg "max" = none
  sum : mg "sum" = none
  all : mg "all" = none
  any : mg "any" = none
  tuple : mg "tuple" = none
  list : mg "list" = none
  dict : mg "dict" = none
  sorted : mg "sorted" = none
  range : mg "range" = none
  zip : mg "zip" = none
  enumerate : mg "enumerate" = none
  reversed : mg "reversed" = none
  repr : mg "repr" = none
  isinstance : mg "isinstance" = none
  set : mg "set" = none
  str : mg "str" = none
  bool : mg "bool" = none
section
variable {P : Program} {w : World} {K : PySem.W.Frag} {mg : Str → Option Value} {base : Heap}
theorem has_of {k : Nat} {x : Str} {st : Stmt} {ps : List Str} {sp : Sp} (D0 : Df K mg x st ps) (h : ∀ (f : Addr) (fd : FuncData), Fun K x x st f fd → FnOk P w K mg base (L2.CX P w) k f fd ps sp) : Has P w K mg base k x ps sp := by
  obtain ⟨f, fd, F, m, b⟩ := D0.ex
  exact ⟨f, fd, h f fd F, m, F.kp, b⟩
end
section
variable {X : Cx} {F : Fd} {k : Nat} {ps : List Str} {x : Str} {p pos : Pos} {e : Expr} {es : List Expr} {t : TAD}
theorem de_P {pf : PF} (h : Has X.prog X.w X.K X.mg X.base k x ps (spP X.K X.mg pf)) (hr : Room k X.A) (tk : Takes X F.W) (ha : DA X F (e :: es) t) (hg : Gl X x := by rfl) (hK : F.Z.K = X.K := by rfl) (hM : F.Z.mg = X.mg := by rfl)
    (hdb : (x == ("__debug__" : Str)) = false := by decide) (he : starEach (e :: es) X.env = (false, eval e X.env) :: starEach es X.env := by rfl) (hpl : (backTo pos (starEach es X.env)).any (·.1) = false := by rfl) :
    DE X F (.Call (.Name x p) (e :: es) [] pos) (tCallP pf t) := by
  obtain ⟨f, fd, Fk, hm, hk, hb⟩ := h.ex
  exact de_callP Fk hr hm hk hb tk ha hg hK hM hdb he hpl
theorem de_S {pf : PFS} (h : Has X.prog X.w X.K X.mg X.base k x ps (spS X.K X.mg pf)) (hr : Room k X.A) (tk : Takes X F.W) (ha : DA X F (e :: es) t) (hz : F.Z.sf = true := by rfl) (hg : Gl X x := by rfl) (hK : F.Z.K = X.K := by rfl) (hM : F.Z.mg = X.mg := by rfl)
    (hdb : (x == ("__debug__" : Str)) = false := by decide) (he : starEach (e :: es) X.env = (false, eval e X.env) :: starEach es X.env := by rfl) (hpl : (backTo pos (starEach es X.env)).any (·.1) = false := by rfl) :
    DE X F (.Call (.Name x p) (e :: es) [] pos) (tDrawn pf t) := by
  obtain ⟨f, fd, Fk, hm, hk, hb⟩ := h.ex
  exact de_callS Fk hr hm hk hb tk ha hz hg hK hM hdb he hpl
/-- a number of the module -/
theorem de_glob {d : D} {v : V} {u : Value} (hm : X.mg x = some u) (r : RelV v u) (f : flatD d v) (hg : Gl X x := by rfl) (hdb : (x == ("__debug__" : Str)) = false := by decide) : DE X F (.Name x pos) (tCD d) := de_c (pe_glob hg hm r hdb) f
end
/-- a def without the law's state -/
theorem has_P {P : Program} {w : World} {K : PySem.W.Frag} {mg : Str → Option Value} {base : Heap} {x : Str} {st : Stmt} {N ps : List Str} {k : Nat} {pf : PF} {t : TSD} (D0 : Df K mg x st ps) (S : FnScope N ps (defScope st)) (len : ∀ ds W R, pf ds W R → ds.length = ps.length)
    (hd : ∀ (X : Cx) (F : Fd) (f : Addr) (cdv : Value) (A : Around) (outer : List Env) (s : Shared) (H G : Hp) (sa sl sc : Addr) (E : XK), X = cxOf (L2.CX P w) P w K mg base N x (defScope st) f cdv A outer s H E → F = fdP K mg sa sl sc H G (fun cls d _ H => E cls d H) →
      Takes X F.W → Room k X.A → DSs X F (defBody st) t)
    (hq : ∀ (ds : List D) (W R : D → Prop), pf ds W R → t { nx := fun _ _ => R .non, rt := fun d _ => R d, ex := fun d _ _ => W d } (envAt N.length ds) 0) : Has P w K mg base (k + 1) x ps (spP K mg pf) :=
  has_of D0 fun f fd Fn => okP Fn S len fun X F cdv A outer s H G sa sl sc E eX eF tk hr => ⟨t, hd X F f cdv A outer s H G sa sl sc E eX eF tk hr, hq⟩
/-- .. with it -/
theorem has_S {P : Program} {w : World} {K : PySem.W.Frag} {mg : Str → Option Value} {base : Heap} {x : Str} {st : Stmt} {N ps : List Str} {k : Nat} {pf : PFS} {t : TSD} (D0 : Df K mg x st ps) (S : FnScope N ps (defScope st)) (len : ∀ ds c W R, pf ds c W R → ds.length = ps.length)
    (hd : ∀ (X : Cx) (F : Fd) (f : Addr) (cdv : Value) (A : Around) (outer : List Env) (s : Shared) (H G : Hp) (sa sl sc : Addr) (E : XK), X = cxOf (L2.CX P w) P w K mg base N x (defScope st) f cdv A outer s H E → F = fdS K mg sa sl sc H G (fun cls d _ H => E cls d H) →
      Takes X F.W → Room k X.A → DSs X F (defBody st) t)
    (hq : ∀ (ds : List D) (c : Nat) (W : WD) (R : D → Nat → Prop), pf ds c W R → t { nx := fun _ c => R .non c, rt := R, ex := fun d _ c => W d c } (envAt N.length ds) c) : Has P w K mg base (k + 1) x ps (spS K mg pf) :=
  has_of D0 fun f fd Fn => okS Fn S len fun X F cdv A outer s H G sa sl sc E eX eF tk hr => ⟨t, hd X F f cdv A outer s H G sa sl sc E eX eF tk hr, hq⟩
end DL
set_option Elab.async false
set_option linter.all false
set_option maxRecDepth 100000
set_option maxHeartbeats 1000000
/-! DL15: small rules for the printed derivations. -/
namespace DL
open PySem PySem.Spec PyProof.Rows L2

theorem boot_isi : bootBuiltins "isinstance" = some (.builtin "isinstance") := by decide +kernel
theorem boot_abs' : bootBuiltins "abs" = some (.builtin "abs") := by decide +kernel
theorem boot_len' : bootBuiltins "len" = some (.builtin "len") := by decide +kernel
theorem boot_min' : bootBuiltins "min" = some (.builtin "min") := by decide +kernel
theorem boot_max' : bootBuiltins "max" = some (.builtin "max") := by decide +kernel
theorem boot_all' : bootBuiltins "all" = some (.builtin "all") := by decide +kernel
theorem boot_any' : bootBuiltins "any" = some (.builtin "any") := by decide +kernel
theorem boot_int' : bootBuiltins "int" = some (.type "int") := by decide +kernel
theorem boot_tuple' : bootBuiltins "tuple" = some (.type "tuple") := by decide +kernel
theorem hr65 {k : Nat} {A : Around} (r : Room k A) : A.units + 65 < cLine := by have := r.un; omega
section
variable {X : Cx} {F : Fd} {e : Expr} {pos : Pos} {te : TED}
/-- a number of the module -/
theorem de_globI {x : Str} {i : Int} (hm : ∃ t, X.mg x = some (.int i t)) (hg : Gl X x := by rfl) (hdb : (x == ("__debug__" : Str)) = false := by decide) : DE X F (.Name x pos) (tCD (.int i)) := by
  obtain ⟨t, hm⟩ := hm
  exact de_glob (v := .int i) hm ⟨t, rfl⟩ rfl hg hdb
/-- a, b = e -/
@[simp] def tTgD (tg : Tg) (t : TED) : TSD := fun D env c => t env c (fun d c1 => D.ex d env c1) fun d c1 => tg.set d env fun env' => D.nx env' c1
theorem ds_tg {target : Expr} (tg : Tg) {K : PySem.W.Frag} (he : DE X F e te) (hg : PG X target (tg.g K)) (hs : swapsWithSole [target] e pos.line X.env = pure false := by rfl) (hw : swappedStores [target] e X.env = pure none := by rfl)
    (h1 : (assignEach [target] X.env).map (·.2) = [assign target X.env] := by rfl) : DS X F (.Assign [target] e pos) (tTgD tg te) :=
  PS.imp (ps_asg he hg hs hw h1) fun D σ H ⟨Hf, env, c, Dd, S, L, h⟩ => ⟨Hf, env, c, _, _, S, L.xl σ env, h, fun v H' Hf' c' d S' s1 _ r q =>
    Tg.use S' r q fun σ' env' S2 _ _ q2 => L.nx σ' H' Hf' env' c' S2 s1 q2⟩
/-- xs.append(e) -/
theorem ds_app (i : Nat) {x : Str} {p apos cpos : Pos} (he : DE X F e te) (hx : PE X (.Name x p) (tVar i) := by exact pv _)
    (hbase : attributeBase (.Name x p) "append" X.env (eval (.Name x p) X.env) = eval (.Name x p) X.env := by rfl)
    (hfew : ((backTo cpos (starEach (e :: []) X.env)).all (fun x => !x.1) && (backToKw cpos (keywordEach [] X.env)).all (fun x => x.1.isSome)
      && decide ((e :: []).length + ([] : List Keyword).length + (if ([] : List Keyword).isEmpty then 0 else 1) < 30)) = true := by rfl)
    (hline : (apos.endLine == cpos.line) = true := by rfl) (he2 : starEach (e :: []) X.env = (false, eval e X.env) :: starEach [] X.env := by rfl) (hplain : (backTo cpos (starEach [] X.env)).any (·.1) = false := by rfl)
    (hs : swapsWith (.Call (.Attribute (.Name x p) "append" apos) [e] [] cpos) none pos.line X.env = pure false := by rfl) :
    DS X F (.Expr (.Call (.Attribute (.Name x p) "append" apos) [e] [] cpos) pos) (tAppD i te) :=
  ds_append i he (fun h => pe_bm PySem.F.plainAttrs_list PySem.F.slot_list_append PySem.F.type_list_append (fun pins s σ H x xs v us Q I rx rxs h => mt_append pins s σ H x xs v us Q I rx rxs h) hx (pa_cons h pa_nil he2) hbase hfew hline he2 hplain) hs
end
/-- an own class of exceptions without an __init__ of its own, under ValueError -/
structure Exc (K : PySem.W.Frag) (mg : Str → Option Value) (x : Str) : Prop where
  ex : ∃ (C : Addr), mg x = some (.ref C) ∧ PySem.W.keepIn K (.ref C) = true ∧ (∃ (bm : List Value) (B nw ini : String), ExcBaseFacts B nw ini bm ∧ PySem.W.excIn K C bm nw = true) ∧ PySem.W.subIn K (.ref C) (.type "BaseException") = some true ∧ PySem.W.typeIn K (.ref C) = some (.type "type")
theorem ds_raiseX {X : Cx} {F : Fd} {K : PySem.W.Frag} {mg : Str → Option Value} {x m : Str} {j : Nat} {p p2 pos pos2 : Pos} (h : Exc K mg x) (tk : Takes X F.W) (hc : X.calm = true := by rfl) (hK : X.K = K := by rfl) (hM : X.mg = mg := by rfl) (hM2 : F.Z.mg = X.mg := by rfl) (hg : Gl X x := by rfl)
    (hdb : (x == ("__debug__" : Str)) = false := by decide) : DS X F (.Raise (some (.Call (.Name x p) [.Constant (.str m) j p2] [] pos)) none pos2) (tRaiseD x) := by
  subst hK hM
  obtain ⟨C, gC, kC, ⟨bm, B, nw, ini, FB, q⟩, h1, h2⟩ := h.ex
  exact ds_raise hc tk FB q gC kC (raises_own h1 h2) hM2 hg hdb
end DL
set_option Elab.async false
set_option linter.all false
set_option maxRecDepth 100000
set_option maxHeartbeats 1000000
/-! DL16: built-ins that give a new list; parallel assignments. -/
namespace DL
open PySem PySem.Spec PyProof.Rows L2

/-! ### a new list of a built-in -/
def liftN (Z : Wz) (r : CD) : List V → Hp → VK → Prop := fun vs H Q => ∃ (Hf : Hp) (ds : List D) (k : D → Prop), Same Hf H ∧ VRpL Z Hf H ds vs ∧ r ds k ∧
  ∀ (l : Addr) (zs : List V) (es : List D), H l = none → RpL Z Hf es zs → k (.lst es) → Q (.ref l) (upd H l (.lst zs))
abbrev CallN (X : Cx) (Z : Wz) (f : Value) (r : CD) : Prop := CallR X f (liftN Z r)
theorem callN_use {F : Fd} {σ : L2.St} {H : Hp} {r : CD} {t : TAD} {Q : VK} (h : liftO F (tCallD r t) σ H Q) : tCB (liftN F.Z.toWz r) (liftAB F t) σ H Q := by
  obtain ⟨Hf, env, c, Wd, Qd, S, x, ht, k⟩ := h
  refine ⟨Hf, env, c, Wd, _, S, x, ht, fun vs H1 Hf1 c1 ds S1 s1 k1 r1 q1 => ?_⟩
  refine ⟨Hf1, ds, _, S1.sub, r1.at S1, q1, fun l zs es hl rp q2 => ?_⟩
  have f := S1.fresh hl
  exact k l _ Hf1 c1 (.lst es) (S1.laid hl _) s1 (k1.trans (Keep.of (same_upd hl))) f (k1.upd hl (Keep.of (same_upd hl))) ⟨zs, upd_same, rp⟩ q2
section
variable {X : Cx} {F : Fd} {e : Expr} {es : List Expr} {pos p : Pos} {x : Str} {r : CD} {t : TAD}
theorem do_blt {id : String} (hc : CallN X F.Z.toWz (.builtin id) r) (hm : X.mg x = none) (hv : bootBuiltins x = some (.builtin id)) (ha : DAB X F (e :: es) t) (hg : Gl X x := by rfl) (hn : x ≠ "__name__" := by decide)
    (hdb : (x == ("__debug__" : Str)) = false := by decide) (he : starEach (e :: es) X.env = (false, eval e X.env) :: starEach es X.env := by rfl) (hpl : (backTo pos (starEach es X.env)).any (·.1) = false := by rfl) :
    DO X F (.Call (.Name x p) (e :: es) [] pos) (tCallD r t) := PE.imp (pe_callB hc hg hm hv ha hn hdb he hpl) fun σ H Q h => callN_use h
theorem do_ty {T : String} (hc : CallN X F.Z.toWz (.type T) r) (hm : X.mg x = none) (hv : bootBuiltins x = some (.type T)) (ha : DAB X F (e :: es) t) (hg : Gl X x := by rfl) (hn : x ≠ "__name__" := by decide)
    (hdb : (x == ("__debug__" : Str)) = false := by decide) (he : starEach (e :: es) X.env = (false, eval e X.env) :: starEach es X.env := by rfl) (hpl : (backTo pos (starEach es X.env)).any (·.1) = false := by rfl) :
    DO X F (.Call (.Name x p) (e :: es) [] pos) (tCallD r t) := PE.imp (pe_callTy hc hg hm hv ha hn hdb he hpl) fun σ H Q h => callN_use h
end
@[simp] def listD : CD
  | [.lst ds], k => k (.lst ds)
  | [.tup ds], k => k (.lst ds)
  | _, _ => False
theorem call_listD' {X : Cx} {Z : Wz} : CallN X Z (.type "list") listD := by
  intro pins s σ H xs us Q I r h
  obtain ⟨Hf, ds, k, sub, hx, hr, kk⟩ := h
  unfold listD at hr
  split at hr
  · obtain ⟨x, rfl, hw⟩ := vrpL_1 hx
    obtain ⟨p, vs, rfl, h1, r1⟩ := vrp_lst sub hw
    exact call_list_of pins s σ H _ us Q I r ⟨p, vs, rfl, .inl (SqL.of h1), fun l hl => kk l vs _ hl r1 hr⟩
  · obtain ⟨x, rfl, hw⟩ := vrpL_1 hx
    obtain ⟨p, vs, rfl, h1, r1, w1⟩ := vrp_tup sub hw
    exact call_list_of pins s σ H _ us Q I r ⟨p, vs, rfl, .inr (SqT.of h1), fun l hl => kk l vs _ hl r1 hr⟩
  · exact hr.elim
theorem boot_list' : bootBuiltins "list" = some (.type "list") := by decide +kernel
theorem boot_sorted' : bootBuiltins "sorted" = some (.builtin "sorted") := by decide +kernel
theorem RpL.perm {Z : Wz} {H : Hp} {vs ws : List V} (p : ws.Perm vs) : ∀ {ds : List D}, RpL Z H ds vs → ∃ es : List D, es.Perm ds ∧ RpL Z H es ws := by
  induction p with
  | nil => exact fun {ds} h => ⟨ds, List.Perm.refl _, h⟩
  | cons v _ ih =>
    intro ds h
    cases ds with
    | nil => have e := h.length; simp at e
    | cons d ds =>
      obtain ⟨v', w', e, h1, h2⟩ := rpL_cons.mp h
      cases e
      obtain ⟨es, g1, g2⟩ := ih h2
      exact ⟨d :: es, g1.cons d, RpL.cons h1 g2⟩
  | swap v w l =>
    intro ds h
    cases ds with
    | nil => have e := h.length; simp at e
    | cons d ds =>
      obtain ⟨v', w', e, h1, h2⟩ := rpL_cons.mp h
      cases e
      cases ds with
      | nil => have e := h2.length; simp at e
      | cons d2 ds =>
        obtain ⟨v', w', e, h3, h4⟩ := rpL_cons.mp h2
        cases e
        exact ⟨d2 :: d :: ds, List.Perm.swap d d2 ds, RpL.cons h3 (RpL.cons h1 h4)⟩
  | trans _ _ ih1 ih2 =>
    intro ds h
    obtain ⟨es, g1, g2⟩ := ih2 h
    obtain ⟨fs, g3, g4⟩ := ih1 g2
    exact ⟨fs, g3.trans g1, g4⟩
/-! ### sorted -/
def pD (q : Int × Int) : D := .tup [.int q.1, .int q.2]
theorem pD_inj {a b : Int × Int} (h : pD a = pD b) : a = b := by
  simp [pD] at h
  exact Prod.ext h.1 h.2
def pairsD : List D → Option (List (Int × Int))
  | [] => some []
  | .tup [.int i, .int j] :: r => (pairsD r).map fun l => (i, j) :: l
  | _ => none
theorem pairsD_of : ∀ {ds : List D} {ps : List (Int × Int)}, pairsD ds = some ps → ds = ps.map pD
  | [], ps, h => by cases h; rfl
  | d :: r, ps, h => by
    unfold pairsD at h
    split at h
    · rename_i e
      cases e
    · rename_i i j r' e
      cases e
      cases e2 : pairsD r with
      | none => rw [e2] at h; cases h
      | some l =>
        rw [e2] at h
        cases h
        rw [pairsD_of e2]
        rfl
    · cases h
theorem pairsD_map (ps : List (Int × Int)) : pairsD (ps.map pD) = some ps := by
  induction ps with
  | nil => rfl
  | cons p r ih =>
    show (pairsD (r.map pD)).map (fun l => (p.1, p.2) :: l) = _
    rw [ih]
    rfl
/-- the pair at a place -/
def keyAt (H : Hp) : V → Int × Int
  | .ref t => match H t with
    | some (.tup [.int i, .int j]) => (i, j)
    | _ => (0, 0)
  | _ => (0, 0)
theorem rp_pD {Z : Wz} {Hf H : Hp} {q : Int × Int} {v : V} (s : Same Hf H) (h : Rp Z Hf (pD q) v) : keyAt H v = q ∧ ∃ t, v = V.ref t ∧ H t = some (.tup [.int q.1, .int q.2]) := by
  obtain ⟨a, vs, rfl, h1, h2⟩ := rp_tup.mp h
  obtain ⟨v1, w1, rfl, h3, h4⟩ := rpL_cons.mp h2
  obtain ⟨v2, w2, rfl, h5, h6⟩ := rpL_cons.mp h4
  cases rpL_nil.mp h6
  cases rp_int.mp h3
  cases rp_int.mp h5
  have e := s _ _ h1
  refine ⟨?_, a, rfl, e⟩
  show (match H a with
    | some (.tup [.int i, .int j]) => (i, j)
    | _ => (0, 0)) = q
  rw [e]
theorem rpL_pD {Z : Wz} {Hf H : Hp} (s : Same Hf H) : ∀ {ds : List D} {vs : List V}, RpL Z Hf ds vs → (∀ d ∈ ds, ∃ q, d = pD q) → ds = (vs.map (keyAt H)).map pD
  | [], vs, h, _ => by rw [rpL_nil.mp h]; rfl
  | d :: ds, vs, h, a => by
    obtain ⟨v, w, rfl, h1, h2⟩ := rpL_cons.mp h
    obtain ⟨q, rfl⟩ := a d List.mem_cons_self
    rw [rpL_pD s h2 fun d hd => a d (List.mem_cons_of_mem _ hd)]
    rw [List.map_cons, List.map_cons, (rp_pD s h1).1]
@[simp] def sortD : CD
  | [.lst ds], k => (∃ ps, ds = ps.map pD ∧ ∀ qs : List (Int × Int), qs.Perm ps → qs.Pairwise (fun a b => SrtO.lexB b a = false) → k (.lst (qs.map pD))) ∨
    ∃ ns : List Int, ds = ns.map .int ∧ ∀ ms : List Int, ms.Perm ns → ms.Pairwise (· ≤ ·) → k (.lst (ms.map .int))
  | _, _ => False
theorem map_inj {α β : Type} {f : α → β} (hf : ∀ a b, f a = f b → a = b) : ∀ {xs ys : List α}, xs.map f = ys.map f → xs = ys
  | [], [], _ => rfl
  | [], _ :: _, h => by cases h
  | _ :: _, [], h => by cases h
  | x :: xs, y :: ys, h => by
    rw [List.map_cons, List.map_cons] at h
    injection h with h1 h2
    rw [hf _ _ h1, map_inj hf h2]
theorem ints_rpL {Z : Wz} {H : Hp} : ∀ {ns : List Int}, RpL Z H (ns.map D.int) (ns.map V.int)
  | [] => RpL.nil
  | n :: r => RpL.cons (rp_int.mpr rfl) ints_rpL
theorem call_sortedD' {X : Cx} {Z : Wz} (hK : Z.K = X.K := by rfl) : CallN X Z (.builtin "sorted") sortD := by
  intro pins s σ H xs us Q I r h
  obtain ⟨Hf, ds, k, sub, hx, hr, kk⟩ := h
  unfold sortD at hr
  split at hr
  · obtain ⟨x, rfl, hw⟩ := vrpL_1 hx
    obtain ⟨p, vs, rfl, h1, r1⟩ := vrp_lst sub hw
    rcases hr with ⟨ps, rfl, hr⟩ | ⟨ns, rfl, hr⟩
    · have all1 : ∀ d ∈ ps.map pD, ∃ q, d = pD q := fun d hd => by
        obtain ⟨q, _, e⟩ := List.mem_map.mp hd
        exact ⟨q, e.symm⟩
      have e1 := rpL_pD sub r1 all1
      have e2 : ps = vs.map (keyAt H) := map_inj (fun a b => pD_inj) e1
      refine cr_sortedPO pins s σ H _ us Q I r ⟨p, vs, keyAt H, rfl, SqL.of h1, fun x hx => ?_, fun ys l hs hst hl => ?_⟩
      · obtain ⟨i, hi⟩ := List.getElem?_of_mem hx
        obtain ⟨d, g1, g2⟩ := r1.get' hi
        obtain ⟨q, rfl⟩ := all1 d (List.mem_of_getElem? g1)
        obtain ⟨g3, t, g4, g5⟩ := rp_pD sub g2
        exact ⟨t, g4, by rw [g3]; exact g5⟩
      · obtain ⟨es, g1, g2⟩ := RpL.perm hst.perm r1
        have e3 := rpL_pD sub g2 fun d hd => all1 d (g1.mem_iff.mp hd)
        refine kk l ys es hl g2 ?_
        rw [e3]
        refine hr _ ?_ ?_
        · rw [e2]
          exact hst.perm.map _
        · rw [List.pairwise_map]
          exact hs
    · have e1 := rpL_ints r1
      subst e1
      refine cr_sortedI pins s σ H _ us Q I r ⟨p, ns, rfl, SqL.of h1, fun ms l hp hs hl => ?_⟩
      exact kk l _ _ hl ints_rpL (hr ms hp hs)
  · exact hr.elim
end DL
set_option Elab.async false
set_option linter.all false
set_option maxRecDepth 100000
set_option maxHeartbeats 1000000
/-! DL17: parallel assignments; lists that give items up. -/
namespace DL
open PySem PySem.Spec PyProof.Rows L2

/-! ### arguments, kept or new -/
abbrev TSlD := EnvD → Nat → WD → (List Slot → Nat → Prop) → Prop
/-- items of a parallel assignment: kept, or new things -/
def ItsRp (Z : Wd) (H0 : Hp) (σ : L2.St) (env : EnvD) (Hf H : Hp) : List Slot → List V → Prop
  | [], vs => vs = []
  | .val d :: r, vs => ∃ v w, vs = v :: w ∧ Rp Z.toWz Hf d v ∧ ItsRp Z H0 σ env Hf H r w
  | .own d :: r, vs => ∃ a w, vs = .ref a :: w ∧ Fresh Z H0 σ Hf env a ∧ OwnRp Z.toWz Hf H a d ∧ (∀ e b, (Slot.own e, V.ref b) ∈ List.zip r w → b ≠ a) ∧ ItsRp Z H0 σ env Hf H r w
  | .un :: _, _ => False
def liftIt (F : Fd) (t : TSlD) : TA := fun σ H Q => ∃ (Hf : Hp) (env : EnvD) (c : Nat) (Wd : WD) (Qd : List Slot → Nat → Prop), Sim F.Z F.H0 F.G0 σ H Hf env c ∧ XL F σ env Wd ∧ t env c Wd Qd ∧
  ∀ (vs : List V) (H' Hf' : Hp) (c' : Nat) (ds : List Slot), Sim F.Z F.H0 F.G0 σ H' Hf' env c' → Same Hf Hf' → ItsRp F.Z F.H0 σ env Hf' H' ds vs → Qd ds c' → Q vs H'
abbrev DAI (X : Cx) (F : Fd) (es : List Expr) (t : TSlD) : Prop := PA X es (liftIt F t)
@[simp] def tNilI : TSlD := fun _ c _ Q => Q [] c
@[simp] def tConsV (t : TED) (u : TSlD) : TSlD := fun env c W Q => t env c W fun d c1 => u env c1 W fun ds c2 => Q (.val d :: ds) c2
@[simp] def tConsO (t : TED) (u : TSlD) : TSlD := fun env c W Q => t env c W fun d c1 => u env c1 W fun ds c2 => Q (.own d :: ds) c2
theorem xl_enter {F : Fd} {σ : L2.St} {env : EnvD} {Wd : WD} {H Hf : Hp} {c : Nat} (S : Sim F.Z F.H0 F.G0 σ H Hf env c) (x : XL F σ env Wd) : XL ⟨F.Z, mask H σ env, Hf, F.W⟩ σ env Wd :=
  fun cls dx H' Hf' c' d B i w => x cls dx H' Hf' c' d (S.join (vs := []) B (fun _ _ => rfl) fun _ _ => rfl) i w
theorem its_out {Z : Wd} {H0 G0 : Hp} {σ : L2.St} {H Hf H' Hf' : Hp} {env : EnvD} {c : Nat} (S : Sim Z H0 G0 σ H Hf env c) : ∀ {ss : List Slot} {vs : List V}, ItsRp Z (mask H σ env) σ env Hf' H' ss vs → ItsRp Z H0 σ env Hf' H' ss vs
  | [], vs, h => h
  | .val d :: r, vs, ⟨v, w, e, h1, h2⟩ => ⟨v, w, e, h1, its_out S h2⟩
  | .own d :: r, vs, ⟨a, w, e, f, h1, h2, h3⟩ => by
    have m : mask H σ env a = H a := mask_out f.ns
    have hn : H a = none := by rw [← m]; exact f.h0
    refine ⟨a, w, e, ⟨?_, f.hf, f.nt, f.ns⟩, h1, h2, its_out S h3⟩
    cases q : H0 a with
    | none => rfl
    | some o =>
      rw [S.keep a o q fun z => f.nt z.t] at hn
      cases hn
theorem its_zip {Z : Wd} {H0 : Hp} {σ : L2.St} {Hf H : Hp} {env : EnvD} {e : D} {b : Addr} : ∀ {ss : List Slot} {vs : List V}, ItsRp Z H0 σ env Hf H ss vs → (Slot.own e, V.ref b) ∈ List.zip ss vs → H0 b = none
  | .val d :: r, vs, ⟨v, w, eq, h1, h2⟩, m => by
    subst eq
    rcases List.mem_cons.mp m with z | z
    · cases z
    · exact its_zip h2 z
  | .own d :: r, vs, ⟨a, w, eq, f, h1, h2, h3⟩, m => by
    subst eq
    rcases List.mem_cons.mp m with z | z
    · cases z
      exact f.h0
    · exact its_zip h3 z
section
variable {X : Cx} {F : Fd} {e : Expr} {es : List Expr} {t : TED} {u : TSlD}
theorem dai_nil : DAI X F [] tNilI := PA.imp pa_nil fun σ H Q ⟨Hf, env, c, Wd, Qd, S, _, ht, k⟩ => k [] H Hf c [] S (Same.refl _) rfl ht
theorem dai_val (ha : DE X F e t) (hr : DAI X F es u) (hs : starEach (e :: es) X.env = (false, eval e X.env) :: starEach es X.env := by rfl) : DAI X F (e :: es) (tConsV t u) :=
  PA.imp (pa_cons ha hr hs) fun σ H Q ⟨Hf, env, c, Wd, Qd, S, x, ht, k⟩ => ⟨Hf, env, c, Wd, _, S, x, ht, fun v H1 Hf1 c1 d S1 s1 k1 r1 q1 =>
    ⟨Hf1, env, c1, Wd, _, S1, x, q1, fun vs H2 Hf2 c2 ds S2 s2 r2 q2 => k (v :: vs) H2 Hf2 c2 (.val d :: ds) S2 (s1.trans s2) ⟨v, vs, rfl, Rp.mono s2 _ _ r1, r2⟩ q2⟩⟩
theorem dai_own (ha : DO X F e t) (hr : ∀ H0 G0 : Hp, DAI X ⟨F.Z, H0, G0, F.W⟩ es u) (hs : starEach (e :: es) X.env = (false, eval e X.env) :: starEach es X.env := by rfl) : DAI X F (e :: es) (tConsO t u) := by
  have hr' : PA X es (fun σ H Q => ∃ H0 G0 : Hp, liftIt ⟨F.Z, H0, G0, F.W⟩ u σ H Q) := ⟨fun pos pins s σ H Q I ⟨H0, G0, q⟩ => (hr H0 G0).run pos pins s σ H Q I q⟩
  refine PA.imp (pa_cons ha hr' hs) fun σ H Q ⟨Hf, env, c, Wd, Qd, S, x, ht, k⟩ => ⟨Hf, env, c, Wd, _, S, x, ht, fun a H1 Hf1 c1 d S1 s1 k1 f1 hn o1 q1 => ?_⟩
  refine ⟨mask H1 σ env, Hf1, Hf1, env, c1, Wd, _, S1.enter, xl_enter S1 x, q1, fun vs H2 Hf2 c2 ds S2 s2 its q2 => ?_⟩
  obtain ⟨ob, hob⟩ := o1.some
  have m : mask H1 σ env a = some ob := by rw [mask_out f1.ns]; exact hob
  have h2 : H2 a = some ob := S2.keep a ob m fun z => f1.nt z.t
  have hf2 : Hf2 a = none := by
    cases q : Hf2 a with
    | none => rfl
    | some o =>
      have z := S2.new a (by rw [q]; exact fun z => by cases z) f1.hf
      replace z : NewB (mask H1 σ env a) := z
      rw [m] at z
      cases d with
      | lst ds => obtain ⟨vs, e, _⟩ := o1; rw [hob] at e; cases e; rcases z with z | ⟨xs, z⟩ <;> cases z
      | dic t ks ds => cases t <;> (obtain ⟨kvs, e, _⟩ := o1; rw [hob] at e; cases e; rcases z with z | ⟨xs, z⟩ <;> cases z)
      | _ => exact o1.elim
  have o2 : OwnRp F.Z.toWz Hf2 H2 a d := OwnRp.mono (Z := F.Z) s2 KeepX.refl f1.nt (OwnRp.at (by rw [h2, hob]) o1)
  refine k (.ref a :: vs) H2 Hf2 c2 (.own d :: ds) (S1.join (vs := []) S2 (fun _ _ => rfl) fun _ _ => rfl) (s1.trans s2) ⟨a, vs, rfl, ⟨f1.h0, hf2, f1.nt, f1.ns⟩, o2, fun e b mb eb => ?_, its_out S1 its⟩ q2
  have z : mask H1 σ env b = none := its_zip its mb
  rw [eb, m] at z
  cases z
end
/-! ### the stores -/
@[simp] def setSl (env : EnvD) : List Nat → List Slot → EnvD
  | i :: is, s :: ss => setSl (env.set i s) is ss
  | _, _ => env
theorem Fresh.setV {Z : Wd} {H0 : Hp} {σ : L2.St} {Hf : Hp} {env : EnvD} {a : Addr} (f : Fresh Z H0 σ Hf env a) (i : Nat) (d : D) (v : V) : Fresh Z H0 (σ.set i (some v)) Hf (env.set i (.val d)) a := ⟨f.h0, f.hf, f.nt, fun j e h => by
  rw [List.getElem?_set] at h
  by_cases hj : i = j
  · rw [if_pos hj] at h
    split at h <;> cases h
  · rw [if_neg hj] at h
    rw [List.getElem?_set_ne hj]
    exact f.ns j e h⟩
theorem Fresh.setO {Z : Wd} {H0 : Hp} {σ : L2.St} {Hf : Hp} {env : EnvD} {a b : Addr} (f : Fresh Z H0 σ Hf env a) (i : Nat) (d : D) (hb : a ≠ b) : Fresh Z H0 (σ.set i (some (.ref b))) Hf (env.set i (.own d)) a := ⟨f.h0, f.hf, f.nt, fun j e h => by
  rw [List.getElem?_set] at h
  by_cases hj : i = j
  · rw [List.getElem?_set, if_pos hj]
    split
    · intro z
      cases z
      exact hb rfl
    · intro z; cases z
  · rw [if_neg hj] at h
    rw [List.getElem?_set_ne hj]
    exact f.ns j e h⟩
theorem its_setV {Z : Wd} {H0 : Hp} {σ : L2.St} {Hf H : Hp} {env : EnvD} {i : Nat} {d : D} {v : V} : ∀ {ss : List Slot} {vs : List V}, ItsRp Z H0 σ env Hf H ss vs → ItsRp Z H0 (σ.set i (some v)) (env.set i (.val d)) Hf H ss vs
  | [], vs, h => h
  | .val _ :: r, vs, ⟨w, ws, e, h1, h2⟩ => ⟨w, ws, e, h1, its_setV h2⟩
  | .own _ :: r, vs, ⟨a, ws, e, f, h1, h2, h3⟩ => ⟨a, ws, e, f.setV i d v, h1, h2, its_setV h3⟩
theorem its_setO {Z : Wd} {H0 : Hp} {σ : L2.St} {Hf H : Hp} {env : EnvD} {i : Nat} {d : D} {b : Addr} : ∀ {ss : List Slot} {vs : List V}, (∀ e a, (Slot.own e, V.ref a) ∈ List.zip ss vs → a ≠ b) → ItsRp Z H0 σ env Hf H ss vs → ItsRp Z H0 (σ.set i (some (.ref b))) (env.set i (.own d)) Hf H ss vs
  | [], vs, _, h => h
  | .val _ :: r, vs, n, ⟨w, ws, e, h1, h2⟩ => ⟨w, ws, e, h1, its_setO (fun e' a m => n e' a (by subst e; exact List.mem_cons_of_mem _ m)) h2⟩
  | .own _ :: r, vs, n, ⟨a, ws, e, f, h1, h2, h3⟩ => ⟨a, ws, e, f.setO i d (n _ a (by subst e; exact List.mem_cons_self)), h1, h2, its_setO (fun e' a' m => n e' a' (by subst e; exact List.mem_cons_of_mem _ m)) h3⟩
theorem sim_its {Z : Wd} {H0 G0 H Hf : Hp} {c : Nat} : ∀ {is : List Nat} {ss : List Slot} {vs : List V} {σ : L2.St} {env : EnvD}, Sim Z H0 G0 σ H Hf env c → ItsRp Z H0 σ env Hf H ss vs → Sim Z H0 G0 (setAll σ is vs) H Hf (setSl env is ss) c
  | [], ss, vs, σ, env, S, h => by cases ss <;> cases vs <;> exact S
  | i :: is, [], vs, σ, env, S, h => by
    cases h
    exact S
  | i :: is, .val d :: ss, vs, σ, env, S, ⟨v, w, e, h1, h2⟩ => by
    subst e
    have z := sim_its (is := is) (S.set h1 i) (its_setV h2)
    exact z
  | i :: is, .own d :: ss, vs, σ, env, S, ⟨a, w, e, f, h1, h2, h3⟩ => by
    subst e
    have z := sim_its (is := is) (S.setOwn f h1 i) (its_setO h2 h3)
    exact z
theorem its_length {Z : Wd} {H0 : Hp} {σ : L2.St} {Hf H : Hp} {env : EnvD} : ∀ {ss : List Slot} {vs : List V}, ItsRp Z H0 σ env Hf H ss vs → ss.length = vs.length
  | [], vs, h => by cases h; rfl
  | .val _ :: r, vs, ⟨w, ws, e, h1, h2⟩ => by subst e; rw [List.length_cons, List.length_cons, its_length h2]
  | .own _ :: r, vs, ⟨a, ws, e, f, h1, h2, h3⟩ => by subst e; rw [List.length_cons, List.length_cons, its_length h3]
@[simp] def tParD (is : List Nat) (u : TSlD) : TSD := fun D env c => u env c (fun d c1 => D.ex d env c1) fun ss c1 => ss.length = is.length ∧ D.nx (setSl env is ss) c1
section
variable {X : Cx} {F : Fd} {u : TSlD} {pos : Pos}
theorem ds_par2 (i j : Nat) {x y : Str} {a b : Expr} {px py pt : Pos} {kt k2 pt2} (hN : X.N.Nodup) (ha : DAI X F [a, b] u) (hij : i ≠ j) (hw : swappedStores [.Tuple [.Name x px, .Name y py] kt pt] (.Tuple [a, b] k2 pt2) X.env = pure (some [x, y])) (hc : X.calm = true := by rfl) (hi : X.N[i]? = some x := by rfl) (hj : X.N[j]? = some y := by rfl)
    (hx : X.env.scope.names.lookup x = some .local := by rfl) (hy : X.env.scope.names.lookup y = some .local := by rfl)
    (hs : swapsWithSole [.Tuple [.Name x px, .Name y py] kt pt] (.Tuple [a, b] k2 pt2) pos.line X.env = pure false := by rfl) :
    DS X F (.Assign [.Tuple [.Name x px, .Name y py] kt pt] (.Tuple [a, b] k2 pt2) pos) (tParD [i, j] u) :=
  PS.imp (ps_par hc hN hi hj hij hx hy ha hw hs) fun D0 σ H ⟨Hf, env, c, Dd, S, L, h⟩ => ⟨Hf, env, c, _, _, S, L.xl σ env, h, fun vs H' Hf' c' ss S' s1 its ⟨hl, q⟩ => by
    have hv := its_length its
    match vs, hv.symm.trans hl with
    | [v, w], _ => exact ⟨v, w, rfl, L.nx _ H' Hf' _ c' (sim_its (is := [i, j]) S' its) s1 q⟩⟩
theorem ds_par3 (i j l : Nat) {x y z : Str} {a b c : Expr} {px py pz pt : Pos} {kt k2 pt2} (hN : X.N.Nodup) (ha : DAI X F [a, b, c] u) (hij : i ≠ j) (hil : i ≠ l) (hjl : j ≠ l) (hw : swappedStores [.Tuple [.Name x px, .Name y py, .Name z pz] kt pt] (.Tuple [a, b, c] k2 pt2) X.env = pure (some [x, y, z])) (hc : X.calm = true := by rfl) (hi : X.N[i]? = some x := by rfl) (hj : X.N[j]? = some y := by rfl) (hl : X.N[l]? = some z := by rfl)
    (hx : X.env.scope.names.lookup x = some .local := by rfl) (hy : X.env.scope.names.lookup y = some .local := by rfl) (hz : X.env.scope.names.lookup z = some .local := by rfl)
    (hs : swapsWithSole [.Tuple [.Name x px, .Name y py, .Name z pz] kt pt] (.Tuple [a, b, c] k2 pt2) pos.line X.env = pure false := by rfl) :
    DS X F (.Assign [.Tuple [.Name x px, .Name y py, .Name z pz] kt pt] (.Tuple [a, b, c] k2 pt2) pos) (tParD [i, j, l] u) :=
  PS.imp (ps_par3 hc hN hi hj hl hij hil hjl hx hy hz ha hw hs) fun D0 σ H ⟨Hf, env, c, Dd, S, L, h⟩ => ⟨Hf, env, c, _, _, S, L.xl σ env, h, fun vs H' Hf' c' ss S' s1 its ⟨hl, q⟩ => by
    have hv := its_length its
    match vs, hv.symm.trans hl with
    | [v, w, u], _ => exact ⟨v, w, u, rfl, L.nx _ H' Hf' _ c' (sim_its (is := [i, j, l]) S' its) s1 q⟩⟩
end
/-! ### expressions that change a slot's own thing -/
abbrev TPD := EnvD → Nat → WD → (D → EnvD → Nat → Prop) → Prop
def liftP (F : Fd) (t : TPD) : TE := fun σ H Q => ∃ (Hf : Hp) (env : EnvD) (c : Nat) (Wd : WD) (Qd : D → EnvD → Nat → Prop), Sim F.Z F.H0 F.G0 σ H Hf env c ∧ XL F σ env Wd ∧ t env c Wd Qd ∧
  ∀ (v : V) (H' Hf' : Hp) (c' : Nat) (d : D) (env' : EnvD), Sim F.Z F.H0 F.G0 σ H' Hf' env' c' → Same Hf Hf' → Rp F.Z.toWz Hf' d v → Qd d env' c' → Q v H'
abbrev DP (X : Cx) (F : Fd) (e : Expr) (t : TPD) : Prop := PE X e (liftP F t)
section
variable {X : Cx} {F : Fd} {e : Expr} {pos : Pos} {t : TPD} {te : TED}
@[simp] def tSetP (i : Nat) (t : TPD) : TSD := fun D env c => t env c (fun d c1 => D.ex d env c1) fun d env' c1 => D.nx (env'.set i (.val d)) c1
theorem ds_setP (i : Nat) {x : Str} {p : Pos} (hN : X.N.Nodup) (he : DP X F e t) (hi : X.N[i]? = some x := by rfl) (hx : Loc X.env.scope x := by first | exact Or.inl rfl | exact Or.inr rfl) (hs : swapsWith e (some (.Name x p)) pos.line X.env = pure false := by rfl)
    (hf : X.fn x = true ∨ X.env.scope.names.lookup x = some .local := by first | exact .inl rfl | exact .inr rfl) : DS X F (.Assign [.Name x p] e pos) (tSetP i t) :=
  PS.imp (ps_set hN hi hx he hs hf) fun D σ H ⟨Hf, env, c, Dd, S, L, h⟩ => ⟨Hf, env, c, _, _, S, L.xl σ env, h, fun v H' Hf' c' d env' S' s1 r q => L.nx _ H' Hf' _ c' (S'.set r i) s1 q⟩
@[simp] def tDropP (t : TPD) : TSD := fun D env c => t env c (fun d c1 => D.ex d env c1) fun _ env' c1 => D.nx env' c1
theorem ds_exprP (he : DP X F e t) (hs : swapsWith e none pos.line X.env = pure false := by rfl) : DS X F (.Expr e pos) (tDropP t) := PS.imp (ps_expr he hs) fun D σ H ⟨Hf, env, c, Dd, S, L, h⟩ =>
  ⟨Hf, env, c, _, _, S, L.xl σ env, h, fun v H' Hf' c' d env' S' s1 _ q => L.nx σ H' Hf' env' c' S' s1 q⟩
/-- xs.append(ys.pop(..)) -/
@[simp] def tAppP (i : Nat) (t : TPD) : TSD := fun D env c => match env[i]? with
  | some (.own (.lst _)) => t env c (fun d c1 => D.ex d env c1) fun d env' c1 => match env'[i]? with
    | some (.own (.lst ds)) => ds.length < sizeLine ∧ D.nx (env'.set i (.own (.lst (ds ++ [d])))) c1
    | _ => False
  | _ => False
theorem ds_appP (i : Nat) {x : Str} {p apos cpos : Pos} (he : DP X F e t) (hx : PE X (.Name x p) (tVar i) := by exact pv _)
    (hbase : attributeBase (.Name x p) "append" X.env (eval (.Name x p) X.env) = eval (.Name x p) X.env := by rfl)
    (hfew : ((backTo cpos (starEach (e :: []) X.env)).all (fun x => !x.1) && (backToKw cpos (keywordEach [] X.env)).all (fun x => x.1.isSome)
      && decide ((e :: []).length + ([] : List Keyword).length + (if ([] : List Keyword).isEmpty then 0 else 1) < 30)) = true := by rfl)
    (hline : (apos.endLine == cpos.line) = true := by rfl) (he2 : starEach (e :: []) X.env = (false, eval e X.env) :: starEach [] X.env := by rfl) (hplain : (backTo cpos (starEach [] X.env)).any (·.1) = false := by rfl)
    (hs : swapsWith (.Call (.Attribute (.Name x p) "append" apos) [e] [] cpos) none pos.line X.env = pure false := by rfl) :
    DS X F (.Expr (.Call (.Attribute (.Name x p) "append" apos) [e] [] cpos) pos) (tAppP i t) :=
  PS.imp (ps_expr (pe_bm PySem.F.plainAttrs_list PySem.F.slot_list_append PySem.F.type_list_append (fun pins s σ H x xs v us Q I rx rxs h => mt_append pins s σ H x xs v us Q I rx rxs h) hx (pa_cons he pa_nil he2) hbase hfew hline he2 hplain) hs) fun D σ H ⟨Hf, env, c, Dd, S, L, h⟩ => by
  unfold tAppP at h
  split at h
  · rename_i ds0 e0
    obtain ⟨a, e1, h2, h3, h4, vs, e5, r5⟩ := S.own i _ e0
    refine ⟨.ref a, e1, .inl ⟨rfl, vs, SqL.of e5⟩, Hf, env, c, _, _, S, L.xl σ env, h, fun v H' Hf' c' d env' S' s1 r q => ?_⟩
    split at q
    · rename_i ds e6
      obtain ⟨hl, q⟩ := q
      obtain ⟨a', g1, g2, g3, g4, ws, g5, q5⟩ := S'.own i _ e6
      rw [e1] at g1
      cases g1
      refine ⟨a, ws, v, rfl, rfl, g5, by rw [← q5.length]; exact hl, ?_⟩
      exact L.nx σ _ Hf' _ c' (S'.change (d' := .lst (ds ++ [d])) e6 e1 ⟨_, upd_same, q5.append (RpL.cons r RpL.nil)⟩) s1 q
    · exact q.elim
  · exact h.elim
/-- ys.pop(e) -/
@[simp] def tPopAtD (j : Nat) (te : TED) : TPD := fun env c W Q => match env[j]? with
  | some (.own (.lst ds)) => te env c W fun d c1 => match d with
    | .int i => (-(2 ^ 63) ≤ i ∧ i < 2 ^ 63) ∧ ∃ k x, seqIndex? i ds.length = some k ∧ ds[k]? = some x ∧ Q x (env.set j (.own (.lst (ds.eraseIdx k)))) c1
    | _ => False
  | _ => False
theorem dp_popAt (j : Nat) {x : Str} {p apos cpos : Pos} (he : DE X F e te) (hx : PE X (.Name x p) (tVar j) := by exact pv _)
    (hbase : attributeBase (.Name x p) "pop" X.env (eval (.Name x p) X.env) = eval (.Name x p) X.env := by rfl)
    (hfew : ((backTo cpos (starEach (e :: []) X.env)).all (fun x => !x.1) && (backToKw cpos (keywordEach [] X.env)).all (fun x => x.1.isSome)
      && decide ((e :: []).length + ([] : List Keyword).length + (if ([] : List Keyword).isEmpty then 0 else 1) < 30)) = true := by rfl)
    (hline : (apos.endLine == cpos.line) = true := by rfl) (he2 : starEach (e :: []) X.env = (false, eval e X.env) :: starEach [] X.env := by rfl) (hplain : (backTo cpos (starEach [] X.env)).any (·.1) = false := by rfl) :
    DP X F (.Call (.Attribute (.Name x p) "pop" apos) [e] [] cpos) (tPopAtD j te) :=
  PE.imp (pe_bm PySem.F.plainAttrs_list PySem.F.slot_list_pop PySem.F.type_list_pop (fun pins s σ H x xs v us Q I rx rxs h => mt_popAt pins s σ H x xs v us Q I rx rxs h) hx (pa_cons he pa_nil he2) hbase hfew hline he2 hplain) fun σ H Q ⟨Hf, env, c, Wd, Qd, S, xl, h, k⟩ => by
  unfold tPopAtD at h
  split at h
  · rename_i ds0 e0
    obtain ⟨a, e1, h2, h3, h4, vs, e5, r5⟩ := S.own j _ e0
    refine ⟨.ref a, e1, .inl ⟨rfl, vs, SqL.of e5⟩, Hf, env, c, _, _, S, xl, h, fun v H' Hf' c' d S' s1 k1 r q => ?_⟩
    split at q
    · rename_i i
      obtain ⟨⟨b1, b2⟩, n, y, q1, q2, q3⟩ := q
      cases rp_int.mp r
      obtain ⟨a', g1, g2, g3, g4, ws, g5, q5⟩ := S'.own j _ e0
      rw [e1] at g1
      cases g1
      obtain ⟨w, w1, w2⟩ := q5.get q2
      refine ⟨a, ws, i, n, w, rfl, rfl, g5, b1, b2, by rw [← q5.length]; exact q1, w1, ?_⟩
      exact k w _ Hf' c' y _ (S'.change (d' := .lst (ds0.eraseIdx n)) e0 e1 ⟨_, upd_same, q5.erase n⟩) s1 w2 q3
    · exact q.elim
  · exact h.elim
/-- ys.pop() -/
@[simp] def tPopD (j : Nat) : TPD := fun env c _ Q => match env[j]? with
  | some (.own (.lst ds)) => ∃ x, ds[ds.length - 1]? = some x ∧ Q x (env.set j (.own (.lst ds.dropLast))) c
  | _ => False
theorem RpL.dropLast {Z : Wz} {H : Hp} {ds : List D} {vs : List V} (h : RpL Z H ds vs) : RpL Z H ds.dropLast vs.dropLast := by
  rw [List.dropLast_eq_take, List.dropLast_eq_take, h.length]
  exact h.take _
theorem dp_pop (j : Nat) {x : Str} {p apos cpos : Pos} (hx : PE X (.Name x p) (tVar j) := by exact pv _)
    (hbase : attributeBase (.Name x p) "pop" X.env (eval (.Name x p) X.env) = eval (.Name x p) X.env := by rfl) (hline : (apos.endLine == cpos.line) = true := by rfl) :
    DP X F (.Call (.Attribute (.Name x p) "pop" apos) [] [] cpos) (tPopD j) :=
  PE.imp (pe_bm0 PySem.F.plainAttrs_list PySem.F.slot_list_pop PySem.F.type_list_pop (fun pins s σ H x xs v us Q I rx rxs h => mt_pop pins s σ H x xs v us Q I rx rxs h) hx hbase hline) fun σ H Q ⟨Hf, env, c, Wd, Qd, S, xl, h, k⟩ => by
  unfold tPopD at h
  split at h
  · rename_i ds0 e0
    obtain ⟨a, e1, h2, h3, h4, vs, e5, r5⟩ := S.own j _ e0
    obtain ⟨y, q2, q3⟩ := h
    obtain ⟨w, w1, w2⟩ := r5.get q2
    rw [r5.length] at w1
    exact ⟨.ref a, e1, .inl ⟨rfl, vs, SqL.of e5⟩, a, vs, w, rfl, rfl, e5, w1, k w _ Hf c y _ (S.change (d' := .lst ds0.dropLast) e0 e1 ⟨_, upd_same, r5.dropLast⟩) (Same.refl _) w2 q3⟩
  · exact h.elim
end
end DL
set_option Elab.async false
set_option linter.all false
set_option maxRecDepth 100000
set_option maxHeartbeats 1000000
/-! DL18: dict displays of constants. -/
namespace DL
open PySem PySem.Spec PyProof.Rows L2
theorem tPairs_c {σ : L2.St} {H : Hp} {Q : List (V × V) → Hp → Prop} : ∀ {kvs : List (Key × V)}, Q (kvs.map fun p => (kV p.1, p.2)) H → tPairs (kvs.map fun p => (tC (kV p.1), tC p.2)) σ H Q
  | [], h => h
  | p :: r, h => tPairs_c (kvs := r) (Q := fun ps H3 => Q ((kV p.1, p.2) :: ps) H3) h
theorem do_dispC {X : Cx} {F : Fd} {pos : Pos} {keys : List (Option Expr)} {values : List Expr} (kvs : List (Key × V)) (ds : List D) (h : PPs X pos keys values (kvs.map fun p => (tC (kV p.1), tC p.2))) (hall : keys.all (·.isSome) = true) (hl : keys.length = values.length) (h0 : keys ≠ [])
    (h15 : keys.length ≤ 15) (hk : kvs.length ≤ 15) (hm : mergeK [] kvs = kvs) (hd : ∀ (Z : Wz) (H : Hp), RpL Z H ds (kvs.map fun p => p.2)) : DO X F (.Dict keys values pos) (tCD (.dic false (kvs.map fun p => kD p.1) ds)) :=
  PE.imp (pe_disp h hall hl h0 h15) fun σ H Q ⟨Hf, env, c, Wd, Qd, S, x, ht, k⟩ p hp => tPairs_c ⟨upd_same, kvs, rfl, hk, by
    rw [hm]
    have f := S.fresh hp
    have S1 := (S.laid hp (.dK [])).touch f (.dK kvs) (fun u hu => by rw [upd_same] at hu; cases hu; exact ntab_dK)
    exact k p _ Hf c (.dic false (kvs.map fun (p : Key × V) => kD p.1) ds) S1 (Same.refl _) (Keep.refl.upd hp (Keep.of (same_upd hp)) _) f (fun o => Keep.refl.upd hp (Keep.refl.upd hp (Keep.of (same_upd hp)) _) o) ⟨kvs, upd_same, rfl, hd _ _⟩ ht⟩
end DL
set_option Elab.async false
set_option linter.all false
set_option maxRecDepth 100000
set_option maxHeartbeats 1000000
/-! DL19: an exception that a clause has caught is kept as a value. -/
namespace DL
open PySem PySem.Spec PyProof.Rows L2

theorem exD_new {P : Program} {w : World} {H : Hp} {h : Heap} {a : Addr} {cls : Value} {dx : Option Addr} {oe : Obj} {vs : Array Value} (e : h.get? a = some oe) (z : Zc cls dx oe) (d : oe.data = .fields vs) : ObjOk P w H h a (ExD cls dx a) :=
  ⟨⟨oe, vs, e, z, d⟩, ⟨oe, e⟩, fun _ _ ⟨o, v, q, r⟩ k => ⟨o, v, k o q, r⟩⟩
section
variable {X : Cx} {pins : List (Addr × Obj)} {σ : L2.St} {H : Hp} {s : Shared}
/-- an object that stands, new since the frame began, comes into sight -/
theorem inv_sightN {a : Addr} {oe : Obj} {o : HO} (I : Inv X pins σ H s) (old : X.s_0.heap.get? a = none) (un : H a = none) (loc : a ≠ X.env.locals) (there : s.heap.get? a = some oe) (nc : ∀ v, oe.data ≠ .cell v) (far : ∀ p ∈ X.pn ++ pins, p.1 ≠ a)
    (new : ObjOk X.prog X.w (upd H a o) s.heap a o) : Inv X pins σ (upd H a o) s := by
  have B := I.base
  have cellsFar : ∀ x c, X.env.cells.lookup x = some c → c ≠ a := fun x c e z => by
    obtain ⟨v, ob, h1, h2⟩ := I.cell x c e
    rw [z, there] at h1
    cases h1
    exact nc _ h2
  constructor
  · exact I.ok
  · exact I.os
  · exact I.bare
  · constructor
    · exact B.keep
    · exact B.slot
    · intro b ob e n x
      have hb : b ≠ a := fun z => by rw [z, old] at e; cases e
      rw [upd_ne hb]
      exact B.free b ob e n x
    · exact B.there
    · intro b xs e
      have q := B.tups b xs e
      rw [upd_ne (ne_of_none q un)]
      exact q
    · intro b ob u e
      have q := B.frzs b ob u e
      rw [upd_ne (ne_of_none q un)]
      exact q
    · intro b ps e
      obtain ⟨more, q⟩ := B.tbls b ps e
      exact ⟨more, by rw [upd_ne (ne_of_none q un)]; exact q⟩
  · exact I.loc
  · exact I.cell
  · rw [upd_ne (Ne.symm loc)]
    exact I.free
  · intro x c e
    rw [upd_ne (cellsFar x c e)]
    exact I.freeC x c e
  · intro p hp
    obtain ⟨h1, h2, h3⟩ := I.pin p hp
    exact ⟨h1, by rw [upd_ne (far p hp)]; exact h2, h3⟩
  · exact HOk.laidN I.hok (fun _ _ e => e) un new
  · exact I.len
theorem inv_sight {a : Addr} {oe : Obj} {vs : Array Value} {o : HO} (I : Inv X pins σ H s) (old : X.s_0.heap.get? a = none) (un : H a = none) (loc : a ≠ X.env.locals) (there : s.heap.get? a = some oe) (data : oe.data = .fields vs) (far : ∀ p ∈ X.pn ++ pins, p.1 ≠ a)
    (new : ObjOk X.prog X.w (upd H a o) s.heap a o) : Inv X pins σ (upd H a o) s := inv_sightN I old un loc there (fun v z => by rw [data] at z; cases z) far new
end
/-- what «except x as n: suite» wishes when the exception's object comes into sight behind the suite; slot i is n's -/
def wKeep (K : PySem.W.Frag) (c : Value) (i nN : Nat) (ts : Addr → Value → Option Addr → TS) (Wout : WX) (D : Ends) : WX := fun cls d σ H =>
  ∃ b, PySem.W.exmOne K cls c = some b ∧ (b = true → σ.length = nN → ∀ a, H a = none → ts a cls d { nx := fun σ' H' => D.nx (σ'.set i none) (upd H' a (ExD cls d a)), rt := fun _ _ => False, bk := fun _ _ => False, ct := fun _ _ => False } (σ.set i (some (.ref a))) H) ∧
    (b = false → Wout cls d σ H)
theorem ps_try_keep {X : Cx} {x n : Str} {c : Value} {i : Nat} {body rest : List Stmt} {first : Stmt} {np pos pos' : Pos} {tb : WX → TS} {ts : Addr → Value → Option Addr → TS} {Wout : WX} (hs : X.stack = X.env :: X.outer) (hf : X.env.frame = some X.env.locals) (hx : X.ex = []) (hN : X.N.Nodup) (hi : X.N[i]? = some n)
    (hln : X.env.kindOf n = some .local) (hc : Names X x c) (tk : Takes X Wout)
    (hb : ∀ (W : WX) (pn : List (Addr × Obj)) (xe : Value → Shared → Prop), Takes (X.tr pn xe) W → PassesOwn (model X.prog X.w) X.A X.env xe → PSs (X.tr pn xe) body (tb W))
    (hsu : ∀ (a : Addr) (oe : Obj) (cls : Value) (d : Option Addr) (pn : List (Addr × Obj)), Zc cls d oe → (∃ vs, oe.data = .fields vs) → PSs (X.suite a ((a, oe) :: pn)) (first :: rest) (ts a cls d)) :
    PS X (.Try body [.ExceptHandler (some (.Name x np)) (some n) (first :: rest) pos'] [] [] pos) (fun D σ H => tb (wKeep X.K c i X.N.length ts Wout D) D σ H) := by
  constructor
  intro pins s σ H D I h
  have ok := I.ok
  have frames : X.A.frames = some (X.env :: X.outer) := by rw [ok.frames, hs]
  apply wpAny_Try_except
  -- what the handlers do with an exception of the body
  have caught : ∀ (u : Value) (s' : Shared), XE (X.tr (X.pn ++ pins) (fun e s₁ => wpAny (model X.prog X.w) X.A (noteFrame e X.env) (fun _ s₂ => wpAny (model X.prog X.w) X.A (setFlight e none) (fun _ s₃ =>
      wpAny (model X.prog X.w) X.A (handleBy e X.env [.ExceptHandler (some (.Name x np)) (some n) (first :: rest) pos']) (SP X pins D) X.xe s₃) X.xe s₂) X.xe s₁)) (wKeep X.K c i X.N.length ts Wout D) u s' →
      wpAny (model X.prog X.w) X.A (noteFrame u X.env) (fun _ s₂ => wpAny (model X.prog X.w) X.A (setFlight u none) (fun _ s₃ =>
        wpAny (model X.prog X.w) X.A (handleBy u X.env [.ExceptHandler (some (.Name x np)) (some n) (first :: rest) pos']) (SP X pins D) X.xe s₃) X.xe s₂) X.xe s' := by
    rintro u s' ⟨a, B, sI, pins1, σ1, H1, cls, d, eu, I1', ground, up1, sky, na, os, ag, b, isExc, yes, no⟩
    subst eu
    have I1 : Inv X pins σ1 H1 sI := I1'.ofTry ok
    rw [show (X.tr (X.pn ++ pins) _).stack = X.env :: X.outer from hs] at sky
    refine Sky.land Zc.steady frames hf sky ?_
    intro h3 fly up3
    have I3 : Inv X pins σ1 H1 { s' with heap := h3 } := I1.landed ground fly.1 (up1.trans up3) os ag
    obtain ⟨oe3, vs3, e3, z3, d3⟩ := fly.there
    -- the exception's object is no frame, and it is new
    have noFrame : a ∉ frs (X.env :: X.outer) := by
      intro m
      obtain ⟨_, o', eo, bad⟩ := fly.2.2.1.mem m
      rw [e3] at eo
      cases eo
      exact bad _ d3
    have noLoc : a ≠ X.env.locals := fun z => noFrame (List.mem_filterMap.mpr ⟨X.env, List.mem_cons_self, by rw [hf, z]⟩)
    have noFs : a ∉ X.fs := fun m => by
      obtain ⟨v, hv, q⟩ := List.mem_filterMap.mp m
      exact noFrame (List.mem_filterMap.mpr ⟨v, List.mem_cons_of_mem _ hv, q⟩)
    have newI : sI.heap.get? a = none := by
      cases q : sI.heap.get? a with
      | none => rfl
      | some o =>
        have z := ground a o q (by rw [show (X.tr (X.pn ++ pins) _).stack = X.env :: X.outer from hs]; exact noFrame)
        rw [fly.2.1] at z
        cases z
    have old : X.s_0.heap.get? a = none := by
      cases q : X.s_0.heap.get? a with
      | none => rfl
      | some o =>
        obtain ⟨o', z⟩ := I1.base.there a o q (by rw [hx]; exact List.not_mem_nil)
        rw [newI] at z
        cases z
    have far : ∀ p ∈ X.pn ++ pins, p.1 ≠ a := fun p hp z => by
      have q := (I1.pin p hp).1
      rw [z, newI] at q
      cases q
    have S3 := I3.suite e3 d3 na noLoc noFs
    refine wpAny_handleBy_cons (codeAny_handlers_test ?_) (by intro q; cases q)
    have typ : PySem.W.Looks (model X.prog X.w) h3 (typeOf (.ref a)) cls := fun A Q E s k q => wpAny_typeOf_ref (k _ _ e3) (by rw [z3.1]; exact q)
    have hit := PySem.W.exm_one (M := model X.prog X.w) I3.kIn typ isExc
    have name : ∀ {Q E : Value → Shared → Prop}, Q c { s' with heap := h3 } → wpAny (model X.prog X.w) (X.A.mark (some (.ref a))) (eval (.Name x np) X.env) Q E { s' with heap := h3 } := by
      intro Q E q
      obtain ⟨hg, hdb, hm | ⟨hm, hv, hn⟩⟩ := hc
      · exact ld_glob (X := X.suite a ((a, oe3) :: (X.pn ++ pins))) S3 hg hm q hdb
      · exact ld_blt (X := X.suite a ((a, oe3) :: (X.pn ++ pins))) S3 hg hm hv q hn hdb
    refine name (hit.here ?_)
    cases b with
    | false =>
      show wpAny _ X.A (handleBy (.ref a) X.env []) _ _ _
      apply wpAny_handleBy_nil
      obtain ⟨_, _, _, oe, vs, T, oT, ts', he, hz, hd, h1, hr⟩ := id fly
      unfold PySem.passOn
      refine wpAny_bind (wpAny_field he hd h1 ?_)
      rw [if_neg (show ¬ ((Value.ref T == Value.none) = true) from by simp)]
      have away : wpAny (model X.prog X.w) X.A (setFlight (.ref a) X.env.frame) (fun _ s4 => wpAny (model X.prog X.w) X.A (throw (.ref a) : Sem Flow) (SP X pins D) X.xe s4) X.xe { s' with heap := h3 } := by
        rw [hf]
        refine HandSPX.setFlight_upZ fly fun h4 held up4 => wpAny_throw (tk _ _ ?_)
        exact ⟨a, B, sI, pins, σ1, H1, cls, d, rfl, I1, ground, (up1.trans up3).trans up4, .inr (.inr (by rw [hs]; exact held)), na, os, ag, no rfl⟩
      first
        | exact wpAny_bind (wpAny_pure (wpAny_bind away))
        | exact wpAny_bind away
    | true =>
      apply codeAny_handlers_suite_as
      refine HandSPX.lands_againZ fly ?_
      intro h4 fly4 up4
      have I4 : Inv X pins σ1 H1 { s' with heap := h4 } := I1.landed ground fly4.1 ((up1.trans up3).trans up4) os ag
      obtain ⟨oe4, vs4, e4, z4, d4⟩ := fly4.there
      have S4 := I4.suite e4 d4 na noLoc noFs
      refine store_ok (X := X.suite a ((a, oe4) :: (X.pn ++ pins))) (v := .ref a) S4 hN hi (.inl hln) rfl ?_ (.inr hln)
      intro s5 S5
      refine wpAny_mono ((hsu a oe4 cls d (X.pn ++ pins) z4 ⟨_, d4⟩).run [] s5 _ H1 _ S5 (yes rfl I1.len a na)) ?_ (fun _ _ z => False.elim z)
      intro f s6 post
      cases f with
      | next =>
        obtain ⟨σ6, H6, S6, q6⟩ := post
        obtain ⟨g1, g2, _⟩ := S6.pin (a, oe4) (by rw [List.append_nil]; exact List.mem_cons_self)
        have I6 := inv_sight (S6.unsuite ok) old g2 noLoc g1 d4 far (exD_new g1 z4 d4)
        exact gone_ok I6 hN hi hln fun s7 I7 => ⟨_, _, I7, q6⟩
      | brk =>
        obtain ⟨_, _, _, z⟩ := post
        exact z.elim
      | cont =>
        obtain ⟨_, _, _, z⟩ := post
        exact z.elim
      | ret u =>
        obtain ⟨_, _, _, _, _, z⟩ := post
        exact z.elim
  refine wpAny_mono ((hb (wKeep X.K c i X.N.length ts Wout D) (X.pn ++ pins) _ (fun u s' xx => caught u s' xx) PassesOwn.looking).run [] s σ H D (I.toTry _) h) ?_ (fun e s1 he => he)
  intro f s1 post
  cases f with
  | next =>
    obtain ⟨σ', H', J, q⟩ := post
    exact wpAny_execs_nil ⟨σ', H', J.ofTry ok, q⟩
  | brk =>
    obtain ⟨σ', H', J, q⟩ := post
    exact ⟨σ', H', J.ofTry ok, q⟩
  | cont =>
    obtain ⟨σ', H', J, q⟩ := post
    exact ⟨σ', H', J.ofTry ok, q⟩
  | ret u =>
    obtain ⟨v, σ', H', J, r, q⟩ := post
    exact ⟨v, σ', H', J.ofTry ok, r, q⟩
end DL
set_option Elab.async false
set_option linter.all false
set_option maxRecDepth 100000
set_option maxHeartbeats 1000000
/-! DL20: _law_caught(lambda: ..). -/
namespace DL
open PySem PySem.Spec PyProof.Rows L2

/-- no table in what a frame began with -/
structure NoTbl (F : Fd) : Prop where
  h : ∀ b ps, F.H0 b ≠ some (.tbl ps)
  g : ∀ b ps, F.G0 b ≠ some (.tbl ps)
theorem Sim.extN {Z : Wd} {H0 G0 : Hp} {σ : L2.St} {H Hf H1 : Hp} {env : EnvD} {c : Nat} (S : Sim Z H0 G0 σ H Hf env c) (h0 : ∀ b ps, H0 b ≠ some (.tbl ps)) (g0 : ∀ b ps, G0 b ≠ some (.tbl ps)) (e : LamX.ExtN H H1) (t : LamX.Tabs Z.tabs H1) : Sim Z H0 G0 σ H1 Hf env c where
  sub := fun b o q => e b o (S.sub b o q) fun ps z => by
    subst z
    exact g0 b ps (S.ntb b ps q)
  g0 := S.g0
  new := S.new
  keep := fun b o q n => e b o (S.keep b o q n) fun ps z => by
    subst z
    exact h0 b ps q
  len := S.len
  val := S.val
  own := fun i d q => by
    obtain ⟨a, h1, h2, h3, h4, h5⟩ := S.own i d q
    obtain ⟨o, ho⟩ := h5.some
    have nt := OwnRp.ntab ho h5
    have h1' := e a o ho fun ps z => nt (.inl ⟨ps, z⟩)
    exact ⟨a, h1, h2, h3, h4, OwnRp.at (by rw [h1', ho]) h5⟩
  inj := S.inj
  st := fun hs => by
    obtain ⟨l, t, ls, cs, a1, a2, a3, r⟩ := S.st hs
    exact ⟨l, t, ls, cs, e _ _ a1 (fun _ z => by cases z), e _ _ a2 (fun _ z => by cases z), e _ _ a3 (fun _ z => by cases z), r⟩
  stf := S.stf
  tab := t
  ntb := S.ntb

/-- what _law_caught makes of its lambda -/
def TTc (K : PySem.W.Frag) (CS : Addr) : (XK → Hp → VK → Prop) → Hp → VK → Prop := fun tl H Q =>
  tl (fun cls d H' => ∃ b, PySem.W.exmOne K cls (.ref CS) = some b ∧ (b = true → ∀ a, H' a = none → Q (.ref a) (upd H' a (ExD cls d a))) ∧ (b = false → False)) H fun _ H' => ∃ v, (some (some V.non) : Option (Option V)) = some (some v) ∧ Q v H'
theorem caught_gives {X : Cx} {Ng : List Str} {x a e y q : Str} {sg : Scope} {g CS : Addr} {cdg : Value} {j : Nat} {b1 b2 b3 p1 p2 p3 p4 p5 p6 p7 p8 p9 p10 p11 : Pos} (er : Str) (hNg : Ng = [a, y, er]) (hnd : Ng.Nodup)
    (hge : sg.names.lookup e = some .globalImplicit) (hme : X.mg e = some (.ref CS)) (hde : (e == ("__debug__" : Str)) = false) (hly : sg.names.lookup y = some .local) (hle : sg.names.lookup er = some .local)
    (hy1 : (y == ("__debug__" : Str)) = false) (hy2 : (y == ("__classdict__" : Str)) = false) (he1 : (er == ("__debug__" : Str)) = false) (he2 : (er == ("__classdict__" : Str)) = false) :
    LamX.GivesTo X Ng x sg g cdg [.Assign [.Name y b1] (.Constant .none j b2) b3, .Try [.Expr (.Call (.Name a p1) [] [] p2) p3] [.ExceptHandler (some (.Name e p4)) (some er) [.Assign [.Name y p5] (.Name er p6) p7] p8] [] [] p9, .Return (some (.Name y p10)) p11] a q (TTc X.K CS) := by
  intro f c' s H Q tl act hc h
  subst hNg
  let Z := (cxOf C8.CX0 X.prog X.w X.K X.mg X.base [a, y, er] x sg g cdg X.A X.stack s H C8.E0).nox
  have hgl : Gl Z e := hge
  have eN : L2.start [a, y, er] [V.ref f] = [some (.ref f), none, none] := rfl
  have vy : Vis Z.env.scope y := Or.inl hly
  have tryPart : PS Z (.Try [.Expr (.Call (.Name a p1) [] [] p2) p3] [.ExceptHandler (some (.Name e p4)) (some er) [.Assign [.Name y p5] (.Name er p6) p7] p8] [] [] p9)
      (fun D σ H => ∃ Ech : XK, (∀ cls d σ' H', Ech cls d H' → wKeep Z.K (.ref CS) 2 Z.N.length (fun _ _ _ => tAsg (tVar 2) (gName 1)) (fun _ _ _ _ => False) D cls d σ' H') ∧ σ[0]? = some (some (.ref f)) ∧ H c' = some (LamX.CodeO c' q) ∧ tl Ech H (fun _ H' => D.nx σ H')) := by
    refine ps_try_keep (X := Z) (c := .ref CS) (i := 2) (ts := fun _ _ _ => tAsg (tVar 2) (gName 1)) (Wout := fun _ _ _ _ => False)
      (tb := fun W D σ H => ∃ Ech : XK, (∀ cls d σ' H', Ech cls d H' → W cls d σ' H') ∧ σ[0]? = some (some (.ref f)) ∧ H c' = some (LamX.CodeO c' q) ∧ tl Ech H (fun _ H' => D.nx σ H')) rfl rfl rfl hnd rfl hle ⟨hgl, hde, .inl hme⟩ takes0 (fun W pn xe tk _ => ?_) (fun a oe cls d pn _ _ => ?_)
    · refine ⟨fun pins s' σ H' D I ⟨Ech, hW, h1, h2, h3⟩ => ?_⟩
      exact (pss_one (ps_expr (pos := p3) (act W pn xe Ech p1 p2 tk hW) rfl)).run pins s' σ H' D I ⟨h1, h2, h3⟩
    · exact pss_one (ps_set (i := 1) (X := Z.suite a ((a, oe) :: pn)) hnd rfl (Or.inl hly) (pe_var (i := 2) rfl (Or.inl hle) he1 he2) rfl (.inr hly))
  refine ⟨_, pss_cons (ps_set (i := 1) (X := Z) hnd rfl (Or.inl hly) pe_non rfl (.inr hly)) (pss_cons tryPart (pss_one (ps_ret (pe_var (X := Z) (i := 1) rfl vy hy1 hy2)))), ?_⟩
  rw [eN]
  refine ⟨fun cls d H' => ∃ b, PySem.W.exmOne X.K cls (.ref CS) = some b ∧ (b = true → ∀ a, H' a = none → Q (.ref a) (upd H' a (ExD cls d a))) ∧ (b = false → False), fun cls d σ' H' ⟨b, e1, e2, e3⟩ => ⟨b, e1, fun hb hl a na => ?_, fun hb => e3 hb⟩, rfl, hc, ?_⟩
  · match σ', hl with
    | [v0, v1, v2], _ => exact ⟨_, rfl, _, rfl, e2 hb a na⟩
  · exact h

/-! ### the call -/
/-- None, or the exception, one of those named -/
@[simp] def tCaughtD (ns : List Str) (te : TED) : TED := fun env c _ Q => te env c (fun d c1 => match d with
  | .exc n as => n ∈ ns ∧ Q (.exc n as) c1
  | _ => False) fun _ c1 => Q .non c1
def lamT (Z : Wd) (te : TED) (E : XK) : TE := fun σ H Q => ∃ H0 G0 : Hp, liftE ⟨Z, H0, G0, fun cls d _ H => E cls d H⟩ te σ H Q
theorem caught_use {F : Fd} {K : PySem.W.Frag} {CS : Addr} {ns : List Str} {te : TED} {σ : L2.St} {H : Hp} {Q : VK} (nt : NoTbl F) (hT : F.Z.tabs ≠ []) (hx : ∀ n ∈ ns, ∀ C, F.Z.mg n = some (.ref C) → PySem.W.exmOne K (.ref C) (.ref CS) = some true)
    (h : liftE F (tCaughtD ns te) σ H Q) : LamX.tLam F.Z.tabs (TTc K CS) (lamT F.Z te) σ H Q := by
  obtain ⟨Hf, env, c, Wd, Qd, S, x, ht, k⟩ := h
  refine ⟨S.tab, fun H1 e1 t1 => ?_⟩
  have S1 := S.extN nt.h nt.g e1 t1
  have kk : Keep F.Z H H1 := fun b o eb n => by
    by_cases z : ∃ ps, o = .tbl ps
    · exact .inl ⟨hT, z⟩
    · exact .inr ⟨o, e1 b o eb fun ps q => z ⟨ps, q⟩, id⟩
  refine ⟨mask H1 σ env, Hf, Hf, env, c, _, _, S1.enter, ?_, ht, fun v H2 Hf2 c2 d B s2 k2 r q => ?_⟩
  · intro cls dx H2 Hf2 c2 d B i w
    obtain ⟨n, C, as, vs, rfl, hn, rfl, hr, hd⟩ := i
    obtain ⟨hm, q⟩ := w
    refine ⟨true, hx n hm C hn, fun _ a na => ?_, fun z => by cases z⟩
    have S2 := S1.join (vs := []) B (fun _ _ => rfl) fun _ _ => rfl
    have g : Grow Hf2 H2 (upd Hf2 a (ExD (.ref C) dx a)) (upd H2 a (ExD (.ref C) dx a)) := Grow.one B.sub na fun _ z => by cases z
    have sm : Same Hf2 (upd Hf2 a (ExD (.ref C) dx a)) := g.hf
    have kE : Keep F.Z H H2 := kk.trans fun b o eb n => by
      by_cases z : ∃ ps, o = .tbl ps
      · exact .inl ⟨hT, z⟩
      · have nt' : ∀ ps, o ≠ .tbl ps := fun ps q => z ⟨ps, q⟩
        by_cases own : ∃ (i : Nat) (d : D), env[i]? = some (Slot.own d) ∧ σ[i]? = some (some (.ref b))
        · obtain ⟨i, d, g1, g2⟩ := own
          obtain ⟨a1, f1, _, _, _, f5⟩ := S1.own i d g1
          rw [g2] at f1
          cases f1
          obtain ⟨a2, p1, _, _, _, p5⟩ := S2.own i d g1
          rw [g2] at p1
          cases p1
          obtain ⟨o2, ho2⟩ := p5.some
          exact .inr ⟨o2, ho2, fun ⟨ps, t⟩ => absurd (.inl ⟨ps, t⟩) (OwnRp.ntab ho2 p5)⟩
        · have m : mask H1 σ env b = H1 b := mask_out fun i d g1 g2 => own ⟨i, d, g1, g2⟩
          exact .inr ⟨o, B.keep b o (by show mask H1 σ env b = some o; rw [m]; exact eb) n, id⟩
    refine k (.ref a) _ _ c2 (.exc n as) (S2.grow g) (B.g0.trans g.hf) (kE.trans (Keep.of g.h)) (rp_exc.mpr ⟨a, C, dx, vs, rfl, hn, upd_same, RpL.mono sm _ _ hr, ?_⟩) q
    rcases hd with hd | ⟨x, f, w, e1, e2, e3⟩
    · exact .inl hd
    · exact .inr ⟨x, f, w, e1, e2, sm _ _ e3⟩
  · exact ⟨.non, rfl, k .non H2 Hf2 c2 .non (S1.join (vs := []) B (fun _ _ => rfl) fun _ _ => rfl) s2 (kk.trans k2) (rp_non.mpr rfl) q⟩
end DL
set_option Elab.async false
set_option linter.all false
set_option maxRecDepth 100000
set_option maxHeartbeats 1000000
/-! DL21: the call of _law_caught. -/
namespace DL
open PySem PySem.Spec PyProof.Rows L2
theorem de_caught {X : Cx} {F : Fd} {x a : Str} {st : Stmt} {Ng : List Str} {CS c P : Addr} {k : Nat} {params : Arguments} {body : Expr} {scope : Scope} {p lpos pos : Pos} {ns : List Str} {te : TED} (Dc : Df X.K X.mg x st [a]) (Sg : FnScope Ng [a] (defScope st)) (hNg : Ng[0]? = some a) (hva : Vis (defScope st) a)
    (hG : ∀ (g : Addr) (cdv : Value), LamX.GivesTo X Ng x (defScope st) g cdv (defBody st) a (X.env.qual ++ "<lambda>") (TTc X.K CS)) (TB : LamX.TabB X.base X.mg c P) (hcode : X.env.code = .ref c) (hmT : (P, X.env.qual ++ "<lambda>") ∈ F.Z.tabs) (hu : ∀ p ∈ F.Z.tabs, p.1 = P → p.2 = X.env.qual ++ "<lambda>")
    (nt : NoTbl F) (hx : ∀ n ∈ ns, ∀ C, F.Z.mg n = some (.ref C) → PySem.W.exmOne X.K (.ref C) (.ref CS) = some true) (hr : Room (k + 2) X.A) (L : LamX.LamS X.env.scope scope)
    (hbody : ∀ (A : Around) (outer : List Env) (s : Shared) (H : Hp) (E : XK) (f c' : Addr), Room k (A.deeper (LamX.lamEnv X scope s.heap.objs.size f c')) → ∀ H0 G0 : Hp, DE (LamX.lamCx X A outer s H E scope f c') ⟨F.Z, H0, G0, fun cls d _ H => E cls d H⟩ body te)
    (hg : Gl X x := by rfl) (hdef : defaultsOf params X.env = ([], []) := by rfl) (hbind : ∀ (q : Str) (cl : List (Str × Addr)) (pm cv ctv : Value), bindArgs (PySem.W.kla_fn "<lambda>" q params body scope cl pm cv ctv) ⟨[], []⟩ = pure [] := by intro _ _ _ _ _; rfl)
    (hdb : (x == ("__debug__" : Str)) = false := by decide) (hd : (a == ("__debug__" : Str)) = false := by decide) (hcd : (a == ("__classdict__" : Str)) = false := by decide) : DE X F (.Call (.Name x p) [.Lambda params body scope lpos] [] pos) (tCaughtD ns te) := by
  obtain ⟨g, fd, Fn, hm, hb⟩ := Dc.ex
  obtain ⟨oc, od, kV, doc, pm, an, cdv, ct, osl, efd, lk, hcg⟩ := Fn.ex
  subst efd
  have hT : F.Z.tabs ≠ [] := fun z => by rw [z] at hmT; cases hmT
  exact PE.imp (LamX.pe_lamcall (T := F.Z.tabs) (TT := TTc X.K CS) (t := lamT F.Z te) hg hm Fn.kp lk hcg hb Sg hNg hva (hG g cdv) TB hcode hmT hu hr L hdef hbind (fun A outer s H E f c' hr2 => ⟨fun pins s2 σ H2 Q I ⟨H0, G0, q⟩ => (hbody A outer s H E f c' hr2 H0 G0).run pins s2 σ H2 Q I q⟩) hdb hd hcd)
    fun σ H Q h => caught_use nt hT hx h
end DL
set_option Elab.async false
set_option linter.all false
set_option maxRecDepth 100000
set_option maxHeartbeats 1000000
/-! DL22: isinstance(e, an own class of exceptions). -/
namespace DL
open PySem PySem.Spec PyProof.Rows L2
/-- r tells of an exception of a class whether it is one of the class at CV -/
def rIsX (Z : Wz) (K : PySem.W.Frag) (CV : Value) (r : Str → Option Bool) : List V → Hp → VK → Prop := fun xs H Q => ∃ (Hf : Hp) (d : D) (x : V), xs = [x, .ref (match CV with | .ref C => C | _ => 0)] ∧ Same Hf H ∧ VRp Z Hf H d x ∧
  match d with
  | .non => Q (.bl false) H
  | .exc n [] => ∃ b, r n = some b ∧ Q (.bl b) H
  | _ => False
theorem call_isX {X : Cx} {Z : Wz} {C : Addr} {r : Str → Option Bool} (hr : ∀ n b, r n = some b → ∀ D0, Z.mg n = some (.ref D0) → ExcC X.K D0 ∧ PySem.W.kitOne X.K (.ref D0) (.ref C) = some b) (hN : PySem.W.kitOne X.K (.type "NoneType") (.ref C) = some false) :
    CallR X (.builtin "isinstance") (rIsX Z X.K (.ref C) r) := by
  intro pins s σ H xs us Q I rr h
  obtain ⟨Hf, d, x, rfl, sub, hx, q⟩ := h
  split at q
  · obtain rfl : x = .non := by
      rcases hx with hx | ⟨a, _, hx⟩
      · exact rp_non.mp hx
      · exact hx.elim
    exact call_isi pins s σ H _ us Q I rr ⟨.non, .ref C, .type "NoneType", .ref C, false, rfl, .own C, .base .non, hN, q⟩
  · rename_i n
    obtain ⟨b, hb, q⟩ := q
    have hx' : Rp Z Hf (.exc n []) x := by
      rcases hx with hx | ⟨a, _, hx⟩
      · exact hx
      · exact hx.elim
    obtain ⟨a, D0, dx, vs, rfl, h1, h2, h3, h4⟩ := rp_exc.mp hx'
    have e0 := rpL_nil.mp h3
    subst e0
    have e1 : dx = none := by
      rcases h4 with h4 | ⟨_, _, _, _, e, _⟩
      · exact h4.1
      · cases e
    subst e1
    obtain ⟨EC, kt⟩ := hr n b hb D0 h1
    obtain ⟨⟨oe, vs, hget, hz, hv⟩, _⟩ := (show ObjOk X.prog X.w H s.heap a (ExD (.ref D0) none a) from I.hok a _ (sub _ _ h2))
    obtain ⟨u1, u2, rfl, r1, r2⟩ := vals2 rr
    cases (show u1 = Value.ref a from r1)
    cases (show u2 = Value.ref C from r2)
    have J : PySem.W.InstAt s.heap a oe D0 none := by
      obtain ⟨oc, od, oda, osl⟩ := oe
      obtain ⟨g1, g2⟩ := hz
      dsimp only at g1 g2 hv
      subst g1 g2 hv
      exact ⟨hget, rfl, rfl, trivial⟩
    exact PySem.W.kia_one (PySem.W.handS_kitx_exc EC.hg EC.hk EC.hs EC.hd EC.ha EC.hn EC.ht EC.hm) I.kIn J kt (fun z => nomatch z) fun tk => ⟨.bl b, H, I.kept (t' := tk) fun _ _ z => z, rfl, q⟩
  · exact q.elim
/-- the facts of one class C that is asked for -/
structure IsC (K : PySem.W.Frag) (mg : Str → Option Value) (y : Str) (r : Str → Option Bool) : Prop where
  ex : ∃ C, mg y = some (.ref C) ∧ PySem.W.kitOne K (.type "NoneType") (.ref C) = some false ∧ ∀ n b, r n = some b → ∀ D0, mg n = some (.ref D0) → ExcC K D0 ∧ PySem.W.kitOne K (.ref D0) (.ref C) = some b
@[simp] def tIsX (r : Str → Option Bool) (t : TED) : TED := fun env c W Q => t env c W fun d c1 => match d with
  | .non => Q (.bl false) c1
  | .exc n [] => ∃ b, r n = some b ∧ Q (.bl b) c1
  | _ => False
theorem de_isX {X : Cx} {F : Fd} {a : Expr} {pos p q : Pos} {ta : TED} {y : Str} {r : Str → Option Bool} {K : PySem.W.Frag} {mg : Str → Option Value} (hC : IsC K mg y r) (ha : DB X F a ta) (hm : X.mg "isinstance" = none) (hK : X.K = K := by rfl) (hM : X.mg = mg := by rfl) (hM2 : F.Z.mg = X.mg := by rfl) (hg : Gl X "isinstance" := by rfl) (hgy : Gl X y := by rfl)
    (hdy : (y == ("__debug__" : Str)) = false := by decide)
    (he : starEach (a :: [.Name y q]) X.env = (false, eval a X.env) :: starEach [.Name y q] X.env := by rfl) (he2 : starEach [.Name y q] X.env = (false, eval (.Name y q) X.env) :: starEach [] X.env := by rfl) (hpl : (backTo pos (starEach [.Name y q] X.env)).any (·.1) = false := by rfl) :
    DE X F (.Call (.Name "isinstance" p) [a, .Name y q] [] pos) (tIsX r ta) := by
  subst hK hM
  obtain ⟨C, gC, hN, hr⟩ := hC.ex
  rw [← hM2] at hr
  refine PE.imp (pe_callB (call_isX (Z := F.Z.toWz) (C := C) (r := r) hr hN) hg hm boot_isi (pa_cons ha (pa_cons (pe_glob (v := .ref C) hgy gC rfl hdy) pa_nil he2) he) (by decide) (by decide) he hpl) fun σ H Q ⟨Hf, env, c, Wd, Qd, S, xx, ht, k⟩ => ?_
  refine ⟨Hf, env, c, Wd, _, S, xx, ht, fun v H1 Hf1 c1 d S1 s1 k1 r1 q => ⟨Hf1, d, v, rfl, S1.sub, r1.at S1, ?_⟩⟩
  split at q
  · exact k _ H1 Hf1 c1 (.bl false) S1 s1 k1 (rp_bl.mpr rfl) q
  · obtain ⟨b, hb, q⟩ := q
    exact ⟨b, hb, k _ H1 Hf1 c1 (.bl b) S1 s1 k1 (rp_bl.mpr rfl) q⟩
  · exact q.elim
end DL
set_option Elab.async false
set_option linter.all false
set_option maxRecDepth 100000
set_option maxHeartbeats 1000000
/-! DL23: calls by keywords alone. -/
namespace DL
open PySem PySem.Spec PyProof.Rows L2
/-- the values in the parameters' order; only where none is given by place -/
def gK {α : Type} (ix : List Nat) (us ws : List α) : List α := if us.isEmpty then ix.filterMap fun i => ws[i]? else []
structure HasK (P : Program) (w : World) (K : PySem.W.Frag) (mg : Str → Option Value) (base : Heap) (k : Nat) (x : Str) (ps ks : List Str) (ix : List Nat) (sp : Sp) : Prop where
  ex : ∃ (f : Addr) (fd : FuncData), FnOk P w K mg base (L2.CX P w) k f fd ps sp ∧ mg x = some (.ref f) ∧ PySem.W.keepIn K (.ref f) = true ∧ KBinds K fd ps ks (gK ix) (gK ix)
theorem gK_rel {ix : List Nat} {vs zs : List V} {us ws : List Value} (r : Vals vs us) (rz : Vals zs ws) : Vals (gK ix vs zs) (gK ix us ws) := by
  unfold gK
  cases r with
  | nil =>
    show Vals (ix.filterMap fun i => zs[i]?) (ix.filterMap fun i => ws[i]?)
    induction ix with
    | nil => exact .nil
    | cons i ix ih =>
      cases e : zs[i]? with
      | none =>
        have e2 : ws[i]? = none := by
          rw [List.getElem?_eq_none_iff] at e ⊢
          rw [← rz.length]
          exact e
        rw [List.filterMap_cons_none e, List.filterMap_cons_none e2]
        exact ih
      | some v =>
        obtain ⟨u, hu, ru⟩ := rz.get e
        rw [List.filterMap_cons_some e, List.filterMap_cons_some hu]
        exact .cons ru ih
  | cons _ _ => exact .nil
theorem hasK_of {P : Program} {w : World} {K : PySem.W.Frag} {mg : Str → Option Value} {base : Heap} {k : Nat} {x : Str} {st : Stmt} {ps ks : List Str} {ix : List Nat} {sp : Sp} (D0 : Df K mg x st ps) (h : ∀ (f : Addr) (fd : FuncData), Fun K x x st f fd → FnOk P w K mg base (L2.CX P w) k f fd ps sp)
    (kb : ∀ (kV doc pm : Value) (an : Option Addr) (cdv ct : Value) (ws : List Value), (ix.filterMap fun i => ws[i]?).length = ps.length → bindArgs (PySem.W.fnOf x x (defArgs st) (defBody st) (defScope st) .none kV doc pm an cdv ct) ⟨[], ks.zip ws⟩ = pure (ps.zip (ix.filterMap fun i => ws[i]?))) (hp : ps ≠ []) :
    HasK P w K mg base k x ps ks ix sp := by
  obtain ⟨f, fd, F, m, b⟩ := D0.ex
  refine ⟨f, fd, h f fd F, m, F.kp, fun s us ws _ hl => ?_, gK_rel⟩
  obtain ⟨oc, od, kV, doc, pm, an, cdv, ct, osl, rfl, lk, hcd⟩ := F.ex
  cases us with
  | nil => exact .of_eq (kb kV doc pm an cdv ct ws hl)
  | cons u r =>
    exfalso
    have z : ps.length = 0 := hl.symm
    exact hp (List.length_eq_zero_iff.mp z)
/-- the keywords' values -/
abbrev DK (X : Cx) (F : Fd) (kws : List Keyword) (t : TAD) : Prop := PK X kws (liftA F t)
theorem PK.imp {X : Cx} {e : List Keyword} {t t' : TA} (h : PK X e t) (i : ∀ σ H Q, t' σ H Q → t σ H Q) : PK X e t' := ⟨fun pos pins s σ H Q I q => h.run pos pins s σ H Q I (i σ H Q q)⟩
section
variable {X : Cx} {F : Fd} {e : Expr} {kws : List Keyword} {t : TED} {u : TAD} {nm : Option Str} {kpos : Pos}
theorem dk_nil : DK X F [] tNilD := PK.imp pk_nil fun σ H Q ⟨Hf, env, c, Wd, Qd, S, _, ht, k⟩ => k [] H Hf c [] S (Same.refl _) Keep.refl RpL.nil ht
theorem dk_cons (ha : DE X F e t) (hr : DK X F kws u) : DK X F (⟨nm, e, kpos⟩ :: kws) (tConsD t u) :=
  PK.imp (pk_cons ha hr) fun σ H Q ⟨Hf, env, c, Wd, Qd, S, x, ht, k⟩ => ⟨Hf, env, c, Wd, _, S, x, ht, fun v H1 Hf1 c1 d S1 s1 k1 r1 q1 =>
    ⟨Hf1, env, c1, Wd, _, S1, x, q1, fun vs H2 Hf2 c2 ds S2 s2 k2 r2 q2 => k (v :: vs) H2 Hf2 c2 (d :: ds) S2 (s1.trans s2) (k1.trans k2) (RpL.cons (Rp.mono s2 _ _ r1) r2) q2⟩⟩
end
@[simp] def pickD (ix : List Nat) (ds : List D) : List D := ix.filterMap fun i => ds[i]?
theorem rpL_pick {Z : Wz} {H : Hp} {ds : List D} {vs : List V} (r : RpL Z H ds vs) : ∀ ix : List Nat, RpL Z H (pickD ix ds) (ix.filterMap fun i => vs[i]?)
  | [] => RpL.nil
  | i :: ix => by
    unfold pickD
    cases e : ds[i]? with
    | none =>
      have e2 : vs[i]? = none := by
        rw [List.getElem?_eq_none_iff] at e ⊢
        rw [← r.length]
        exact e
      rw [List.filterMap_cons_none e, List.filterMap_cons_none e2]
      exact rpL_pick r ix
    | some d =>
      obtain ⟨v, hv, rv⟩ := r.get e
      rw [List.filterMap_cons_some e, List.filterMap_cons_some hv]
      exact RpL.cons rv (rpL_pick r ix)
/-- f(k = e, ..) of a def without the law's state -/
@[simp] def tCallPK (f : PF) (ix : List Nat) (t : TAD) : TED := fun env c W Q => t env c W fun ds c1 => f (pickD ix ds) (fun d => W d c1) fun d => Q d c1
theorem de_PK {X : Cx} {F : Fd} {k : Nat} {ps ks : List Str} {ix : List Nat} {x : Str} {p pos : Pos} {kws : List Keyword} {t : TAD} {pf : PF} (h : HasK X.prog X.w X.K X.mg X.base k x ps ks ix (spP X.K X.mg pf)) (hr : Room k X.A) (tk : Takes X F.W) (ha : DK X F kws t) (hg : Gl X x := by rfl) (hK : F.Z.K = X.K := by rfl) (hM : F.Z.mg = X.mg := by rfl)
    (hall : (backToKw pos (keywordEach kws X.env)).all (·.1.isSome) = true := by rfl) (hks : (backToKw pos (keywordEach kws X.env)).filterMap (·.1) = ks := by rfl) (hdb : (x == ("__debug__" : Str)) = false := by decide)
    (hpl : ((backTo pos (starEach [] X.env)).any (·.1) || (backToKw pos (keywordEach kws X.env)).any (·.1.isNone)) = false := by rfl) : DE X F (.Call (.Name x p) [] kws pos) (tCallPK pf ix t) := by
  obtain ⟨f, fd, Fk, hm, hk, hb⟩ := h.ex
  have raw : PE X (.Call (.Name x p) [] kws pos) (fun σ H Q => liftA F t σ H fun zs H2 => spP X.K X.mg pf (gK ix [] zs) H2 Q (WE F.W σ)) := by
    constructor
    intro pins s σ H Q I q0
    apply wpAny_Call_Name_kw
    refine ld_glob I hg hm ?_ hdb
    refine PySem.W.callWith_KW0 (h₀ := X.base) I.ok.mod.kin hk hall ?_ hpl
    refine thn (ha.run pos pins s σ H _ I q0) ?_
    rintro ws s2 ⟨zs, H2, I2, rz, q2⟩
    refine ⟨I2.kIn, ?_⟩
    rw [hks]
    have rel := hb.rel (vs := []) (us := []) .nil rz
    have long : (gK ix [] ws).length = ps.length := by
      rw [← rel.length]
      exact Fk.len _ _ _ _ q2
    have go := Fk.run X.A X.stack s2 H2 ⟨[], ks.zip ws⟩ (gK ix [] ws) (gK ix [] zs) Q (WE F.W σ) hr I2.env0 (hb.to s2 [] ws I2.kIn long) rel q2
    apply wpAny_call
    refine codeAny_mono go ?_
    rintro (e | fl) s' hq
    · exact passAt tk σ pins H2 s2 e s' I2 hq
    · cases fl with
      | ret u => exact I2.after hq
      | next => exact False.elim hq
      | brk => exact False.elim hq
      | cont => exact False.elim hq
  refine PE.imp raw fun σ H Q ⟨Hf, env, c, Wd, Qd, S, xl, ht, k⟩ => ?_
  refine ⟨Hf, env, c, Wd, _, S, xl, ht, fun vs H1 Hf1 c1 ds S1 s1 k1 r1 q1 => ?_⟩
  refine ⟨F.Z.toWz, pickD ix ds, Hf1, _, _, hK, hM, S1.sub, rpL_pick r1 ix, q1, fun v H' G' d g r q => ?_, fun cls dx H' G' d g i q => ?_⟩
  · exact k v H' G' c1 d (S1.grow g) (s1.trans g.hf) (k1.trans (Keep.of g.h)) r q
  · exact xl cls dx H' G' c1 d (S1.grow g) i q
end DL
set_option Elab.async false
set_option linter.all false
set_option maxRecDepth 100000
set_option maxHeartbeats 1000000
/-! DL24: facts for simp about plain trees. -/
namespace DL
open PySem PySem.Spec PyProof.Rows L2
/-- a plain tree of at most n levels with laid texts -/
def deepD (n : Nat) (d : D) : Bool := plain d && (toPy d).canLay0 && decide ((toPy d).depth ≤ n)
theorem shapedD_deep (d : D) : shapedD d = deepD 64 d := by
  unfold shapedD deepD SeqAt.shaped
  rw [Bool.and_assoc]
@[simp] theorem deep_non (n : Nat) : deepD n .non = true := by simp [deepD, plain, toPy, PyData.canLay0, PyData.depth]
@[simp] theorem deep_bl (n : Nat) (b : Bool) : deepD n (.bl b) = true := by simp [deepD, plain, toPy, PyData.canLay0, PyData.depth]
@[simp] theorem deep_int (n : Nat) (i : Int) : deepD n (.int i) = true := by simp [deepD, plain, toPy, PyData.canLay0, PyData.depth]
@[simp] theorem deep_str (n : Nat) (x : Str) : deepD n (.str x) = PyData.strOk x := by simp [deepD, plain, toPy, PyData.canLay0, PyData.depth]
theorem deepL (n : Nat) : ∀ ds : List D, (plainL ds && PyData.canLayAll0 (toPyL ds) && decide (PyData.depthAll (toPyL ds) ≤ n)) = ds.all (deepD n)
  | [] => by simp [plainL, toPyL, PyData.canLayAll0, PyData.depthAll]
  | d :: r => by
    rw [List.all_cons, ← deepL n r]
    simp only [plainL, toPyL, PyData.canLayAll0, PyData.depthAll, deepD, Nat.max_le]
    cases plain d <;> cases plainL r <;> cases (toPy d).canLay0 <;> cases PyData.canLayAll0 (toPyL r) <;> simp
@[simp] theorem deep_lst (n : Nat) (ds : List D) : deepD (n + 1) (.lst ds) = ds.all (deepD n) := by
  rw [← deepL n ds]
  simp [deepD, plain, toPy, PyData.canLay0, PyData.depth]
@[simp] theorem deep_tup (n : Nat) (ds : List D) : deepD (n + 1) (.tup ds) = ds.all (deepD n) := by
  rw [← deepL n ds]
  simp [deepD, plain, toPy, PyData.canLay0, PyData.depth]
@[simp] theorem shaped_non : shapedD .non = true := by rw [shapedD_deep, deep_non]
@[simp] theorem shaped_bl (b : Bool) : shapedD (.bl b) = true := by rw [shapedD_deep, deep_bl]
@[simp] theorem shaped_int (i : Int) : shapedD (.int i) = true := by rw [shapedD_deep, deep_int]
@[simp] theorem shaped_str (x : Str) : shapedD (.str x) = PyData.strOk x := by rw [shapedD_deep, deep_str]
@[simp] theorem shaped_lst (ds : List D) : shapedD (.lst ds) = ds.all (deepD 63) := by rw [shapedD_deep, deep_lst]
@[simp] theorem shaped_tup (ds : List D) : shapedD (.tup ds) = ds.all (deepD 63) := by rw [shapedD_deep, deep_tup]
theorem deep_le {n m : Nat} {d : D} (h : deepD n d = true) (hl : n ≤ m) : deepD m d = true := by
  unfold deepD at h ⊢
  rw [Bool.and_eq_true] at h ⊢
  exact ⟨h.1, decide_eq_true (Nat.le_trans (of_decide_eq_true h.2) hl)⟩
/-! ### == -/
@[simp] theorem eqv_ii (a b : Int) : eqvD (.int a) (.int b) = (a == b) := by simp [eqvD, toPy, PyData.eqv]
@[simp] theorem eqv_bb (a b : Bool) : eqvD (.bl a) (.bl b) = (a == b) := by simp [eqvD, toPy, PyData.eqv]
@[simp] theorem eqv_ib (a : Int) (b : Bool) : eqvD (.int a) (.bl b) = (a == (if b then 1 else 0)) := by simp [eqvD, toPy, PyData.eqv]
@[simp] theorem eqv_bi (a : Bool) (b : Int) : eqvD (.bl a) (.int b) = ((if a then 1 else 0) == b) := by simp [eqvD, toPy, PyData.eqv]
@[simp] theorem eqv_ss (a b : Str) : eqvD (.str a) (.str b) = (a == b) := by simp [eqvD, toPy, PyData.eqv]
@[simp] theorem eqv_nn : eqvD .non .non = true := by simp [eqvD, toPy, PyData.eqv]
@[simp] theorem eqv_is (a : Int) (b : Str) : eqvD (.int a) (.str b) = false := by simp [eqvD, toPy, PyData.eqv]
@[simp] theorem eqv_si (a : Str) (b : Int) : eqvD (.str a) (.int b) = false := by simp [eqvD, toPy, PyData.eqv]
@[simp] theorem eqv_in (a : Int) : eqvD (.int a) .non = false := by simp [eqvD, toPy, PyData.eqv]
@[simp] theorem eqv_ni (a : Int) : eqvD .non (.int a) = false := by simp [eqvD, toPy, PyData.eqv]
@[simp] theorem eqv_it (a : Int) (ds : List D) : eqvD (.int a) (.tup ds) = false := by simp [eqvD, toPy, PyData.eqv]
@[simp] theorem eqv_il (a : Int) (ds : List D) : eqvD (.int a) (.lst ds) = false := by simp [eqvD, toPy, PyData.eqv]
/-- two lists of trees, item by item -/
def eqvL : List D → List D → Bool
  | [], [] => true
  | a :: r, b :: s => eqvD a b && eqvL r s
  | _, _ => false
theorem eqvL_py : ∀ ds es : List D, PyData.eqvAll (toPyL ds) (toPyL es) = eqvL ds es
  | [], [] => by simp [toPyL, PyData.eqvAll, eqvL]
  | [], _ :: _ => by simp [toPyL, PyData.eqvAll, eqvL]
  | _ :: _, [] => by simp [toPyL, PyData.eqvAll, eqvL]
  | a :: r, b :: s => by simp [toPyL, PyData.eqvAll, eqvL, eqvL_py r s, eqvD]
@[simp] theorem eqvL_nn : eqvL [] [] = true := rfl
@[simp] theorem eqvL_cc (a b : D) (r s : List D) : eqvL (a :: r) (b :: s) = (eqvD a b && eqvL r s) := rfl
@[simp] theorem eqvL_cn (a : D) (r : List D) : eqvL (a :: r) [] = false := rfl
@[simp] theorem eqvL_nc (a : D) (r : List D) : eqvL [] (a :: r) = false := rfl
@[simp] theorem eqv_ll (ds es : List D) : eqvD (.lst ds) (.lst es) = eqvL ds es := by simp [eqvD, toPy, PyData.eqv, eqvL_py]
@[simp] theorem eqv_tt (ds es : List D) : eqvD (.tup ds) (.tup es) = eqvL ds es := by simp [eqvD, toPy, PyData.eqv, eqvL_py]
@[simp] theorem eqv_tl (ds es : List D) : eqvD (.tup ds) (.lst es) = false := by simp [eqvD, toPy, PyData.eqv]
@[simp] theorem eqv_lt (ds es : List D) : eqvD (.lst ds) (.tup es) = false := by simp [eqvD, toPy, PyData.eqv]
theorem eqvL_nil (ds : List D) : eqvL ds [] = ds.isEmpty := by cases ds <;> rfl
/-! ### types -/
/-- isinstance tells its type -/
def tyd (d : D) : Bool := (tyN d).isSome
theorem tyN_some (d : D) : (tyN d).isSome = tyd d := rfl
@[simp] theorem tyd_non : tyd .non = true := rfl
@[simp] theorem tyd_bl (b : Bool) : tyd (.bl b) = true := rfl
@[simp] theorem tyd_int (i : Int) : tyd (.int i) = true := rfl
@[simp] theorem tyd_str (x : Str) : tyd (.str x) = true := rfl
@[simp] theorem tyd_tup (ds : List D) : tyd (.tup ds) = true := rfl
@[simp] theorem tyd_lst (ds : List D) : tyd (.lst ds) = true := rfl
@[simp] theorem tyd_dic (t : Bool) (ks vs : List D) : tyd (.dic t ks vs) = true := rfl
@[simp] theorem at0 {α : Type} (a : α) (r : List α) : atI (a :: r) 0 = some a := atI_nat (j := 0) rfl
@[simp] theorem at1 {α : Type} (a b : α) (r : List α) : atI (a :: b :: r) 1 = some b := atI_nat (j := 1) rfl
@[simp] theorem at2 {α : Type} (a b c : α) (r : List α) : atI (a :: b :: c :: r) 2 = some c := atI_nat (j := 2) rfl
@[simp] theorem isTy_tt (ds : List D) : isTy .tup (.tup ds) = true := rfl
end DL
set_option Elab.async false
set_option linter.all false
set_option maxRecDepth 100000
set_option maxHeartbeats 1000000
/-! DL25: an end of our own: the law is run where no guard is around. -/
namespace DL
open PySem PySem.Spec PyProof.Rows L2
/-- what stands when the law is called with the script at a; cs: code objects and their tables -/
structure Floor (K : PySem.W.Frag) (mg mb : Str → Option Value) (cs : List (Addr × Addr)) (s : Shared) (a : Addr) (vs : List Value) (ns : List Int) : Prop where
  kin : K.In s.heap
  mns : s.heap.Ns mainGlobals mg
  bns : s.heap.Ns builtinsNs mb
  blt : ∀ x : Str, x ≠ "__name__" → mb x = bootBuiltins x
  lim : s.heap.NoLimit
  gens : s.gens = #[]
  tab : ∀ p ∈ cs, s.heap.get? p.2 = some { cls := .none, data := .fields #[] }
  notK : ∀ p ∈ cs, K.lookup p.2 = none
  code : ∀ p ∈ cs, PySem.W.CodeHd s.heap p.1 p.2
  bmod : ∃ (bm : Addr) (ob : Obj), mg "__builtins__" = some (.ref bm) ∧ bm ≠ builtinsNs ∧ s.heap.get? bm = some ob ∧ ob.cls = .type "module" ∧ ob.dict = some builtinsNs ∧ ob.data = .plain
  scr : s.heap.get? a = some { cls := .type "list", data := .seq vs.toArray }
  nums : IntsAre vs ns
  short : ns.length ≤ sizeLine
def scrO (vs : List Value) : Obj := { cls := .type "list", data := .seq vs.toArray }
/-- the abstract heap at the start: the tables, and the script where it is none of the module's own -/
def startH (K : PySem.W.Frag) (cs : List (Addr × Addr)) (a : Addr) (vs : List Value) (ns : List Int) : Hp := fun b =>
  if b ∈ cs.map (·.2) then some (.tbl #[]) else if b = a ∧ K.lookup a = none then some (.frz (scrO vs) (.lst (ns.map V.int))) else none
section
variable {K : PySem.W.Frag} {mg mb : Str → Option Value} {cs : List (Addr × Addr)} {s : Shared} {a : Addr} {vs : List Value} {ns : List Int}
theorem Floor.isTab (F : Floor K mg mb cs s a vs ns) {b : Addr} (h : b ∈ cs.map (·.2)) : s.heap.get? b = some { cls := .none, data := .fields #[] } := by
  obtain ⟨p, hp, rfl⟩ := List.mem_map.mp h
  exact F.tab p hp
theorem Floor.scrNot (F : Floor K mg mb cs s a vs ns) : a ∉ cs.map (·.2) := fun h => by
  have e := F.isTab h
  rw [F.scr] at e
  have z : Data.seq vs.toArray _ = Data.fields #[] := congrArg Obj.data (Option.some.inj e)
  cases z
theorem start_tab {p : Addr × Addr} (h : p ∈ cs) : startH K cs a vs ns p.2 = some (.tbl #[]) := if_pos (List.mem_map.mpr ⟨p, h, rfl⟩)
/-- each place of the start's heap -/
theorem start_cases (b : Addr) : (b ∈ cs.map (·.2) ∧ startH K cs a vs ns b = some (.tbl #[])) ∨ (b ∉ cs.map (·.2) ∧ b = a ∧ K.lookup a = none ∧ startH K cs a vs ns b = some (.frz (scrO vs) (.lst (ns.map V.int)))) ∨ startH K cs a vs ns b = none := by
  unfold startH
  by_cases h : b ∈ cs.map (·.2)
  · exact .inl ⟨h, if_pos h⟩
  · rw [if_neg h]
    by_cases h2 : b = a ∧ K.lookup a = none
    · exact .inr (.inl ⟨h, h2.1, h2.2, if_pos h2⟩)
    · exact .inr (.inr (if_neg h2))
theorem Floor.seq (F : Floor K mg mb cs s a vs ns) : SqL K (startH K cs a vs ns) a (ns.map V.int) := by
  cases q : K.lookup a with
  | some o =>
    have e := F.kin a o q
    rw [F.scr] at e
    cases e
    exact .inr ⟨_, vs.toArray, _, q, rfl, rfl, rfl, by rw [List.size_toArray, F.nums.length]; exact F.short, by simpa using vals_ints F.nums⟩
  | none => exact .inl (.inr ⟨scrO vs, (if_neg F.scrNot).trans (if_pos ⟨rfl, q⟩)⟩)
/-- an object of another make is not in sight -/
theorem Floor.unseen (F : Floor K mg mb cs s a vs ns) {b : Addr} {o : Obj} (e : s.heap.get? b = some o) (h1 : ∀ xs n, o.data ≠ .seq xs n) (h2 : o.data ≠ .fields #[]) : startH K cs a vs ns b = none := by
  rcases start_cases (K := K) (cs := cs) (a := a) (vs := vs) (ns := ns) b with ⟨m, _⟩ | ⟨_, rfl, _, _⟩ | z
  · rw [F.isTab m] at e
    cases e
    exact absurd rfl h2
  · rw [F.scr] at e
    cases e
    exact absurd rfl (h1 _ _)
  · exact z
theorem Floor.hok (F : Floor K mg mb cs s a vs ns) {P : Program} {w : World} : HOk P w (startH K cs a vs ns) s.heap := fun b u e => by
  rcases start_cases (K := K) (cs := cs) (a := a) (vs := vs) (ns := ns) b with ⟨m, z⟩ | ⟨_, eb, _, z⟩ | z
  · rw [z] at e
    cases e
    exact F.isTab m
  · rw [z] at e
    cases e
    rw [eb]
    exact ⟨F.scr, by rw [List.length_map]; exact F.short, vs, _, vals_ints F.nums, F.scr⟩
  · rw [z] at e
    cases e
abbrev startB (K : PySem.W.Frag) (cs : List (Addr × Addr)) (s : Shared) (a : Addr) (vs : List Value) (ns : List Int) : Heap := hidT s.heap (startH K cs a vs ns)
theorem Floor.baseNs (F : Floor K mg mb cs s a vs ns) {b : Addr} {m : Str → Option Value} (h : s.heap.Ns b m) : (startB K cs s a vs ns).Ns b m := by
  obtain ⟨o, es, ep, e, d, r⟩ := h
  exact ⟨o, es, ep, hidT_get e (F.unseen e (fun xs n z => by rw [d] at z; cases z) fun z => by rw [d] at z; cases z), d, r⟩
theorem Floor.baseK (F : Floor K mg mb cs s a vs ns) : K.In (startB K cs s a vs ns) := fun b o e => by
  refine hidT_get (F.kin b o e) ?_
  rcases start_cases (K := K) (cs := cs) (a := a) (vs := vs) (ns := ns) b with ⟨m, _⟩ | ⟨_, eb, k, _⟩ | z
  · obtain ⟨p, hp, rfl⟩ := List.mem_map.mp m
    rw [F.notK p hp] at e
    cases e
  · rw [eb, k] at e
    cases e
  · exact z
theorem Floor.mod (F : Floor K mg mb cs s a vs ns) : L2.Mod K mg (startB K cs s a vs ns) := by
  obtain ⟨mc, h1, h2⟩ := F.lim
  exact ⟨F.baseK, F.baseNs F.mns, ⟨mb, F.baseNs F.bns, F.blt⟩, ⟨mc, F.baseNs h1, h2⟩⟩
theorem Floor.tabB (F : Floor K mg mb cs s a vs ns) : ∀ p ∈ cs, LamX.TabB (startB K cs s a vs ns) mg p.1 p.2 := fun p hp => by
  have tp := F.tab p hp
  constructor
  · obtain ⟨o, us, file, tf, flags, tg, inF, text, tt, e1, r1, r2, r3, more⟩ := F.code p hp
    exact ⟨o, us, file, tf, flags, tg, inF, text, tt, hidT_get e1 (F.unseen e1 (fun xs n z => by rw [r2] at z; cases z) fun z => by
      rw [r2] at z
      cases z
      simp at r3), r1, r2, r3, more⟩
  · obtain ⟨bm, ob, b1, b2, b3, b4, b5, b6⟩ := F.bmod
    refine ⟨bm, ob, b1, b2, fun q => ?_, fun q => ?_, hidT_get b3 (F.unseen b3 (fun xs n z => by rw [b6] at z; cases z) fun z => by rw [b6] at z; cases z), b4, b5, b6⟩
    · obtain ⟨o, es, ep, e, d, _⟩ := F.mns
      rw [q, e] at b3
      cases b3
      rw [d] at b6
      cases b6
    · rw [q, tp] at b3
      cases b3
      cases b6
  · intro z
    obtain ⟨o, es, ep, e, d, _⟩ := F.mns
    rw [z, tp] at e
    cases e
    cases d
theorem Floor.env0 (F : Floor K mg mb cs s a vs ns) {P : Program} {w : World} : Env0 P w K mg (startB K cs s a vs ns) callerA [] s (startH K cs a vs ns) :=
  ⟨rfl, F.mod, fun b o e => of_hidT e, Nat.le_of_eq (hidT_size _ _), trivial, fun b hb => absurd hb List.not_mem_nil, F.hok, .of_eq F.gens⟩
/-- behind the run -/
theorem Floor.behind (F : Floor K mg mb cs s a vs ns) {P : Program} {w : World} {r : Result} {s' : Shared} (h : CR (L2.CX P w) [] P w (startH K cs a vs ns) s (fun v _ => v = .bl true) (fun _ _ _ => False) r s') :
    r = .ok (.ret (.bool true)) ∧ OldK s.heap s'.heap ∧ s'.os = s.os ∧ AllBare s'.gens := by
  match r, h with
  | .error e, h =>
    obtain ⟨_, _, _, _, _, _, _, _, _, _, _, _, z⟩ := h
    exact z.elim
  | .ok (.ret u), h =>
    obtain ⟨v, H', os, bare, un, hok', rv, rfl⟩ := h
    obtain rfl : u = Value.bool true := rv
    have grown : ∀ p ∈ cs, ∃ more : Array Value, s'.heap.get? p.2 = some { cls := .none, data := .fields more } := fun p hp => by
      obtain ⟨more, z⟩ := un.tbls p.2 #[] (start_tab hp)
      exact ⟨_, hok' p.2 _ z⟩
    have stays : ∀ b o, s.heap.get? b = some o → b ∉ cs.map (·.2) → s'.heap.get? b = some o := fun b o e nb => by
      rcases start_cases (K := K) (cs := cs) (a := a) (vs := vs) (ns := ns) b with ⟨m, _⟩ | ⟨_, eb, _, z⟩ | z
      · exact absurd m nb
      · have z2 := un.frzs b _ _ z
        obtain ⟨e2, _⟩ := hok' b _ z2
        rw [eb, F.scr] at e
        cases e
        rw [eb] at e2 ⊢
        exact e2
      · exact un.keep b o e z List.not_mem_nil List.not_mem_nil
    refine ⟨rfl, ⟨fun b o e => ?_, fun b o e => ?_⟩, os, bare⟩
    · by_cases nb : b ∈ cs.map (·.2)
      · obtain ⟨p, hp, rfl⟩ := List.mem_map.mp nb
        obtain ⟨more, hm⟩ := grown p hp
        rw [F.tab p hp] at e
        cases e
        exact .inr (.inl ⟨((F.code p hp).tab (F.tab p hp)).isCodeTable, rfl, #[], more, rfl, by rw [Array.empty_append]; exact hm⟩)
      · exact .inl (stays b o e nb)
    · by_cases nb : b ∈ cs.map (·.2)
      · obtain ⟨p, hp, rfl⟩ := List.mem_map.mp nb
        obtain ⟨more, hm⟩ := grown p hp
        exact ⟨_, hm⟩
      · exact ⟨o, stays b o e nb⟩
end
/-- what a law's own def gives at the head's heap h -/
def LawHere (l : PySem.W.OpenLaw) (w : World) (K : PySem.W.Frag) (n : Nat) (mg : Str → Option Value) (fa : Addr) (h : Heap) : Prop :=
  ∃ cs : List (Addr × Addr), (∀ p ∈ cs, h.get? p.2 = some { cls := .none, data := .fields #[] }) ∧ (∀ p ∈ cs, K.lookup p.2 = none) ∧ (∀ p ∈ cs, PySem.W.CodeHd h p.1 p.2) ∧
    ∀ (s : Shared) (base : Heap) (H : Hp) (a : Addr) (ns : List Int), ns.length ≤ n → (∀ p ∈ cs, LamX.TabB base mg p.1 p.2) → (∀ p ∈ cs, H p.2 = some (.tbl #[])) → (∀ b ps, H b = some (.tbl ps) → ∃ p ∈ cs, p.2 = b) → SqL K H a (ns.map V.int) → Env0 l.prog w K mg base callerA [] s H →
      codeAny (model l.prog w) callerA (.call (.ref fa) ⟨[.ref a], []⟩) (CR (L2.CX l.prog w) [] l.prog w H s (fun v _ => v = .bl true) fun _ _ _ => False) s
theorem walk_here {l : PySem.W.OpenLaw} {n : Nat} {q : Program} {loose : List Str} {XP : (Str → Option Value) → Heap → Prop} {YP : World → Heap → Prop} {d : DefRec} {K : Params → PySem.W.Frag} (hn : l.most = some n) (hn2 : n ≤ sizeLine) (hdf : d.params.defaults = [])
    (hY : ∀ (w : World) (h : Heap), YP w h → (K w.params).In h)
    (F : ∀ (w : World) (mg : Str → Option Value) (fa : Addr) (h : Heap), YP w h → (K w.params).In h → h.Ns mainGlobals mg → mg d.name = some (.ref fa) → LawHere l w (K w.params) n mg fa h) :
    PySem.W.WalkO q loose XP YP l.row.toRowW d [] (fun f vs => PySem.call f vs) := by
  refine Att.attach_callB hn hdf ?_
  intro w s₀ s₁ mg mb fa o pm cd doc a vs ns G Y _ _ _ hmg hobj hints hlen _ hg
  have KX := hY w _ Y
  obtain ⟨cs, h1, h2, h3, run⟩ := F w mg fa _ Y KX G.T.g hmg
  have fl : Floor (K w.params) mg mb cs s₁ a vs ns := ⟨KX, G.T.g, G.T.b, G.T.builtins, G.T.nolimit, hg, h1, h2, h3, G.T.bmain, hobj, hints, Nat.le_trans hlen hn2⟩
  refine codeAny_mono (run s₁ _ _ a ns hlen fl.tabB (fun p hp => start_tab hp) (fun b ps e => ?_) fl.seq fl.env0) fun r s' h => fl.behind h
  rcases start_cases (K := K w.params) (cs := cs) (a := a) (vs := vs) (ns := ns) b with ⟨m, _⟩ | ⟨_, _, _, z⟩ | z
  · obtain ⟨p, hp, e⟩ := List.mem_map.mp m
    exact ⟨p, hp, e⟩
  · rw [z] at e
    cases e
  · rw [z] at e
    cases e
/-- the run of the law's def, from its body's derivation there -/
theorem law_run {P : Program} {w : World} {K : PySem.W.Frag} {mg : Str → Option Value} {base : Heap} {x a : Str} {st : Stmt} {N : List Str} {k : Nat} {fa sa : Addr} {s : Shared} {H : Hp} {E : XK} {Q : VK} (D0 : Df K mg x st [a]) (hfa : mg x = some (.ref fa)) (S : FnScope N [a] (defScope st)) (hr : Room (k + 1) callerA) (e0 : Env0 P w K mg base callerA [] s H)
    (hbody : ∀ (cdv : Value), Room k (callerA.deeper (envOfC x (defScope st) s.heap.objs.size fa cdv)) → ∃ t, PSs (cxOf (L2.CX P w) P w K mg base N x (defScope st) fa cdv callerA [] s H E) (defBody st) t ∧ t { nx := fun _ H' => Q .non H', rt := Q } (L2.start N [.ref sa]) H) :
    codeAny (model P w) callerA (.call (.ref fa) ⟨[.ref sa], []⟩) (CR (L2.CX P w) [] P w H s Q E) s := by
  obtain ⟨f, fd, Fn, hm, hb⟩ := D0.ex
  have e : f = fa := by
    rw [hm] at hfa
    cases hfa
    rfl
  subst e
  obtain ⟨oc, od, kV, doc, pm, an, cdv, ct, osl, rfl, lk, hcd⟩ := Fn.ex
  have KX : K.In s.heap := e0.mod.kin.keeps fun b o e => (e0.bs b o e).1
  exact LamX.run_ofS (N := N) (ps := [a]) (us := [.ref sa]) (vs := [.ref sa]) lk hcd S hr e0 (by have z := hb s [.ref sa] KX rfl; simpa using z) (.cons rfl .nil) rfl fun hr' => hbody cdv hr'
theorem guards_law {env : Env} : (callerA.deeper env).guards = some [] := rfl
end DL
set_option Elab.async false
set_option linter.all false
set_option maxRecDepth 100000
set_option maxHeartbeats 1000000
/-! DL26: repr of lists and tuples, where no guard is around. -/
namespace DL
open PySem PySem.Spec PyProof.Rows L2
/-- a tree that repr shows -/
def showD (d : D) : Bool := plain d && (toPy d).showable && !(toPy d).hasDict && decide ((toPy d).depth ≤ 60) && decide ((toPy d).shown.length ≤ sizeLine)
def textD (d : D) : Str := (toPy d).shown
@[simp] def reprD : CD
  | [.lst ds], k => showD (.lst ds) = true ∧ k (.str (textD (.lst ds)))
  | [.tup ds], k => showD (.tup ds) = true ∧ k (.str (textD (.tup ds)))
  | [.int i], k => showD (.int i) = true ∧ k (.str (textD (.int i)))
  | _, _ => False
theorem repr_run {X : Cx} {pins : List (Addr × Obj)} {σ : L2.St} {H : Hp} {s : Shared} {Q : VK} {d : D} {a : Addr} (hg : X.A.guards = some []) (hu : X.A.units + 65 < cLine) (I : Inv X pins σ H s) (dp : Dp X.K H (.ref a) (toPy d)) (sh : showD d = true) (q : Q (.str (textD d)) H) :
    wpAny (model X.prog X.w) X.A (call (.builtin "repr") [.ref a]) (EP X pins σ Q) X.xe s := by
  unfold showD at sh
  simp only [Bool.and_eq_true, decide_eq_true_eq, Bool.not_eq_true'] at sh
  obtain ⟨⟨⟨⟨_, h1⟩, h2⟩, h3⟩, h4⟩ := sh
  obtain ⟨as, r⟩ := Dp.reads I _ _ (.ref a) dp rfl
  refine repr_of_reads' r h1 (fun z => by rw [h2] at z; cases z) hg (by omega) (fun _ _ e => e) (fun h' u tk k => ?_) h4
  exact ⟨.str (textD d), H, I.kept k, ⟨u, rfl⟩, q⟩
theorem call_reprD {X : Cx} {Z : Wz} (hg : X.A.guards = some []) (hu : X.A.units + 65 < cLine) (hK : Z.K = X.K := by rfl) : CallD X Z (.builtin "repr") reprD := by
  intro pins s σ H xs us Q I r h
  obtain ⟨Hf, ds, k, sub, hx, hr, kk⟩ := h
  have pl : ∀ {d : D}, showD d = true → plain d = true := fun {d} h => by
    unfold showD at h
    simp only [Bool.and_eq_true] at h
    exact h.1.1.1.1
  unfold reprD at hr
  split at hr
  · obtain ⟨x, rfl, hw⟩ := vrpL_1 hx
    have dp := vrp_dp sub (pl hr.1) hw
    rw [hK] at dp
    obtain ⟨p, vs, rfl, h1, r1⟩ := vrp_lst sub hw
    obtain ⟨u, rfl, rx⟩ := vals1 r
    cases rx
    exact repr_run hg hu I dp hr.1 (kk _ H Hf _ (Grow.refl sub) (rp_str.mpr rfl) hr.2)
  · obtain ⟨x, rfl, hw⟩ := vrpL_1 hx
    have dp := vrp_dp sub (pl hr.1) hw
    rw [hK] at dp
    obtain ⟨p, vs, rfl, h1, r1, _⟩ := vrp_tup sub hw
    obtain ⟨u, rfl, rx⟩ := vals1 r
    cases rx
    exact repr_run hg hu I dp hr.1 (kk _ H Hf _ (Grow.refl sub) (rp_str.mpr rfl) hr.2)
  · obtain ⟨x, rfl, hw⟩ := vrpL_1 hx
    cases vrp_int hw
    obtain ⟨u, rfl, rx⟩ := vals1 r
    obtain ⟨t, rfl⟩ := rx
    have sh := hr.1
    unfold showD at sh
    simp only [Bool.and_eq_true, decide_eq_true_eq, Bool.not_eq_true'] at sh
    obtain ⟨⟨⟨⟨_, h1⟩, h2⟩, h3⟩, h4⟩ := sh
    rw [toPy, PyData.showable, decide_eq_true_eq] at h1
    refine P.repr_of_int h1 ?_
    exact ⟨.str (textD (.int _)), H, I.tok _, ⟨_, by rw [textD, toPy, PyData.shown]⟩, kk _ H Hf _ (Grow.refl sub) (rp_str.mpr rfl) hr.2⟩
  · exact hr.elim
theorem boot_repr' : bootBuiltins "repr" = some (.builtin "repr") := by decide +kernel
end DL
set_option Elab.async false
set_option linter.all false
set_option maxRecDepth 100000
set_option maxHeartbeats 1000000
/-! DL27: the law's own body: its first statement makes the state. -/
namespace DL
open PySem PySem.Spec PyProof.Rows L2
abbrev fdL (K : PySem.W.Frag) (mg : Str → Option Value) (sa sl sc : Addr) (T : List (Addr × Str)) (G : Hp) : Fd := ⟨⟨⟨K, mg, sa, sl, sc⟩, true, T⟩, fun _ => none, G, noW⟩
open Classical in
/-- a heap without its tables -/
noncomputable def noTables (H : Hp) : Hp := fun b => if ∃ ps, H b = some (.tbl ps) then none else H b
theorem noTables_get {H : Hp} {b : Addr} {o : HO} (e : H b = some o) (n : ∀ ps, o ≠ .tbl ps) : noTables H b = some o := by
  unfold noTables
  rw [if_neg]
  · exact e
  · rintro ⟨ps, z⟩
    rw [e] at z
    cases z
    exact n ps rfl
theorem noTables_of {H : Hp} {b : Addr} {o : HO} (e : noTables H b = some o) : H b = some o ∧ ∀ ps, o ≠ .tbl ps := by
  unfold noTables at e
  split at e
  · cases e
  · rename_i h
    exact ⟨e, fun ps z => h ⟨ps, by rw [e, z]⟩⟩
/-- the wanted end of a law -/
abbrev lawD : EndsD := { nx := fun _ _ => False, rt := fun d _ => d = .bl true }
theorem law_PSs {X : Cx} {K : PySem.W.Frag} {mg : Str → Option Value} {k i : Nat} {y sx : Str} {ps : List Str} {p p2 p3 p4 p5 : Pos} {rest : List Stmt} {T : List (Addr × Str)} {t : TSD} {a : Addr} {ns : List Int} {H : Hp} {Q : VK} (hK : X.K = K) (hM : X.mg = mg)
    (hB : Has X.prog X.w X.K X.mg X.base k "_law_begun" ps (spBegun X.K X.mg)) (hr : Room k X.A) (hN : X.N.Nodup) (hi : X.N[i]? = some y) (hy : Loc X.env.scope y) (hfy : X.fn y = true ∨ X.env.scope.names.lookup y = some .local) (hx : PE X (.Name sx p3) (tVar 0)) (hi0 : i ≠ 0)
    (hs : swapsWith (.Call (.Name "_law_begun" p2) [.Name sx p3] [] p4) (some (.Name y p)) p5.line X.env = pure false) (hgl : Gl X "_law_begun")
    (hd : ∀ (sa sl sc : Addr) (G : Hp), (∀ b ps, G b ≠ some (.tbl ps)) → DSs X (fdL K mg sa sl sc T G) rest t) (ht : t lawD ((envAt X.N.length [.scr ns]).set i (.val .st)) 0)
    (hT : ∀ q ∈ T, H q.1 = some (.tbl #[])) (hS : SqL K H a (ns.map V.int)) (hl : ns.length ≤ 63) (hQ : ∀ H', Q (.bl true) H')
    (he : starEach (.Name sx p3 :: []) X.env = (false, eval (.Name sx p3) X.env) :: starEach [] X.env := by rfl) (hpl : (backTo p4 (starEach [] X.env)).any (·.1) = false := by rfl) :
    ∃ t', PSs X (.Assign [.Name y p] (.Call (.Name "_law_begun" p2) [.Name sx p3] [] p4) p5 :: rest) t' ∧ t' { nx := fun _ H' => Q .non H', rt := Q } (L2.start X.N [.ref a]) H := by
  subst hK hM
  obtain ⟨f, fd, Fk, hm, hk, hb⟩ := hB.ex
  have hrest : PSs X rest (fun D0 σ H => ∃ (sa sl sc : Addr) (G : Hp), (∀ b ps, G b ≠ some (.tbl ps)) ∧ liftS (fdL X.K X.mg sa sl sc T G) t D0 σ H) := ⟨fun pins s σ H D0 I ⟨sa, sl, sc, G, n, q⟩ => (hd sa sl sc G n).run pins s σ H D0 I q⟩
  refine ⟨_, pss_cons (ps_set hN hi hy (pe_callS (E := fun σ => WE noW σ) Fk hr hgl hm hk hb (fun σ => passAt takes0 σ) (pa_cons hx pa_nil he) (by decide) he hpl) hs hfy) hrest, ?_⟩
  have s0 : (L2.start X.N [V.ref a])[0]? = some (some (.ref a)) := rfl
  refine ⟨_, s0, a, ns, rfl, hS, hl, fun H' sa sl sc sm na nl st => ?_⟩
  have ng : ∀ b ps, noTables H b ≠ some (.tbl ps) := fun b ps e => (noTables_of e).2 ps rfl
  have sub : Same (noTables H) H' := fun b o e => sm b o (noTables_of e).1
  have rs : RpL (⟨X.K, X.mg, sa, sl, sc⟩ : Wz) (noTables H) [.scr ns] [.ref a] := by
    refine RpL.cons (rp_scr.mpr ⟨a, rfl, ?_⟩) RpL.nil
    rcases hS with (h | ⟨o, h⟩) | h
    · exact .inl (.inl (noTables_get h (fun _ z => by cases z)))
    · exact .inl (.inr ⟨o, noTables_get h (fun _ z => by cases z)⟩)
    · exact .inr h
  have free : ∀ b, H b = none → noTables H b = none := fun b e => by
    cases q : noTables H b with
    | none => rfl
    | some o => rw [(noTables_of q).1] at e; cases e
  have S0 : Sim (fdL X.K X.mg sa sl sc T (noTables H)).Z (fun _ => none) (noTables H) (L2.start X.N [V.ref a]) H' (noTables H) (envAt X.N.length [.scr ns]) 0 := by
    constructor
    · exact sub
    · exact Same.refl _
    · exact fun b h1 h2 => absurd h2 h1
    · intro b o h
      cases h
    · unfold envAt L2.start
      simp
    · intro j d h
      obtain ⟨v, e1, e2⟩ := rs.get (envAt_val h)
      exact ⟨v, start_at e1, e2⟩
    · exact fun j d h => (envAt_own h).elim
    · exact fun j1 j2 d e b h _ _ _ => (envAt_own h).elim
    · exact fun _ => st
    · rintro b ⟨_, z | z⟩
      · rw [z]; exact free _ na
      · rw [z]; exact free _ nl
    · exact fun q hq => LamX.TabS.nil (sm _ _ (hT q hq))
    · exact fun _ _ h => h
  have S1 := S0.set (d := .st) (v := .ref sa) (rp_st.mpr rfl) i
  refine ⟨sa, sl, sc, noTables H, ng, noTables H, _, 0, lawD, S1, ?_, ht⟩
  exact ⟨fun _ _ _ _ _ _ _ z => z.elim, fun σ1 H1 Hf1 env1 c1 d v _ _ r q => by
    subst q
    rw [rp_bl.mp r]
    exact hQ _, fun _ _ _ _ _ _ _ z => z.elim, fun _ _ _ _ _ _ _ z => z.elim, fun _ _ _ _ _ _ _ _ _ _ z => z.elim⟩
end DL
set_option Elab.async false
set_option linter.all false
set_option maxRecDepth 100000
set_option maxHeartbeats 1000000
/-! DL28: the run of a law whose def's code object is known. -/
namespace DL
open PySem PySem.Spec PyProof.Rows L2
/-- law_run with the def's own object: its code value cdv is then known in the body's context -/
theorem law_runC {P : Program} {w : World} {K : PySem.W.Frag} {mg : Str → Option Value} {base : Heap} {x a : Str} {st : Stmt} {N : List Str} {k : Nat} {fa sa : Addr} {s : Shared} {H : Hp} {E : XK} {Q : VK} {oc : Value} {od an : Option Addr} {osl : Array (Option Value)} {kV doc pm cdv ct : Value}
    (lk : K.lookup fa = some ⟨oc, od, .func (PySem.W.fnOf x x (defArgs st) (defBody st) (defScope st) .none kV doc pm an cdv ct), osl⟩) (hcd : PySem.W.codeIn K cdv x = true) (hb : Binds K (PySem.W.fnOf x x (defArgs st) (defBody st) (defScope st) .none kV doc pm an cdv ct) [a] []) (S : FnScope N [a] (defScope st)) (hr : Room (k + 1) callerA)
    (e0 : Env0 P w K mg base callerA [] s H)
    (hbody : Room k (callerA.deeper (envOfC x (defScope st) s.heap.objs.size fa cdv)) → ∃ t, PSs (cxOf (L2.CX P w) P w K mg base N x (defScope st) fa cdv callerA [] s H E) (defBody st) t ∧ t { nx := fun _ H' => Q .non H', rt := Q } (L2.start N [.ref sa]) H) :
    codeAny (model P w) callerA (.call (.ref fa) ⟨[.ref sa], []⟩) (CR (L2.CX P w) [] P w H s Q E) s := by
  have KX : K.In s.heap := e0.mod.kin.keeps fun b o e => (e0.bs b o e).1
  exact LamX.run_ofS (N := N) (ps := [a]) (us := [.ref sa]) (vs := [.ref sa]) lk hcd S hr e0 (by have z := hb s [.ref sa] KX rfl; simpa using z) (.cons rfl .nil) rfl fun hr' => hbody hr'
theorem code_at {P : Program} {w : World} {K : PySem.W.Frag} {mg : Str → Option Value} {base : Heap} {x : Str} {st : Stmt} {N : List Str} {fa : Addr} {cdv : Value} {s : Shared} {H : Hp} {E : XK} {A : Around} {outer : List Env} :
    (cxOf (L2.CX P w) P w K mg base N x (defScope st) fa cdv A outer s H E).env.code = cdv := rfl
theorem noTbl_L {K : PySem.W.Frag} {mg : Str → Option Value} {sa sl sc : Addr} {T : List (Addr × Str)} {G : Hp} (h : ∀ b ps, G b ≠ some (.tbl ps)) : NoTbl (fdL K mg sa sl sc T G) := by
  constructor
  · intro b ps z
    cases z
  · exact h
end DL
set_option Elab.async false
set_option linter.all false
set_option maxRecDepth 100000
set_option maxHeartbeats 1000000
/-! DL29: t[::-1], t a tuple. -/
namespace DL
open PySem PySem.Spec PyProof.Rows L2
theorem adjust_rev (n : Nat) : Builtin.Slice.sliceAdjust none none (-1) (n : Int) = ((n : Int) - 1, -1) := by
  unfold Builtin.Slice.sliceAdjust
  simp
theorem places_rev (n : Nat) : Builtin.Slice.slicePlaces ((n : Int) - 1) (-1) (-1) = n := by
  unfold Builtin.Slice.slicePlaces
  simp
  split <;> omega
theorem range_get {α : Type} : ∀ l : List α, (List.range l.length).filterMap (fun m => l[m]?) = l
  | [] => rfl
  | a :: r => by
    rw [List.length_cons, List.range_succ_eq_map, List.filterMap_cons_some (f := fun m => (a :: r)[m]?) (a := 0) (b := a) rfl, List.filterMap_map]
    have e : ((fun m => (a :: r)[m]?) ∘ Nat.succ) = fun m => r[m]? := by
      funext m
      simp
    rw [e, range_get r]
theorem filt_congr {α β : Type} {f g : α → Option β} : ∀ {l : List α}, (∀ x ∈ l, f x = g x) → l.filterMap f = l.filterMap g
  | [], _ => rfl
  | a :: r, h => by
    rw [List.filterMap_cons, List.filterMap_cons, h a List.mem_cons_self, filt_congr fun x hx => h x (List.mem_cons_of_mem _ hx)]
theorem pick_rev (xs : Array Value) : ((List.range xs.size).filterMap fun (m : Nat) => xs[(((xs.size : Nat) : Int) - 1 + (m : Int) * (-1)).toNat]?).toArray = xs.toList.reverse.toArray := by
  congr 1
  have z := range_get xs.toList.reverse
  rw [List.length_reverse, Array.length_toList] at z
  rw [← z]
  refine filt_congr ?_
  intro m hm
  have hm' := List.mem_range.mp hm
  rw [List.getElem?_reverse (by rw [Array.length_toList]; exact hm'), Array.length_toList, Array.getElem?_toList]
  congr 1
  omega
section
variable {prog : Program} {w : World} {A : Around} {E : Value → Shared → Prop} {s : Shared}
theorem applied_rev {sl : Addr} {t : Tok} {n : Nat} {Q : Int × Int × Nat → Shared → Prop} (hs : s.heap.IsSliceOf sl .none .none (.int (-1) t)) (h : Q ((n : Int) - 1, -1, n) s) : wpAny (model prog w) A (Builtin.Slice.sliceApplied (.ref sl) (pure (n : Int))) Q E s := by
  obtain ⟨os, hos, hcs, hds⟩ := id hs
  unfold Builtin.Slice.sliceApplied Builtin.Slice.sliceFields
  refine wpAny_bind (wpAny_bind (wpAny_field hos hds (x := .none) rfl (wpAny_bind (wpAny_field hos hds (x := .none) rfl (wpAny_bind (wpAny_field hos hds (x := .int (-1) t) rfl (wpAny_pure ?_)))))))
  refine wpAny_bind (HT.slicePart_ (.int (-1) t) ?_)
  show wpAny _ _ (if ((-1 : Int) == 0) = true then _ else _) _ _ s
  rw [if_neg (by decide)]
  refine wpAny_bind (HT.slicePart_ .none (wpAny_bind (HT.slicePart_ .none (wpAny_bind (wpAny_pure ?_)))))
  show wpAny _ _ (match Builtin.Slice.sliceAdjust none none (-1) (n : Int) with | (lo, hi) => pure (lo, (-1 : Int), Builtin.Slice.slicePlaces lo hi (-1))) _ _ s
  rw [adjust_rev]
  show wpAny _ _ (pure ((n : Int) - 1, (-1 : Int), Builtin.Slice.slicePlaces ((n : Int) - 1) (-1) (-1))) _ _ s
  rw [places_rev]
  exact wpAny_pure h
theorem getItem_rev {t sl : Addr} {items : Array Value} {tk : Tok} {Q : Value → Shared → Prop} (ht : IsTup s.heap t items) (hs : s.heap.IsSliceOf sl .none .none (.int (-1) tk))
    (h : Q (.ref s.heap.objs.size) { s with heap := s.heap.push { cls := .type "tuple", data := .seq items.toList.reverse.toArray } }) (hsz : items.size ≤ sizeLine) : wpAny (model prog w) A (getItem (.ref t) (.ref sl)) Q E s := by
  have fits : sizeOk (.seq items.toList.reverse.toArray) := by
    show items.toList.reverse.toArray.size ≤ sizeLine
    simpa using hsz
  obtain ⟨os, hos, hcs, hds⟩ := id hs
  have isS : s.TypeIs (.ref sl) "slice" := ⟨os, hos, hcs⟩
  unfold getItem
  first
    | refine wpAny_holding (wpAny_bind (wpAny_sequenceKey ht.typeIs (by decide) ?_))
    | refine wpAny_bind (wpAny_sequenceKey ht.typeIs (by decide) ?_)
    | refine wpAny_bind (wpAny_pure (wpAny_bind (wpAny_sequenceKey ht.typeIs (by decide) ?_)))
  have slot := PyProof.Rows.slot_tuple_getitem
  refine wpAny_bind (wpAny_callSpecial?_slot (name := Str.ofString "__getitem__") ht.typeIs slot ?_)
  refine wpAny_call_entry slot ht.typeIs entry_tuple_getitem ?_ (args_tuple_getitem _ _)
  show wpAny _ _ (Builtin.Tuple.tupleItemsOf (.ref t) >>= _) _ _ s
  refine wpAny_bind (tupleItemsOf_ ht ?_)
  refine wpAny_bind (wpAny_typeOf isS ?_)
  rw [if_pos (by decide)]
  refine wpAny_bind (applied_rev hs ?_)
  have no : ¬ ((((items.size : Nat) : Int) - 1 == 0 && (-1 : Int) == 1 && items.size == items.size) = true) := by
    intro q
    simp at q
  show wpAny _ _ (if (((items.size : Nat) : Int) - 1 == 0 && (-1 : Int) == 1 && items.size == items.size) = true then _ else _) _ _ s
  rw [if_neg no, pick_rev]
  first
    | exact wpAny_bind (m := Builtin.Tuple.tupleExact _) (wpAny_newObj_type (wpAny_pure ⟨_, rfl, wpAny_pure h⟩) fits)
    | exact wpAny_bind (m := Builtin.Tuple.tupleExact _) (wpAny_newObj_type (wpAny_bind (wpAny_pure (wpAny_pure ⟨_, rfl, wpAny_pure h⟩))) fits)
    | exact wpAny_bind (wpAny_bind (m := Builtin.Tuple.tupleExact _) (wpAny_newObj_type (wpAny_pure (wpAny_pure ⟨_, rfl, wpAny_pure h⟩)) fits))
    | exact wpAny_bind (wpAny_bind (m := Builtin.Tuple.tupleExact _) (wpAny_newObj_type (wpAny_pure ⟨_, rfl, wpAny_pure h⟩) fits))
end
theorem pe_revT {X : Cx} {e : Expr} {te : TE} {k : Nat} {p1 p2 p3 pos : Pos} (he : PE X e te) :
    PE X (.Subscript e (.Slice none none (some (.UnaryOp .USub (.Constant (.int 1) k p1) p2)) p3) pos) (fun σ H Q => te σ H fun x H1 => ∃ a xs, x = .ref a ∧ SqT X.K H1 a xs ∧ ∀ p, H1 p = none → Q (.ref p) (upd H1 p (.tup xs.reverse))) := by
  constructor
  intro pins s σ H Q I h
  apply Subscript_
  refine thn (he.run pins s σ H _ I h) ?_
  rintro v s1 ⟨x, H1, I1, r1, a, xs, rfl, hx, q⟩
  cases r1
  have step : PO X (some (.UnaryOp .USub (.Constant (.int 1) k p1) p2)) (tPart (tUn (rU fun i => .int (-i)) (tC (.int 1)))) := po_some (pe_un un_neg pe_int)
  apply wpAny_Slice
  refine thn (po_none.run pins s1 σ H1 (fun o G => o = none ∧ G = H1) I1 ⟨rfl, rfl⟩) ?_
  rintro vl s2 ⟨l, H2, I2, pl, rfl, rfl⟩
  refine thn (po_none.run pins s2 σ H2 (fun o G => o = none ∧ G = H2) I2 ⟨rfl, rfl⟩) ?_
  rintro vu s3 ⟨u, H3, I3, pu, rfl, rfl⟩
  refine thn (step.run pins s3 σ H3 (fun o G => o = some (-1) ∧ G = H3) I3 ⟨1, rfl, -1, rfl, rfl, rfl⟩) ?_
  rintro vs s4 ⟨o, H4, I4, ps, rfl, rfl⟩
  cases pl
  cases pu
  obtain ⟨t, rfl⟩ : ∃ t, vs = Value.int (-1) t := by
    cases ps with
    | int i t => exact ⟨t, rfl⟩
  have I5 : Inv X pins σ H4 { s4 with heap := s4.heap.push { cls := .type "slice", data := .fields #[.none, .none, .int (-1) t] } } := I4.kept (t' := s4.toks) fun b ob q => Heap.get?_push_of_some _ q
  obtain ⟨its, r, isT, hz⟩ := I5.tuple hx
  have len := r.length
  refine tail_any (ops := [.ref a, .ref s4.heap.objs.size]) (T := "tuple") isT.typeIs (PyProof.Rows.slot_tuple_getitem.lookup) ?_ (by with_unfolding_all rfl)
  refine getItem_rev isT (Heap.IsSliceOf.new _ _ _ _) ?_ (by rw [List.size_toArray]; omega)
  refine ⟨.ref _, _, I5.laid (t' := s4.toks) (o := .tup xs.reverse) (fun b ob q => Heap.get?_push_of_some _ q) (Nat.le_refl _) ?_, rfl, q _ (I5.hok.fresh (Nat.le_refl _))⟩
  exact ⟨by rw [List.length_reverse]; exact hz, _, r.reverse, IsTup.new _ _⟩
@[simp] def tRevT (t : TED) : TED := fun env c W Q => t env c W fun d c1 => match d with
  | .tup ds => Q (.tup ds.reverse) c1
  | _ => False
theorem de_revT {X : Cx} {F : Fd} {e : Expr} {te : TED} {k : Nat} {p1 p2 p3 pos : Pos} (he : DB X F e te) (hK : F.Z.K = X.K := by rfl) : DE X F (.Subscript e (.Slice none none (some (.UnaryOp .USub (.Constant (.int 1) k p1) p2)) p3) pos) (tRevT te) :=
  PE.imp (pe_revT he) fun σ H Q ⟨Hf, env, c, Wd, Qd, S, x, ht, k⟩ => ⟨Hf, env, c, Wd, _, S, x, ht, fun v H1 Hf1 c1 d S1 s1 k1 r1 q1 => by
    cases d with
    | tup ds =>
      obtain ⟨a, vs, rfl, h1, h2, _⟩ := vrp_tup S1.sub (r1.at S1)
      refine ⟨a, vs, rfl, SqT.of h1, fun p hp => ?_⟩
      obtain ⟨g, rr⟩ := new_tup S1.sub hp h2.reverse
      exact k _ _ _ c1 _ (S1.grow g) (s1.trans g.hf) (k1.trans (Keep.of g.h)) rr q1
    | _ => exact q1.elim⟩
end DL
set_option Elab.async false
set_option linter.all false
set_option maxRecDepth 100000
set_option maxHeartbeats 1000000
/-! DL30: ends of defs' bodies; a law's end with its code table known. -/
namespace DL
open PySem PySem.Spec PyProof.Rows L2
abbrev endP (W R : D → Prop) : EndsD := { nx := fun _ _ => R .non, rt := fun d _ => R d, ex := fun d _ _ => W d }
abbrev endS (W : WD) (R : D → Nat → Prop) : EndsD := { nx := fun _ c => R .non c, rt := R, ex := fun d _ c => W d c }
section
variable {P : Program} {w : World} {K : PySem.W.Frag} {mg : Str → Option Value} {base : Heap} {x : Str} {st : Stmt} {N ps : List Str} {k : Nat} {t : TSD} {f : Addr} {fd : FuncData}
theorem ok_P {pf : PF} (Fn : Fun K x x st f fd) (S : FnScope N ps (defScope st)) (len : ∀ ds W R, pf ds W R → ds.length = ps.length)
    (hd : ∀ (X : Cx) (F : Fd) (f : Addr) (cdv : Value) (A : Around) (outer : List Env) (s : Shared) (H G : Hp) (sa sl sc : Addr) (E : XK), X = cxOf (L2.CX P w) P w K mg base N x (defScope st) f cdv A outer s H E → F = fdP K mg sa sl sc H G (fun cls d _ H => E cls d H) →
      Takes X F.W → Room k X.A → DSs X F (defBody st) t) (hq : ∀ (ds : List D) (W R : D → Prop), pf ds W R → t (endP W R) (envAt N.length ds) 0) : FnOk P w K mg base (L2.CX P w) (k + 1) f fd ps (spP K mg pf) :=
  okP Fn S len fun X F cdv A outer s H G sa sl sc E eX eF tk hr => ⟨t, hd X F f cdv A outer s H G sa sl sc E eX eF tk hr, hq⟩
theorem ok_S {pf : PFS} (Fn : Fun K x x st f fd) (S : FnScope N ps (defScope st)) (len : ∀ ds c W R, pf ds c W R → ds.length = ps.length)
    (hd : ∀ (X : Cx) (F : Fd) (f : Addr) (cdv : Value) (A : Around) (outer : List Env) (s : Shared) (H G : Hp) (sa sl sc : Addr) (E : XK), X = cxOf (L2.CX P w) P w K mg base N x (defScope st) f cdv A outer s H E → F = fdS K mg sa sl sc H G (fun cls d _ H => E cls d H) →
      Takes X F.W → Room k X.A → DSs X F (defBody st) t) (hq : ∀ (ds : List D) (c : Nat) (W : WD) (R : D → Nat → Prop), pf ds c W R → t (endS W R) (envAt N.length ds) c) : FnOk P w K mg base (L2.CX P w) (k + 1) f fd ps (spS K mg pf) :=
  okS Fn S len fun X F cdv A outer s H G sa sl sc E eX eF tk hr => ⟨t, hd X F f cdv A outer s H G sa sl sc E eX eF tk hr, hq⟩
theorem df_mk {h : Heap} {oc kV doc pm cdv ct : Value} {od an : Option Addr} {osl : Array (Option Value)} (X : K.In h) (G : h.Ns mainGlobals mg) (a : PySem.W.nsIn K mainGlobals x = some (some (.ref f)))
    (l : K.lookup f = some ⟨oc, od, .func (PySem.W.fnOf x x (defArgs st) (defBody st) (defScope st) .none kV doc pm an cdv ct), osl⟩) (c : PySem.W.codeIn K cdv x = true) (kp : PySem.W.keepIn K (.ref f) = true)
    (b : ∀ (kV doc pm : Value) (an : Option Addr) (cdv ct : Value) (us : List Value), us.length = ps.length → bindArgs (PySem.W.fnOf x x (defArgs st) (defBody st) (defScope st) .none kV doc pm an cdv ct) ⟨us, []⟩ = pure (ps.zip us)) : Df K mg x st ps :=
  have F := fun_mk (st := st) l c kp
  ⟨f, _, F, PySem.W.mg_of X G a, F.binds b⟩
end
/-- an error of the class at C is what «except S» names, S above it -/
theorem exm_under {K : PySem.W.Frag} {C S : Addr} (h1 : PySem.W.subIn K (.ref S) (.type "BaseException") = some true) (h2 : PySem.W.isClsIn K S = true) (h3 : PySem.W.typeIn K (.ref S) = some (.type "type")) (h4 : PySem.W.subIn K (.ref C) (.ref S) = some true) :
    PySem.W.exmOne K (.ref C) (.ref S) = some true := by
  have z1 : (PySem.W.subIn K (.ref S) (.type "BaseException") == some true) = true := by rw [h1] <;> rfl
  have z2 : ((PySem.W.clsIn K S).isSome && PySem.W.typeIn K (.ref S) == some (.type "type")) = true := by
    have z3 : (PySem.W.clsIn K S).isSome = true := h2
    rw [z3, h3] <;> rfl
  unfold PySem.W.exmOne
  rw [if_pos z1]
  show (if ((PySem.W.clsIn K S).isSome && PySem.W.typeIn K (.ref S) == some (.type "type")) = true then PySem.W.subIn K (.ref C) (.ref S) else none) = some true
  rw [if_pos z2]
  exact h4
theorem isc_mk {K : PySem.W.Frag} {mg : Str → Option Value} {h : Heap} {y : Str} {C : Addr} {rs : List (Str × Bool)} (X : K.In h) (G : h.Ns mainGlobals mg) (a : PySem.W.nsIn K mainGlobals y = some (some (.ref C))) (nn : PySem.W.kitOne K (.type "NoneType") (.ref C) = some false)
    (all : ∀ p ∈ rs, ∃ D0, PySem.W.nsIn K mainGlobals p.1 = some (some (.ref D0)) ∧ ExcC K D0 ∧ PySem.W.kitOne K (.ref D0) (.ref C) = some p.2) : IsC K mg y (fun n => rs.lookup n) := by
  refine ⟨C, PySem.W.mg_of X G a, nn, fun n b hn D0 hD => ?_⟩
  have hm : (n, b) ∈ rs := by
    clear all nn a
    induction rs with
    | nil => cases hn
    | cons p r ih =>
      obtain ⟨q, z⟩ := p
      rw [List.lookup_cons] at hn
      by_cases e : (n == q) = true
      · rw [e] at hn
        cases hn
        rw [beq_iff_eq.mp e]
        exact List.mem_cons_self ..
      · rw [Bool.not_eq_true] at e
        rw [e] at hn
        exact List.mem_cons_of_mem _ (ih hn)
  obtain ⟨D1, h1, h2, h3⟩ := all _ hm
  have e := hD.symm.trans (PySem.W.mg_of X G h1)
  cases e
  exact ⟨h2, h3⟩
theorem fill_mk {K : PySem.W.Frag} {mg : Str → Option Value} {h : Heap} {y : Str} {CS : Addr} {ns : List Str} (X : K.In h) (G : h.Ns mainGlobals mg) (a : PySem.W.nsIn K mainGlobals y = some (some (.ref CS)))
    (all : ∀ n ∈ ns, ∃ C, PySem.W.nsIn K mainGlobals n = some (some (.ref C)) ∧ PySem.W.exmOne K (.ref C) (.ref CS) = some true) : ∃ CS, mg y = some (.ref CS) ∧ ∀ n ∈ ns, ∀ C, mg n = some (.ref C) → PySem.W.exmOne K (.ref C) (.ref CS) = some true := by
  refine ⟨CS, PySem.W.mg_of X G a, fun n hn C hC => ?_⟩
  obtain ⟨C1, h1, h2⟩ := all n hn
  have e := hC.symm.trans (PySem.W.mg_of X G h1)
  cases e
  exact h2
theorem exc_mk {K : PySem.W.Frag} {mg : Str → Option Value} {h : Heap} {x : Str} {C : Addr} {bm : List Value} {B nw ini : String} (FB : ExcBaseFacts B nw ini bm) (X : K.In h) (G : h.Ns mainGlobals mg) (a : PySem.W.nsIn K mainGlobals x = some (some (.ref C))) (b : PySem.W.keepIn K (.ref C) = true)
    (c : PySem.W.excIn K C bm nw = true) (d : PySem.W.subIn K (.ref C) (.type "BaseException") = some true) (e : PySem.W.typeIn K (.ref C) = some (.type "type")) : Exc K mg x := ⟨C, PySem.W.mg_of X G a, b, ⟨bm, B, nw, ini, FB, c⟩, d, e⟩
theorem isc_one {K : PySem.W.Frag} {x : Str} {D0 C : Addr} {b : Bool} (a : PySem.W.nsIn K mainGlobals x = some (some (.ref D0))) (hg : PySem.W.findIn K (.ref D0) "__getattribute__" = some (some (.builtin "BaseException.__getattribute__"))) (hk : PySem.W.findIn K (.ref D0) "__getattr__" = some none)
    (hs : PySem.W.subIn K (.ref D0) (.type "BaseException") = some true) (hd : PySem.W.hasDictIn K D0 = true) (ha : PySem.W.findIn K (.ref D0) "__class__" = some (some (.builtin "object.__class__"))) (hn : PySem.W.specialIn K (.builtin "object.__class__") "__get__" = some (some (.builtin "getset_descriptor.__get__")))
    (ht : PySem.W.takesIn K (.builtin "object.__class__") = some true) (hm : PySem.W.mroIn K D0 (.type "object") = some true) (c : PySem.W.kitOne K (.ref D0) (.ref C) = some b) :
    ∃ D0, PySem.W.nsIn K mainGlobals x = some (some (.ref D0)) ∧ ExcC K D0 ∧ PySem.W.kitOne K (.ref D0) (.ref C) = some b := ⟨D0, a, ⟨hg, hk, hs, hd, ha, hn, ht, hm⟩, c⟩
theorem fill_one {K : PySem.W.Frag} {n : Str} {C CS : Addr} (a : PySem.W.nsIn K mainGlobals n = some (some (.ref C))) (h1 : PySem.W.subIn K (.ref CS) (.type "BaseException") = some true) (h2 : PySem.W.isClsIn K CS = true) (h3 : PySem.W.typeIn K (.ref CS) = some (.type "type")) (h4 : PySem.W.subIn K (.ref C) (.ref CS) = some true) :
    ∃ C, PySem.W.nsIn K mainGlobals n = some (some (.ref C)) ∧ PySem.W.exmOne K (.ref C) (.ref CS) = some true := ⟨C, a, exm_under h1 h2 h3 h4⟩
theorem const_mk {K : PySem.W.Frag} {mg : Str → Option Value} {h : Heap} {x : Str} {i : Int} {v : Value} (X : K.In h) (G : h.Ns mainGlobals mg) (a : PySem.W.nsIn K mainGlobals x = some (some v)) (e : ∃ t, v = .int i t) : ∃ t, mg x = some (.int i t) := by
  obtain ⟨t, rfl⟩ := e
  exact ⟨t, PySem.W.mg_of X G a⟩
theorem all_cons {α : Type} {p : α → Prop} {a : α} {r : List α} (h : p a) (t : ∀ x ∈ r, p x) : ∀ x ∈ a :: r, p x := fun x hx => by
  rcases List.mem_cons.mp hx with rfl | hx
  · exact h
  · exact t x hx
theorem all_nil {α : Type} {p : α → Prop} : ∀ x ∈ ([] : List α), p x := fun x hx => absurd hx List.not_mem_nil
theorem walk_hereT {l : PySem.W.OpenLaw} {n : Nat} {q : Program} {loose : List Str} {XP : (Str → Option Value) → Heap → Prop} {YP : World → Heap → Prop} {d : DefRec} {K : Params → PySem.W.Frag} (hn : l.most = some n) (hn2 : n ≤ sizeLine) (hdf : d.params.defaults = [])
    (hY : ∀ (w : World) (h : Heap), YP w h → (K w.params).In h)
    (F : ∀ (w : World) (mg mb : Str → Option Value) (mean : ExcName → Option Value) (fa : Addr) (h : Heap), YP w h → (K w.params).In h → Top q (PySem.W.looseW q loose) mean mg mb h → h.Ns mainGlobals mg → mg d.name = some (.ref fa) → LawHere l w (K w.params) n mg fa h) :
    PySem.W.WalkO q loose XP YP l.row.toRowW d [] (fun f vs => PySem.call f vs) := by
  refine Att.attach_callB hn hdf ?_
  intro w s₀ s₁ mg mb fa o pm cd doc a vs ns G Y _ _ _ hmg hobj hints hlen _ hg
  have KX := hY w _ Y
  obtain ⟨cs, h1, h2, h3, run⟩ := F w mg mb _ fa _ Y KX G.T G.T.g hmg
  have fl : Floor (K w.params) mg mb cs s₁ a vs ns := ⟨KX, G.T.g, G.T.b, G.T.builtins, G.T.nolimit, hg, h1, h2, h3, G.T.bmain, hobj, hints, Nat.le_trans hlen hn2⟩
  refine codeAny_mono (run s₁ _ _ a ns hlen fl.tabB (fun p hp => start_tab hp) (fun b ps e => ?_) fl.seq fl.env0) fun r s' h => fl.behind h
  rcases start_cases (K := K w.params) (cs := cs) (a := a) (vs := vs) (ns := ns) b with ⟨m, _⟩ | ⟨_, _, _, z⟩ | z
  · obtain ⟨p, hp, e⟩ := List.mem_map.mp m
    exact ⟨p, hp, e⟩
  · rw [z] at e
    cases e
  · rw [z] at e
    cases e
end DL
set_option Elab.async false
set_option linter.all false
set_option maxRecDepth 100000
set_option maxHeartbeats 1000000
/-! DL31: plain laws of readings: comprehensions and loops by what one turn does. -/
namespace DL
open PySem PySem.Spec PyProof.Rows L2
theorem Tg.set_imp {tg : Tg} {d : D} {env : EnvD} {k k' : EnvD → Prop} (h : tg.set d env k) (i : ∀ e, k e → k' e) : tg.set d env k' := by
  cases tg with
  | one j => exact i _ h
  | tup is =>
    cases d with
    | tup ds => exact ⟨h.1, i _ h.2⟩
    | _ => exact h.elim
section
variable {tg : Tg} {own : List Nat} {tt : TTD} {te : TED} {env : EnvD} {Q : D → Nat → Prop}
theorem lc_inv (I : List D → List D → Nat → Prop)
    (step : ∀ d ds acc c, I (d :: ds) acc c → ∀ (k0 : Nat → Prop) (k1 : D → Nat → Prop), (∀ c', I ds acc c' → k0 c') → (∀ y c', I ds (acc ++ [y]) c' → k1 y c') →
      tg.set d (wipeD env own) fun env1 => tt env1 c noWD fun b c1 => if b = true then te env1 c1 noWD k1 else k0 c1)
    (hs : ∀ ds acc c y, I ds (acc ++ [y]) c → acc.length < sizeLine) (hend : ∀ acc c, I [] acc c → Q (.lst acc) c) : ∀ (ds acc : List D) (c : Nat), I ds acc c → lcD tg own tt te env Q ds acc c
  | [], acc, c, h => hend acc c h
  | d :: ds, acc, c, h => by
    show tg.set d (wipeD env own) _
    exact step d ds acc c h (fun c1 => lcD tg own tt te env Q ds acc c1) (fun y c2 => acc.length < sizeLine ∧ lcD tg own tt te env Q ds (acc ++ [y]) c2) (fun c' i => lc_inv I step hs hend ds acc c' i) fun y c' i => ⟨hs ds acc c' y i, lc_inv I step hs hend ds (acc ++ [y]) c' i⟩
/-- no draws: p tells which stay, f what comes of them -/
theorem lc_pure (p : D → Bool) (f : D → D) {c : Nat} : ∀ (ds acc : List D), acc.length + ds.length ≤ sizeLine →
    (∀ d ∈ ds, ∀ (k0 : Nat → Prop) (k1 : D → Nat → Prop), (if p d = true then k1 (f d) c else k0 c) → tg.set d (wipeD env own) fun env1 => tt env1 c noWD fun b c1 => if b = true then te env1 c1 noWD k1 else k0 c1) →
    Q (.lst (acc ++ (ds.filter p).map f)) c → lcD tg own tt te env Q ds acc c
  | [], acc, _, _, q => by
    show Q (.lst acc) c
    simpa using q
  | d :: ds, acc, hl, h, q => by
    rw [List.length_cons] at hl
    refine h d (List.mem_cons_self ..) (fun c1 => lcD tg own tt te env Q ds acc c1) (fun y c2 => acc.length < sizeLine ∧ lcD tg own tt te env Q ds (acc ++ [y]) c2) ?_
    by_cases hp : p d = true
    · rw [if_pos hp]
      refine ⟨by omega, lc_pure p f ds (acc ++ [f d]) (by rw [List.length_append, List.length_singleton]; omega) (fun e he => h e (List.mem_cons_of_mem _ he)) ?_⟩
      rw [List.filter_cons_of_pos hp] at q
      simpa using q
    · rw [if_neg hp]
      refine lc_pure p f ds acc (by omega) (fun e he => h e (List.mem_cons_of_mem _ he)) ?_
      rwa [List.filter_cons_of_neg hp] at q
end
/-- all stay -/
theorem lc_map {tg : Tg} {own : List Nat} {te : TED} {env : EnvD} {Q : D → Nat → Prop} (f : D → D) {c : Nat} (ds acc : List D) (hl : acc.length + ds.length ≤ sizeLine)
    (h : ∀ d ∈ ds, ∀ k1 : D → Nat → Prop, k1 (f d) c → tg.set d (wipeD env own) fun env1 => te env1 c noWD k1) (q : Q (.lst (acc ++ ds.map f)) c) : lcD tg own tYesD te env Q ds acc c :=
  lc_pure (fun _ => true) f ds acc hl (fun d hd k0 k1 z => by
    have z2 := h d hd k1 (by simpa using z)
    exact Tg.set_imp z2 fun e he => by
      show (if true = true then te e c noWD k1 else k0 c)
      rw [if_pos rfl]; exact he) (by rw [List.filter_eq_self.mpr (fun _ _ => rfl)]; exact q)
section
variable {tg : Tg} {tb : TSD} {D0 : EndsD}
theorem loop_inv (I : List D → EnvD → Nat → Prop)
    (step : ∀ d ds (N : EnvD → Nat → Prop), (∀ env c, I ds env c → N env c) → ∀ env c, I (d :: ds) env c → tg.set d env fun env1 => tb { D0 with nx := N, ct := N, bk := D0.nx } env1 c)
    (hend : ∀ env c, I [] env c → D0.nx env c) : ∀ (ds : List D) (env : EnvD) (c : Nat), I ds env c → loopD tg tb D0 ds env c
  | [], env, c, h => hend env c h
  | d :: ds, env, c, h => step d ds (loopD tg tb D0 ds) (fun env' c' i => loop_inv I step hend ds env' c' i) env c h
end
theorem rng_eq : ∀ (lo : Int) (n : Nat), rngD lo 1 n = (List.range n).map fun (k : Nat) => D.int (lo + k)
  | _, 0 => rfl
  | lo, n + 1 => by
    rw [rngD, rng_eq (lo + 1) n, List.range_succ_eq_map, List.map_cons, List.map_map]
    congr 1
    · simp
    · refine List.map_congr_left fun k _ => ?_
      show D.int (lo + 1 + k) = D.int (lo + ((k + 1 : Nat) : Int))
      congr 1
      omega
theorem loop_rng {tg : Tg} {tb : TSD} {D0 : EndsD} (I : Nat → EnvD → Nat → Prop) (lo : Int) (m : Nat)
    (step : ∀ k, k < m → ∀ (N : EnvD → Nat → Prop), (∀ env c, I (k + 1) env c → N env c) → ∀ env c, I k env c → tg.set (.int (lo + k)) env fun env1 => tb { D0 with nx := N, ct := N, bk := D0.nx } env1 c)
    (hend : ∀ env c, I m env c → D0.nx env c) (env : EnvD) (c : Nat) (h : I 0 env c) : loopD tg tb D0 (rngD lo 1 m) env c := by
  refine loop_inv (fun rest env c => ∃ k, k ≤ m ∧ rest = rngD (lo + (k : Nat)) 1 (m - k) ∧ I k env c) ?_ ?_ _ env c ⟨0, by omega, by simp, h⟩
  · rintro d ds N hN env c ⟨k, hk, e, hi⟩
    have hlt : k < m := by
      have := congrArg List.length e
      rw [rngD_length, List.length_cons] at this
      omega
    obtain ⟨n, hn⟩ : ∃ n, m - k = n + 1 := ⟨m - k - 1, by omega⟩
    rw [hn, rngD] at e
    cases e
    refine step k hlt N (fun env c z => hN env c ⟨k + 1, hlt, ?_, z⟩) env c hi
    rw [show m - (k + 1) = n by omega]
    congr 1
    omega
  · rintro env c ⟨k, hk, e, hi⟩
    have : m - k = 0 := by
      have := congrArg List.length e
      rw [rngD_length] at this
      simpa using this.symm
    have hkm : k = m := by omega
    subst hkm
    exact hend env c hi
/-- one statement, the rest out of sight: what is told of the rest is handed back as hN -/
theorem st_seq {t u : TSD} {D0 : EndsD} {env : EnvD} {c : Nat} (h : ∀ N : EnvD → Nat → Prop, (∀ env' c', u D0 env' c' → N env' c') → t { D0 with nx := N } env c) : tSeqD t u D0 env c := h (u D0) fun _ _ z => z
/-! ### draws are counted -/
def cap : Nat := 1099511627776
theorem draw_ok {c n : Nat} {W : WD} {R : D → Nat → Prop} (hc : c < cap) (h0 : 0 < n) (h1 : n < 1073741824) (h : ∀ v : Nat, v < n → R (.int v) (c + 1)) : drawPF [.st, .int n] c W R :=
  ⟨n, rfl, by omega, by omega, by unfold cap at hc; omega, fun v a b => by
    have z := h v.toNat (by omega)
    rwa [show ((v.toNat : Nat) : Int) = v by omega] at z⟩
theorem draw_okI {c : Nat} {n : Int} {W : WD} {R : D → Nat → Prop} (hc : c < cap) (h0 : 0 < n) (h1 : n < 1073741824) (h : ∀ v : Int, 0 ≤ v → v < n → R (.int v) (c + 1)) : drawPF [.st, .int n] c W R :=
  ⟨n, rfl, h0, h1, by unfold cap at hc; omega, h⟩
end DL
set_option Elab.async false
set_option linter.all false
set_option maxRecDepth 100000
set_option maxHeartbeats 1000000
/-! DL32: dicts that are built: d[k] = v, d.get(k, x), d.pop(k, x). -/
namespace DL
open PySem PySem.Spec PyProof.Rows L2
open Classical in
/-- the values behind d[k] = v -/
noncomputable def putVs (ks vs : List D) (k v : D) : List D := if k ∈ ks then List.zipWith (fun k' v' => if k' = k then v else v') ks vs else vs ++ [v]
open Classical in
/-- .. and the keys -/
noncomputable def putKs (ks : List D) (k : D) : List D := if k ∈ ks then ks else ks ++ [k]
section
variable {Z : Wz} {H : Hp}
theorem any_mem {κ : Type} [DecidableEq κ] {f : κ → D} (hf : ∀ a b, f a = f b → a = b) (k : κ) (kvs : List (κ × V)) : (kvs.any fun kv => decide (kv.1 = k)) = true ↔ f k ∈ kvs.map (fun p => f p.1) := by
  rw [List.any_eq_true, List.mem_map]
  constructor
  · rintro ⟨p, hp, e⟩
    exact ⟨p, hp, congrArg f (of_decide_eq_true e)⟩
  · rintro ⟨p, hp, e⟩
    exact ⟨p, hp, decide_eq_true (hf _ _ e)⟩
theorem put_ks {κ : Type} [DecidableEq κ] {f : κ → D} (hf : ∀ a b, f a = f b → a = b) (k : κ) (v : V) (kvs : List (κ × V)) : (putK kvs k v).map (fun p => f p.1) = putKs (kvs.map fun p => f p.1) (f k) := by
  unfold putK putKs
  by_cases h : (kvs.any fun kv => decide (kv.1 = k)) = true
  · rw [if_pos h, if_pos ((any_mem hf k kvs).mp h), List.map_map]
    refine List.map_congr_left fun p _ => ?_
    show f (if p.1 = k then (p.1, v) else p).1 = f p.1
    split <;> rfl
  · rw [if_neg h, if_neg (fun z => h ((any_mem hf k kvs).mpr z)), List.map_append]
    rfl
open Classical in
theorem put_zip {κ : Type} [DecidableEq κ] {f : κ → D} (hf : ∀ a b, f a = f b → a = b) (k : κ) {w : D} {v : V} (hw : Rp Z H w v) : ∀ {kvs : List (κ × V)} {vs : List D}, RpL Z H vs (kvs.map (fun p => p.2)) →
    RpL Z H (List.zipWith (fun k' v' => if k' = f k then w else v') (kvs.map fun p => f p.1) vs) ((kvs.map fun kv => if kv.1 = k then (kv.1, v) else kv).map (fun p => p.2))
  | [], vs, r => by
    cases vs with
    | nil => exact RpL.nil
    | cons d ds => obtain ⟨_, _, e, _, _⟩ := rpL_cons.mp r; cases e
  | p :: t, vs, r => by
    cases vs with
    | nil => have z := rpL_nil.mp r; cases z
    | cons d ds =>
      obtain ⟨x, y, e, h1, h2⟩ := rpL_cons.mp r
      cases e
      rw [List.map_cons, List.zipWith_cons_cons, List.map_cons, List.map_cons]
      refine RpL.cons ?_ (put_zip hf k hw h2)
      by_cases e : p.1 = k
      · rw [if_pos (congrArg f e), if_pos e]; exact hw
      · rw [if_neg (fun z => e (hf _ _ z)), if_neg e]; exact h1
theorem put_vs {κ : Type} [DecidableEq κ] {f : κ → D} (hf : ∀ a b, f a = f b → a = b) (k : κ) {w : D} {v : V} {kvs : List (κ × V)} {vs : List D} (hw : Rp Z H w v) (r : RpL Z H vs (kvs.map (fun p => p.2))) :
    RpL Z H (putVs (kvs.map fun p => f p.1) vs (f k) w) ((putK kvs k v).map (fun p => p.2)) := by
  unfold putK putVs
  by_cases h : (kvs.any fun kv => decide (kv.1 = k)) = true
  · rw [if_pos h, if_pos ((any_mem hf k kvs).mp h)]
    exact put_zip hf k hw r
  · rw [if_neg h, if_neg (fun z => h ((any_mem hf k kvs).mpr z)), List.map_append]
    exact r.append (RpL.cons hw RpL.nil)
theorem kT_inj : ∀ a b : List Key, D.tup (a.map kD) = D.tup (b.map kD) → a = b := fun a b e => kDs_inj (D.tup.inj e)
end
/-- a slot's own dict at a, and what d[k] = v makes of it -/
theorem own_put {Z : Wz} {Hf H : Hp} {a : Addr} {t : Bool} {ks vs : List D} {k v : D} {x y : V} (o : OwnRp Z Hf H a (.dic t ks vs)) (sub : Same Hf H) (hk : keyFits t k) (rk : Rp Z Hf k x) (rv : Rp Z Hf v y) (hl : ks.length < sizeLine) :
    ∃ o', DPut H a x y (upd H a o') ∧ OwnRp Z Hf (upd H a o') a (.dic t (putKs ks k) (putVs ks vs k v)) ∧ ((∃ kvs, H a = some (.dK kvs)) ∨ ∃ kvs, H a = some (.dT kvs)) := by
  cases t with
  | false =>
    obtain ⟨kvs, h1, rfl, h3⟩ := o
    obtain ⟨q, hq⟩ := hk
    obtain rfl := kD_of hq
    obtain rfl := rp_kD rk
    rw [List.length_map] at hl
    refine ⟨.dK (putK kvs q y), .inl ⟨kvs, q, h1, rfl, hl, rfl⟩, ⟨putK kvs q y, upd_same, (put_ks (fun a b => kD_inj) q y kvs).symm, put_vs (fun a b => kD_inj) q rv h3⟩, .inl ⟨_, h1⟩⟩
  | true =>
    obtain ⟨kvs, h1, rfl, h3⟩ := o
    cases k with
    | tup es =>
      obtain ⟨q, hq⟩ := hk
      obtain rfl := kDs_of hq
      obtain ⟨b, ws, rfl, e1, e2⟩ := rp_tup.mp rk
      obtain rfl := rpL_kD e2
      rw [List.length_map] at hl
      refine ⟨.dT (putK kvs q y), .inr ⟨kvs, q, b, h1, rfl, sub _ _ e1, hl, rfl⟩, ⟨putK kvs q y, upd_same, (put_ks (f := fun k => D.tup (k.map kD)) kT_inj q y kvs).symm, put_vs (f := fun k => D.tup (k.map kD)) kT_inj q rv h3⟩, .inr ⟨_, h1⟩⟩
    | _ => exact hk.elim
section
variable {X : Cx} {F : Fd} {tk tv te tx : TED}
/-- d[k] = v, d in a slot of its own -/
@[simp] def tPutD (i : Nat) (tk tv : TED) : TSD := fun D env c => tv env c (fun d c1 => D.ex d env c1) fun v c1 => match env[i]? with
  | some (.own (.dic t ks vs)) => tk env c1 (fun d c2 => D.ex d env c2) fun k c2 => keyFits t k ∧ ks.length < sizeLine ∧ D.nx (env.set i (.own (.dic t (putKs ks k) (putVs ks vs k v)))) c2
  | _ => False
theorem ds_put (i : Nat) {x : Str} {p pos pos' : Pos} {e value : Expr} (hu : X.A.units + 1 < cLine) (hk : DE X F e tk) (hv : DE X F value tv) (hx : PE X (.Name x p) (tVar i) := by exact pv _)
    (hs : swapsWith value (some (.Subscript (.Name x p) e pos')) pos.line X.env = pure false := by rfl) : DS X F (.Assign [.Subscript (.Name x p) e pos'] value pos) (tPutD i tk tv) :=
  PS.imp (ps_dput hu hx hk hv hs) fun D σ H ⟨Hf, env, c, Dd, S, L, h⟩ => by
    refine ⟨Hf, env, c, _, _, S, L.xl σ env, h, fun y H1 Hf1 c1 v S1 s1 k1 rv q => ?_⟩
    split at q
    · rename_i t ks vs e0
      obtain ⟨a, e1, h2, h3, h4, o⟩ := S1.own i _ e0
      refine ⟨.ref a, e1, Hf1, env, c1, _, _, S1, L.xl σ env, q, fun x H2 Hf2 c2 k S2 s2 k2 rk ⟨hf, hl, q2⟩ => ?_⟩
      obtain ⟨a', g1, g2, g3, g4, o2⟩ := S2.own i _ e0
      rw [e1] at g1
      cases g1
      obtain ⟨o', dp, on, _⟩ := own_put o2 S2.sub hf rk (Rp.mono s2 _ _ rv) hl
      exact ⟨a, _, rfl, dp, L.nx σ _ Hf2 _ c2 (S2.change e0 e1 on) (s1.trans s2) q2⟩
    · exact q.elim
/-- d.get(k, x) -/
@[simp] def tGet2 (te tk tx : TED) : TED := fun env c W Q => te env c W fun d c1 => match d with
  | .dic t ks vs => tk env c1 W fun k c2 => tx env c2 W fun x c3 => keyFits t k ∧ Q ((lookD ks vs k).getD x) c3
  | _ => False
theorem de_get2 {o e f : Expr} {apos cpos : Pos} (hu : X.A.units + 1 < cLine) (ho : DB X F o te) (he : DE X F e tk) (hf : DE X F f tx) (m : M2 X o "get" apos e f cpos) : DE X F (.Call (.Attribute o "get" apos) [e, f] [] cpos) (tGet2 te tk tx) :=
  PE.imp (pe_dget2 hu ho he hf m) fun σ H Q ⟨Hf, env, c, Wd, Qd, S, x, ht, k⟩ => by
    refine ⟨Hf, env, c, Wd, _, S, x, ht, fun v H1 Hf1 c1 d S1 s1 k1 r1 q1 => ?_⟩
    split at q1
    · rename_i t ks vs
      obtain ⟨a, rfl, isd⟩ := isD_of S1.sub (r1.at S1)
      refine ⟨a, rfl, isd, Hf1, env, c1, Wd, _, S1, x, q1, fun y H2 Hf2 c2 kd S2 s2 k2 rk q2 => ?_⟩
      refine ⟨Hf2, env, c2, Wd, _, S2, x, q2, fun z H3 Hf3 c3 xd S3 s3 k3 rx ⟨hf, q3⟩ => ?_⟩
      obtain ⟨a', ea, g⟩ := look_get S3.sub ((BRp.mono (s2.trans s3) r1).at S3) hf (.inl (Rp.mono s3 _ _ rk))
      cases ea
      cases hl : lookD ks vs kd with
      | none =>
        rw [hl] at g q3
        exact ⟨none, g, k z H3 Hf3 c3 xd S3 ((s1.trans s2).trans s3) ((k1.trans k2).trans k3) rx q3⟩
      | some e =>
        rw [hl] at g q3
        obtain ⟨w, g1, g2⟩ := g
        exact ⟨some w, g1, k w H3 Hf3 c3 e S3 ((s1.trans s2).trans s3) ((k1.trans k2).trans k3) g2 q3⟩
    · exact q1.elim
end
end DL
set_option Elab.async false
set_option linter.all false
set_option maxRecDepth 100000
set_option maxHeartbeats 2000000
/-! DL33: dict comprehensions, keys ints and texts, or tuples of these (after the rule for lists and for plain keys). -/
namespace DL
open PySem PySem.Spec PyProof.Rows L2
/-- an empty dict, its keys plain or tuples -/
def emp (tb : Bool) : HO := if tb = true then .dT [] else .dK []
theorem emp_ok {P : Program} {w : World} {H : Hp} (tb : Bool) (h : Heap) (hb : sysModules < h.objs.size) : ObjOk P w H (h.push { cls := .type "dict", data := .dict #[] }) h.objs.size (emp tb) := by
  cases tb with
  | false => exact dk_empty h hb
  | true => exact dt_empty h hb
theorem d_put2 {X : Cx} {pns : List (Addr × Obj)} {σ : L2.St} {H H' : Hp} {s : Shared} {E : Value → Shared → Prop} {a : Addr} {y v : V} {u r : Value} {Q : Unit → Shared → Prop} (hu : X.A.units + 1 < cLine) (I : Inv X pns σ H s) (g : DPut H a y v H') (ry : RelV y u) (rv : RelV v r)
    (h : ∀ s', Inv X pns σ H' s' → Q () s') : wpAny (model X.prog X.w) X.A (dictSet a u r) Q E s := by
  rcases g with ⟨kvs, k, e, ey, l, eH⟩ | ⟨kvs, k, b, e, ey, eb, l, eH⟩
  · subst ey eH
    exact d_dictSet I e l ry rv h
  · subst ey eH
    cases (show u = Value.ref b from ry)
    obtain ⟨z0, hd, xs, rel, dd⟩ := dt_of I.hok e
    have zl : xs.length ≤ sizeLine := by rw [← Paired.length rel]; exact z0
    have pl : (putK kvs k v).length ≤ sizeLine := by have := length_putK kvs k v; omega
    refine PySem.wpAny_dictSet_heap (hsz := zl) (knd := tupleKind (mixKind X.prog X.w)) (show X.A.units < cLine by omega) (key_of I.hok eb) dd fun h' dd' hs => h _ ?_
    obtain ⟨q, es, ep, hq, z2, z3, z4, _, z5⟩ := dd'
    refine d_write I (by rw [e]; exact True.intro) hs ⟨q, hq⟩ ⟨pl, hd, _, (rel.put k eb rv).keeps fun c ys ec => ?_, q, es, ep, hq, z2, z3, z4, z5⟩
    rw [upd_ne (ne_of ec e (fun z => nomatch z))]; exact ec
section
variable {X : Cx}
/-- {k: v for target in iter if ..}: D the new dict -/
def tDc2 (tb : Bool) (wi : TI) (g : TG) (tt : TT) (tk tv : TE) (vs : List Nat) : TE := fun σ H Q => wi σ H fun J H1 => ∀ D, H1 D = none → ∃ Wm : Nat → Nat → Hp → Prop, (∃ m, Wm 0 m (upd H1 D (emp tb))) ∧ ∀ i m H, Wm i m H →
  (J.stop i H ∧ Q (.ref D) H) ∨ (J.go i H ∧ ∃ Nx : Hp → Prop, (∀ H', Nx H' → ∃ m', m' < m ∧ Wm (i + 1) m' H') ∧ ∀ x H', J.yld i H x H' → g x (wipe σ vs) H' fun σ2 H2 => wipe σ2 vs = wipe σ vs ∧ tt σ2 H2 fun b H3 =>
    if b = true then tk σ2 H3 fun y H4 => tv σ2 H4 fun z H5 => ∃ H6, DPut H5 D y z H6 ∧ Nx H6 else Nx H3)
theorem dc_core2 {pns : List (Addr × Obj)} {s : Shared} {σ : L2.St} {H : Hp} {Q : VK} {kx vx tg iter : Expr} {ifs : List Expr} {scope : Scope} {own : List (Str × Nat)} {pos pos' : Pos} {wi : TI} {g : TG} {tt : TT} {tk tv : TE} {use : Option (Value → Sem Unit)} {Qf : Value → Shared → Prop}
    {tb : Bool} (hu : X.A.units + 1 < cLine) (hc : X.calm = true) (hN : X.N.Nodup) (I : Inv X pns σ H s) (hi : PI X tg iter wi) (ok : BlkOk X.N X.env.scope scope own)
    (hg : ∀ (s : Shared) (H : Hp) (C : Addr) (cl : List (Str × Addr)) (fps : List Addr), PG (X.blk s H scope (compEnvC scope cl C X.env) fps) tg g) (ht : ∀ (s : Shared) (H : Hp) (C : Addr) (cl : List (Str × Addr)) (fps : List Addr), PTs (X.blk s H scope (compEnvC scope cl C X.env) fps) ifs tt)
    (hk : ∀ (s : Shared) (H : Hp) (C : Addr) (cl : List (Str × Addr)) (fps : List Addr), PE (X.blk s H scope (compEnvC scope cl C X.env) fps) kx tk)
    (he : ∀ (s : Shared) (H : Hp) (C : Addr) (cl : List (Str × Addr)) (fps : List Addr), PE (X.blk s H scope (compEnvC scope cl C X.env) fps) vx tv) (hs : ∀ x, foldedSetIterable iter X.env x = pure x)
    (h : tDc2 tb wi g tt tk tv (own.map (·.2)) σ H Q)
    (hRR : ∀ D C s' m H', Inv X pns σ H' s' → Q (.ref D) H' → s'.heap.Ns C m → FpOk X pns H' C → compPost (model X.prog X.w) X.A X.xe use Qf (.ref D) C (.ok .next) s') :
    wpAny (model X.prog X.w) X.A (comprehension (.DictComp kx vx [⟨tg, iter, ifs, 0⟩] scope pos) scope X.env pos' newDict false (eval iter X.env) use) Qf X.xe s := by
  have hfree : ∀ y ∈ scope.names, y.2 = .free → ∃ c, X.env.cells.lookup y.1 = some c := fun y hy e => by
    rcases ok.free y hy e with k | k
    · exact I.ok.has _ (.inl k)
    · exact I.ok.has _ (.inr k)
  refine wpAny_comprehension_free (use := use) rfl hs (closure_ok hfree) ok.kind (fun y hy e => by rw [ok.uniq y hy, e])
    (thn (hi.run pns s σ H _ I h) fun xv sh1 hx => thn hx fun itv sh2 hh2 => ?_)
  obtain ⟨it, fps, tn, J, H2, e, Iv2, T, st2, f2, q⟩ := hh2
  subst e
  refine wpAny_newObj_type (newEnv_comp ?_)
  generalize hD : sh2.heap.objs.size = D
  have hDn : H2 D = none := Iv2.hok.fresh (Nat.le_of_eq hD)
  obtain ⟨Wm, ⟨m0, w0⟩, turn⟩ := q D hDn
  -- the new list
  generalize hs3 : ({ sh2 with heap := sh2.heap.push { cls := .type "dict", data := .dict #[] } } : Shared) = sh3
  have Iv3 : Inv X pns σ (upd H2 D (emp tb)) sh3 := by
    rw [← hs3]
    refine Iv2.laid (t' := sh2.toks) (fun b o e => Heap.get?_push_of_some _ e) (Nat.le_of_eq hD) ?_
    rw [← hD]
    exact emp_ok tb sh2.heap Iv2.big
  have hh3 : sh3.heap = sh2.heap.push { cls := .type "dict", data := .dict #[] } := by rw [← hs3]
  have sz : ∀ b ∈ fps, b < sh2.heap.objs.size := fun b hb => by
    obtain ⟨o, e, _⟩ := T.obj _ _ st2 b hb
    exact Heap.lt_size e
  have f3 : ∀ b ∈ fps, FpOk X pns (upd H2 D (emp tb)) b ∧ b < sh3.heap.objs.size := fun b hb => by
    have hlt := sz b hb
    refine ⟨⟨?_, (f2 b hb).2⟩, by rw [hh3, Heap.size_push]; exact Nat.lt_succ_of_lt hlt⟩
    rw [upd_ne (by rw [← hD]; exact Nat.ne_of_lt hlt)]
    exact (f2 b hb).1
  have st3 : tn 0 sh3.heap := T.keep _ _ _ st2 fun b _ o e => by rw [hh3]; exact Heap.get?_push_of_some _ e
  have Iv4 := block_start Iv3 ok hN f3
  have pg := hg sh3 (upd H2 D (emp tb)) sh3.heap.objs.size (cellsFrom (sh3.heap.objs.size + 1) scope.names (cloFrom X.env.cells scope.names [])) fps
  have pt := ht sh3 (upd H2 D (emp tb)) sh3.heap.objs.size (cellsFrom (sh3.heap.objs.size + 1) scope.names (cloFrom X.env.cells scope.names [])) fps
  have pk := hk sh3 (upd H2 D (emp tb)) sh3.heap.objs.size (cellsFrom (sh3.heap.objs.size + 1) scope.names (cloFrom X.env.cells scope.names [])) fps
  have pe := he sh3 (upd H2 D (emp tb)) sh3.heap.objs.size (cellsFrom (sh3.heap.objs.size + 1) scope.names (cloFrom X.env.cells scope.names [])) fps
  show codeAny _ _ (.compStart (.DictComp kx vx [⟨tg, iter, ifs, 0⟩] scope pos) 0 (.ref it) (.ref D) (compEnvC scope (cellsFrom (sh3.heap.objs.size + 1) scope.names (cloFrom X.env.cells scope.names [])) sh3.heap.objs.size X.env)) (compPost (model X.prog X.w) X.A X.xe use Qf (.ref D) sh3.heap.objs.size) { sh3 with heap := pushCells (sh3.heap.push { cls := .type "dict", data := .dict #[] }) scope.names }
  have nfp : ∀ b ∈ fps, (upd H2 D (emp tb)) b = none := fun b hb => (f3 b hb).1.1
  generalize hce : compEnvC scope (cellsFrom (sh3.heap.objs.size + 1) scope.names (cloFrom X.env.cells scope.names [])) sh3.heap.objs.size X.env = ce at Iv4 pg pt pk pe ⊢
  have cL : ce.locals = sh3.heap.objs.size := by subst hce; rfl
  generalize hH3 : upd H2 D (emp tb) = H3 at Iv3 Iv4 pg pt pk pe w0 nfp f3
  generalize hs4 : ({ sh3 with heap := pushCells (sh3.heap.push { cls := .type "dict", data := .dict #[] }) scope.names } : Shared) = sh4 at Iv4 ⊢
  have st4 : tn 0 sh4.heap := T.keep _ _ _ st3 fun b _ o e => by rw [← hs4]; exact pushCells_keeps _ _ _ _ (Heap.get?_push_of_some _ e)
  have stat : ∀ {σ' : L2.St} {H' : Hp} {s' : Shared}, Inv (X.blk sh3 H3 scope ce fps) [] σ' H' s' → (∀ b ∈ fps, H' b = none) → ∀ b ∈ fps, FpOk (X.blk sh3 H3 scope ce fps) [] H' b := fun {σ' H' s'} I' hn b hb =>
    ⟨hn b hb, (I'.ok.exf b hb).1, I'.ok.exfs b hb, .inl hb, fun x c e => (I'.ok.exf b hb).2 x c e, fun p hp => absurd (show p ∈ ([] : List (Addr × Obj)) ++ [] from hp) (by simp)⟩
  have loop : codeAny (model X.prog X.w) X.A (.compLoop (.DictComp kx vx [⟨tg, iter, ifs, 0⟩] scope pos) 0 (.ref it) (.ref D) ce) (compPost (model X.prog X.w) X.A X.xe use Qf (.ref D) sh3.heap.objs.size) sh4 := by
    refine compLoop_anyD (fun n s' => ∃ i H', Inv (X.blk sh3 H3 scope ce fps) [] (wipe σ (own.map (·.2))) H' s' ∧ tn i s'.heap ∧ (∀ b ∈ fps, H' b = none) ∧ Wm i n H') ?_ m0 ⟨0, H3, Iv4, st4, nfp, w0⟩
    rintro n sh5 ⟨i, H5, Iv5, st5, n5, w5⟩
    rcases turn i n H5 w5 with ⟨stop, qq⟩ | ⟨go, Nx, hNx, step⟩
    · have td := T.done (X.blk sh3 H3 scope ce fps) rfl rfl rfl hc i [] sh5 _ H5 (fun _ _ => False) Iv5 (stat Iv5 n5) st5 stop
      refine thnF td fun r sh6 ⟨hr, Iv6⟩ => ?_
      subst hr
      -- back in the def's context
      have Iv7 : Inv X pns σ H5 sh6 := Iv3.call' (ch := fps) Iv6.os Iv6.base Iv6.hok Iv6.bare fun b hb => ⟨(f3 b hb).1.2.2.2.1, (f3 b hb).1.2.1, (f3 b hb).1.2.2.2.2.1, (f3 b hb).1.2.2.2.2.2⟩
      have nC : H5 sh3.heap.objs.size = none := by
        have z : H5 ce.locals = none := Iv6.free
        rw [cL] at z
        exact z
      obtain ⟨m, hn, _⟩ := Iv6.loc
      have hn : sh6.heap.Ns ce.locals m := hn
      rw [cL] at hn
      exact hRR D sh3.heap.objs.size sh6 m H5 Iv7 qq hn (Iv3.fpOk (Nat.le_refl _) nC)
    · have ti := T.item (X.blk sh3 H3 scope ce fps) rfl rfl rfl hc i [] sh5 _ H5 (fun _ _ => False) Iv5 (stat Iv5 n5) st5 go
      refine thnF ti fun r sh6 ⟨u, hr, hh6⟩ => ?_
      subst hr
      refine thnF hh6 fun _ sh7 ⟨x, H7, Iv7, rr7, y7, st7, n7⟩ => ?_
      have Iv7' := Iv7.pinned (stat Iv7 n7) (T.obj _ _ st7)
      refine thnF (pg.run _ sh7 _ H7 x u _ Iv7' rr7 (step x H7 y7)) fun _ sh8 ⟨σ8, H8, Iv8, hw8, qr8⟩ => ?_
      refine thnF (pt.run _ sh8 σ8 H8 _ Iv8 qr8) fun b sh9 ⟨H9, Iv9, qr9⟩ => ?_
      -- the turn's end
      have fin : ∀ {s' : Shared} {H' : Hp}, Inv (X.blk sh3 H3 scope ce fps) ([] ++ pinsAt fps sh7.heap) σ8 H' s' → Nx H' → ∃ m, m < n ∧ ∃ i H', Inv (X.blk sh3 H3 scope ce fps) [] (wipe σ (own.map (·.2))) H' s' ∧ tn i s'.heap ∧ (∀ b ∈ fps, H' b = none) ∧ Wm i m H' := fun {s' H'} I' nx => by
        obtain ⟨m', hm, w'⟩ := hNx H' nx
        have pin' : ∀ b ∈ fps, ∀ o, sh7.heap.get? b = some o → s'.heap.get? b = some o ∧ H' b = none := fun b hb o e =>
          let z := I'.pin (b, o) (List.mem_append_right _ (List.mem_append_right _ (mem_pinsAt hb e)))
          ⟨z.1, z.2.1⟩
        have hl : (wipe σ (own.map (·.2))).length = σ8.length := by rw [← hw8, wipe_length]
        refine ⟨m', hm, i + 1, H', (I'.unpinned (pins := [])).weak hl (fun j v e => ?_), T.keep _ _ _ st7 fun b hb o e => (pin' b hb o e).1, fun b hb => ?_, w'⟩
        · rw [← hw8] at e
          exact (wipe_some e).1
        · obtain ⟨o, e, _⟩ := T.obj _ _ st7 b hb
          exact (pin' b hb o e).2
      cases b with
      | false =>
        simp only [Bool.false_eq_true, if_false] at qr9 ⊢
        exact fin Iv9 qr9
      | true =>
        simp only [if_true] at qr9 ⊢
        refine thnF (pk.run _ sh9 σ8 H9 _ Iv9 qr9) fun z sh10 ⟨yk, H10, Iv10, rr10, qr10⟩ => ?_
        refine thnF (pe.run _ sh10 σ8 H10 _ Iv10 qr10) fun z2 sh11 ⟨yv, H11, Iv11, rr11, H12, dp, nx⟩ => ?_
        exact d_put2 (X := X.blk sh3 H3 scope ce fps) hu Iv11 dp rr10 rr11 fun sh12 Iv12 => fin Iv12 nx
  exact codeAny_compStart_dict loop (T.self X.A 0 _ _ _ st4 loop)
/-- as a value -/
theorem pe_dc2 {kx vx tg iter : Expr} {ifs : List Expr} {scope : Scope} {own : List (Str × Nat)} {pos : Pos} {wi : TI} {g : TG} {tt : TT} {tk tv : TE} {tb : Bool} (hu : X.A.units + 1 < cLine) (hc : X.calm = true) (hN : X.N.Nodup) (hi : PI X tg iter wi) (ok : BlkOk X.N X.env.scope scope own)
    (hg : ∀ (s : Shared) (H : Hp) (C : Addr) (cl : List (Str × Addr)) (fps : List Addr), PG (X.blk s H scope (compEnvC scope cl C X.env) fps) tg g) (ht : ∀ (s : Shared) (H : Hp) (C : Addr) (cl : List (Str × Addr)) (fps : List Addr), PTs (X.blk s H scope (compEnvC scope cl C X.env) fps) ifs tt)
    (hk : ∀ (s : Shared) (H : Hp) (C : Addr) (cl : List (Str × Addr)) (fps : List Addr), PE (X.blk s H scope (compEnvC scope cl C X.env) fps) kx tk)
    (he : ∀ (s : Shared) (H : Hp) (C : Addr) (cl : List (Str × Addr)) (fps : List Addr), PE (X.blk s H scope (compEnvC scope cl C X.env) fps) vx tv) (hs : ∀ x, foldedSetIterable iter X.env x = pure x := by intro _; rfl) :
    PE X (.DictComp kx vx [⟨tg, iter, ifs, 0⟩] scope pos) (tDc2 tb wi g tt tk tv (own.map (·.2))) := by
  refine ⟨fun pns s σ H Q I h => ?_⟩
  rw [arm_eval_DictComp]
  refine dc_core2 hu hc hN I hi ok hg ht hk he hs h fun D C s' m H' I' q hn f => ⟨m, hn, fun h'' sb => ?_⟩
  obtain ⟨f0, f1, f2, f3, f4, f5⟩ := f
  exact ⟨.ref D, H', I'.turned (t' := s'.toks) (fun b o hb e => (sb.2 b hb).trans e) f0 f1 f3 f4 f5, rfl, q⟩
end
/-- the turns that are left, the keys and values found so far -/
noncomputable def dcR (t : Bool) (tg : Tg) (own : List Nat) (tt : TTD) (tk tv : TED) (env : EnvD) (Q : D → Nat → Prop) : List D → List D → List D → Nat → Prop
  | [] => fun ks vs c => Q (.dic t ks vs) c
  | d :: ds => fun ks vs c => tg.set d (wipeD env own) fun env1 => tt env1 c noWD fun b c1 => if b = true then tk env1 c1 noWD fun k c2 => tv env1 c2 noWD fun v c3 => keyFits t k ∧ ks.length < sizeLine ∧ dcR t tg own tt tk tv env Q ds (putKs ks k) (putVs ks vs k v) c3 else dcR t tg own tt tk tv env Q ds ks vs c1
/-- .. out of sight -/
structure dcD (t : Bool) (tg : Tg) (own : List Nat) (tt : TTD) (tk tv : TED) (env : EnvD) (Q : D → Nat → Prop) (ds ks vs : List D) (c : Nat) : Prop where
  run : dcR t tg own tt tk tv env Q ds ks vs c
@[simp] def tDcD (t : Bool) (tg : Tg) (own : List Nat) (ti : TLD) (tt : TTD) (tk tv : TED) : TED := fun env c W Q => ti env c W fun ds c1 => dcD t tg own tt tk tv env Q ds [] [] c1
theorem own_dic {Z : Wz} {Hf H : Hp} {a : Addr} {t : Bool} {ks vs : List D} (o : OwnRp Z Hf H a (.dic t ks vs)) : (∃ kvs, H a = some (.dK kvs)) ∨ ∃ kvs, H a = some (.dT kvs) := by
  cases t with
  | false => obtain ⟨kvs, h, _⟩ := o; exact .inl ⟨kvs, h⟩
  | true => obtain ⟨kvs, h, _⟩ := o; exact .inr ⟨kvs, h⟩
theorem NewB.not_dic {o : Option HO} (h : NewB o) (e : (∃ kvs, o = some (.dK kvs)) ∨ ∃ kvs, o = some (.dT kvs)) : False := by
  rcases e with ⟨_, rfl⟩ | ⟨_, rfl⟩ <;> rcases h with h | ⟨xs, h⟩ <;> cases h
theorem own_emp {Z : Wz} {Hf H : Hp} {a : Addr} (t : Bool) : OwnRp Z Hf (upd H a (emp t)) a (.dic t [] []) := by
  cases t with
  | false => exact ⟨[], upd_same, rfl, RpL.nil⟩
  | true => exact ⟨[], upd_same, rfl, RpL.nil⟩
theorem own_keeps {Z : Wz} {Hf Hf' H H' : Hp} {a : Addr} {t : Bool} {ks vs : List D} (o : OwnRp Z Hf H a (.dic t ks vs)) (s : Same Hf Hf') (e : ∀ u, H a = some u → H' a = some u) : OwnRp Z Hf' H' a (.dic t ks vs) := by
  cases t with
  | false => obtain ⟨kvs, h1, h2, h3⟩ := o; exact ⟨kvs, e _ h1, h2, RpL.mono s _ _ h3⟩
  | true => obtain ⟨kvs, h1, h2, h3⟩ := o; exact ⟨kvs, e _ h1, h2, RpL.mono s _ _ h3⟩
theorem dc_use {F : Fd} {K : PySem.W.Frag} {t : Bool} {tg : Tg} {vs : List Nat} {ti : TLD} {tt : TTD} {tk tv : TED} {σ : L2.St} {H : Hp} {Q : VK} (hv : ∀ i ∈ tg.slots, i ∈ vs) (h : liftO F (tDcD t tg vs ti tt tk tv) σ H Q) :
    tDc2 t (liftI F ti) (tg.g K) (liftTB F.Z tt) (liftEB F.Z tk) (liftEB F.Z tv) vs σ H Q := by
  obtain ⟨Hf, env, c, Wd, Qd, S, x, ht, k⟩ := h
  refine ⟨Hf, env, c, Wd, _, S, x, ht, fun J H1 Hf1 c1 ds S1 s1 k1 w q => fun p0 hD => ?_⟩
  have fD := S1.fresh hD
  have nm : ∀ (Hx : Hp), mask Hx (wipe σ vs) (wipeD env vs) p0 = Hx p0 := fun Hx => mask_out fun j d g1 g2 => by
    have hj : j ∉ vs := fun m => wipeD_in m g1
    rw [wipeD_out hj] at g1
    rw [DL.wipe_out hj] at g2
    exact fD.ns j d g1 g2
  have noTab : ∀ {Hx : Hp} {ks vs : List D} {Hy : Hp}, OwnRp F.Z.toWz Hx Hy p0 (.dic t ks vs) → ∀ u, Hy p0 = some u → ¬ IsTab u := fun o u hu => OwnRp.ntab hu o
  refine ⟨fun i m H => m = ds.length - i ∧ i ≤ ds.length ∧ ∃ (Hf2 : Hp) (c : Nat) (ks ws : List D), Sim F.Z F.H0 F.G0 σ H Hf2 env c ∧ Same Hf1 Hf2 ∧ Keep F.Z H1 H ∧ OwnRp F.Z.toWz Hf2 H p0 (.dic t ks ws) ∧ Hf2 p0 = none ∧ dcR t tg vs tt tk tv env Qd (ds.drop i) ks ws c,
    ⟨_, rfl, Nat.zero_le _, Hf1, c1, [], [], S1.laid hD _, Same.refl _, Keep.of (same_upd hD), own_emp t, fD.hf, q.run⟩, ?_⟩
  rintro i m H2 ⟨rfl, hi2, Hf2, c2, ks, ws, S2, s2, k2, oD2, f2, q2⟩
  by_cases hlt : i < ds.length
  · refine .inr ⟨w.goes i H2 Hf2 hlt s2 S2.sub, fun H => ∃ (Hf3 : Hp) (c : Nat) (ks ws : List D), Sim F.Z F.H0 F.G0 σ H Hf3 env c ∧ Same Hf1 Hf3 ∧ Keep F.Z H1 H ∧ OwnRp F.Z.toWz Hf3 H p0 (.dic t ks ws) ∧ Hf3 p0 = none ∧ dcR t tg vs tt tk tv env Qd (ds.drop (i + 1)) ks ws c,
      fun H' z => ⟨_, ?_, rfl, hlt, z⟩, fun x H' y => ?_⟩
    · omega
    · obtain ⟨Hf3, d, g, e, r⟩ := w.yields i H2 x H' Hf2 hlt s2 S2.sub y
      rw [drop_cons e] at q2
      have S3 := S2.grow g
      have oD3 := own_keeps oD2 g.hf (fun u hu => g.h _ _ hu)
      have f3 : Hf3 p0 = none := by
        cases z : Hf3 p0 with
        | none => rfl
        | some o =>
          exact (NewB.not_dic (g.new p0 (by rw [z]; exact fun z => by cases z) f2) (by
            rcases own_dic oD2 with ⟨kvs, e⟩ | ⟨kvs, e⟩
            · exact .inl ⟨kvs, e⟩
            · exact .inr ⟨kvs, e⟩)).elim
      refine Tg.use (S3.wiped vs).enter r q2 fun σ' env' B ⟨us, hσ⟩ hne q3 => ?_
      have hw : wipe σ' vs = wipe σ vs := by rw [hσ, setAll_wipe hv, wipe_wipe]
      have he : ∀ j, j ∉ vs → env'[j]? = env[j]? := fun j hj => (hne j fun z => hj (hv j z)).trans (wipeD_out hj)
      have hs : ∀ j, j ∉ vs → σ'[j]? = σ[j]? := fun j hj => by rw [← DL.wipe_out hj, hw, DL.wipe_out hj]
      have stay : ∀ {Hx Hfx : Hp} {cx : Nat}, Sim F.Z (mask H' (wipe σ vs) (wipeD env vs)) Hf3 σ' Hx Hfx env' cx → (∀ u, H' p0 = some u → Hx p0 = some u) ∧ Hfx p0 = none := fun {Hx Hfx cx} Bx => by
        refine ⟨fun u hu => Bx.keep p0 _ (by rw [nm H']; exact hu) fun z => fD.nt z.t, ?_⟩
        cases z : Hfx p0 with
        | none => rfl
        | some o =>
          exact (NewB.not_dic (Bx.new p0 (by rw [z]; exact fun z => by cases z) f3) (by
            rw [nm H']
            rcases own_dic oD3 with ⟨kvs, e⟩ | ⟨kvs, e⟩
            · exact .inl ⟨kvs, e⟩
            · exact .inr ⟨kvs, e⟩)).elim
      refine ⟨hw, mask H' (wipe σ vs) (wipeD env vs), Hf3, Hf3, env', c2, noWD, _, B, xl_no, q3, fun b H4 Hf4 c4 B4 s4 k4 q4 => ?_⟩
      cases b with
      | true =>
        refine iteT ⟨mask H' (wipe σ vs) (wipeD env vs), Hf3, Hf4, env', c4, noWD, _, B4, xl_no, q4, fun kx H5 Hf5 c5 kd B5 s5 k5 rk q5 => ?_⟩
        refine ⟨mask H' (wipe σ vs) (wipeD env vs), Hf3, Hf5, env', c5, noWD, _, B5, xl_no, q5, fun vx H6 Hf6 c6 vd B6 s6 k6 rv ⟨hf, hl, q6⟩ => ?_⟩
        obtain ⟨e6, f6⟩ := stay B6
        have S6 := S3.join B6 he hs
        have sx : Same Hf3 Hf6 := (s4.trans s5).trans s6
        have oD6 := own_keeps oD3 sx e6
        obtain ⟨o', dp, on, _⟩ := own_put oD6 S6.sub hf (Rp.mono s6 _ _ rk) rv hl
        refine ⟨_, dp, Hf6, c6, _, _, S6.touch ⟨fD.h0, f6, fD.nt, fD.ns⟩ _ (noTab oD6), s2.trans (g.hf.trans sx), ?_, on, f6, q6⟩
        have kk : Keep F.Z H1 H6 := (((k2.trans (Keep.of g.h)).trans k4).trans k5).trans k6
        exact Keep.refl.upd hD kk _
      | false =>
        obtain ⟨e4, f4⟩ := stay B4
        exact iteF ⟨Hf4, c4, ks, ws, S3.join B4 he hs, (s2.trans g.hf).trans s4, (k2.trans (Keep.of g.h)).trans k4, own_keeps oD3 s4 e4, f4, q4⟩
  · have e : i = ds.length := by omega
    subst e
    rw [List.drop_length] at q2
    exact .inl ⟨w.stops H2 Hf2 s2 S2.sub, k p0 H2 Hf2 c2 (.dic t ks ws) S2 (s1.trans s2) (k1.trans k2) ⟨fD.h0, f2, fD.nt, fD.ns⟩ (k1.upd hD k2) oD2 q2⟩
section
variable {X : Cx} {F : Fd} {kx vx target iter : Expr} {ifs : List Expr} {scope : Scope} {pos : Pos} {ti : TLD} {tt : TTD} {tk tv : TED}
theorem do_dc (t : Bool) (tg : Tg) {K : PySem.W.Frag} (own : List (Str × Nat)) (hu : X.A.units + 1 < cLine) (hc : X.calm = true) (hN : X.N.Nodup) (hi : DI X F target iter ti) (ok : BlkOk X.N X.env.scope scope own)
    (hg : InBlk X F scope fun X' _ => PG X' target (tg.g K)) (ht : InBlk X F scope fun X' F' => DTs X' F' ifs tt) (hk : InBlk X F scope fun X' F' => DE X' F' kx tk) (he : InBlk X F scope fun X' F' => DE X' F' vx tv)
    (hv : ∀ i ∈ tg.slots, i ∈ own.map (·.2) := by decide) (hs : ∀ x, foldedSetIterable iter X.env x = pure x := by intro _; rfl) : DO X F (.DictComp kx vx [⟨target, iter, ifs, 0⟩] scope pos) (tDcD t tg (own.map (·.2)) ti tt tk tv) :=
  PE.imp (pe_dc2 (tb := t) hu hc hN hi ok (fun s H C cl fp => hg s H C cl fp H H) (fun s H C cl fp => pts_TB (ht s H C cl fp)) (fun s H C cl fp => pe_EB (hk s H C cl fp)) (fun s H C cl fp => pe_EB (he s H C cl fp)) hs) fun σ H Q h => dc_use hv h
end
end DL
set_option Elab.async false
set_option linter.all false
set_option maxRecDepth 1000000
set_option maxHeartbeats 4000000
/-! DH: hashes of pairs of small numbers are unlike. The first item's part of the hash, times the inverse of the lane's factor, is told apart by more than 2 ^ 40 for all numbers below 8192: they are listed in its order, and the kernel looks. -/
namespace DL
open PySem PySem.Spec
def hM : Nat := 18446744073709551616
def hRot (a : Nat) : Nat := (a * 2147483648) % 18446744073709551616 + a / 8589934592
def hA (x : Nat) : Nat := (hRot ((2870177450012600261 + x * 14029467366897019727) % 18446744073709551616) * 11400714785074694791) % 18446744073709551616
def hC (x : Nat) : Nat := (hA x * 839798700976720815) % 18446744073709551616
def hG : Nat := 1099511627776
def hL0 : List Nat := [1042, 3235, 5428, 7621, 1545, 3738, 732, 2925, 5118, 7311, 1235, 3428, 5621, 7814, 2615, 4808, 7001, 925, 3118, 5311, 7504, 295, 798, 6691, 5001, 7194, 2178, 488, 2681, 4874, 6884, 1868, 4061, 178, 2371, 4564, 6757, 681, 3751, 5944, 2061, 4254, 6447, 2564, 4757, 7827, 1751, 3944, 6137, 4447, 6640, 1624, 3817, 3634, 5827, 8020, 1314, 3507, 5700, 1817, 7710, 1004, 3197, 5390, 7583, 1507, 3700, 5893, 694, 2887, 5080, 7273, 1197, 3390, 5583, 7776, 4770, 6963, 887, 3080, 5273, 7466, 760, 2953, 2770, 4963, 7156, 450, 2643, 4836, 4653, 6846, 1830, 140, 2333, 4526, 6719, 643, 2836, 2023, 4216, 6409, 2526, 4719, 6912, 7789, 1713, 3906, 6099, 4409, 6602, 1586, 5789, 7982, 6292, 1276, 3469, 1779, 3972, 8175, 966, 3159, 5352, 1469, 3662, 5855, 2849, 5042, 7235, 1159, 3352, 5545, 7738, 1032, 6925, 849, 3042, 5235, 7428, 722, 2915, 2732, 4925, 7118, 412, 2605, 4798, 6991, 915, 6808, 102, 2295, 4488, 6681, 605, 2798, 4991, 1985, 4178, 6371, 2488, 4681, 6874, 3868, 6061, 4371, 6564, 1548, 2051, 7944, 6254, 1238, 3431, 1741, 3934, 8137, 928, 3121, 5314, 1431, 3624, 5817, 8010, 1934, 5004, 7197, 1121, 3314, 5507, 7700, 994, 6887, 811, 3004, 5197, 7390, 7893, 684, 2877, 5070, 4887, 7080, 374, 2567, 4760, 6953, 877, 3070, 64, 2257, 4450, 6643, 567, 2760, 4953, 1947, 4140, 6333, 257, 2450, 4643, 6836, 130, 6023, 2140, 4333, 6526, 2013, 7906, 4023, 6216, 1200, 1703, 3896, 6089, 13, 5906, 8099, 3083, 5276, 1393, 3586, 5779, 7972, 1896, 4966, 7159, 1083, 3276, 5469, 7662, 3779, 5972, 956, 2966, 5159, 7352, 5662, 7855, 646, 2839, 1149, 7042, 7545, 336, 2529, 4722, 839, 3032, 26, 2219, 4412, 6605, 529, 2722, 4915, 7108, 4102, 6295, 219, 2412, 4605, 6798, 92, 5985, 8178, 2102, 4295, 6488, 1975, 4168, 3985, 6178, 1162, 1665, 3858, 6051, 5868, 2168, 8061, 3045, 1355, 3548, 5741, 7934, 1858, 4051, 1045, 3238, 5431, 7624, 3741, 5934, 8127, 918, 5121, 7314, 5624, 7817, 608, 2801, 1111, 7004, 7507, 298, 2491, 4684, 801, 2994, 5187, 2181, 4374, 6567, 491, 2684, 4877, 7070, 4064, 6257, 181, 2374, 4567, 6760, 54, 2247, 8140, 2064, 4257, 6450, 1937, 4130, 6323, 247, 6140, 1627, 3820, 6013, 2130, 8023, 1317, 3510, 5703, 7896, 1820, 4013, 6206, 3200, 5393, 7586, 1510, 3703, 5896, 8089, 5083, 7276, 3393, 5586, 7779, 570, 2763, 1073, 3266, 7469, 260, 2453, 4646, 763, 2956, 5149, 7342, 2143, 4336, 6529, 453, 2646, 4839, 7032, 3149, 326, 6219, 143, 2336, 4529, 6722, 5032, 7225, 16, 2209, 4219, 6412, 6915, 1899, 4092, 6285, 209, 6102, 1589, 3782, 5975, 8168, 2092, 4285, 1279, 3472, 5665, 7858, 1782, 3975, 6168, 3162, 5355, 7548, 1472, 3665, 5858, 8051, 1345, 7238, 3355, 5548, 7741, 532, 1035, 3228, 5421, 5238, 7431, 222, 2415, 725, 2918, 5111, 7304, 1228, 7121, 4298, 415, 2608, 4801, 6994, 3111, 5304, 288, 2298, 4491, 6684, 4994, 7187, 2171, 4181, 6374, 6877, 1861, 4054, 171, 2364, 1551, 3744, 5937, 2054, 4247, 6440, 1241, 3434, 5627, 7820, 1744, 3937, 6130, 5317, 7510, 1434, 3627, 5820, 8013, 1307, 3500, 3317, 5510, 7703, 494, 997, 3190, 5383, 5200, 7393, 2377, 687, 2880, 5073, 7266, 1190]
def hL1 : List Nat := [3383, 377, 2570, 4763, 6956, 880, 3073, 5266, 7459, 250, 2260, 4453, 6646, 4956, 7149, 2133, 443, 6336, 6839, 1823, 4016, 133, 2326, 4519, 1513, 3706, 5899, 2016, 4209, 6402, 3396, 5589, 7782, 1706, 3899, 6092, 4402, 1579, 7472, 1396, 3589, 5782, 7975, 1269, 3462, 5655, 3279, 5472, 7665, 959, 3152, 5345, 7538, 1462, 7355, 649, 2842, 5035, 7228, 1152, 3345, 5538, 339, 2532, 4725, 6918, 842, 3035, 5228, 7421, 4415, 6608, 2725, 4918, 7111, 405, 2598, 4608, 6801, 1785, 95, 2288, 4481, 6491, 1475, 3668, 1978, 4171, 6364, 2481, 5551, 7744, 1668, 3861, 6054, 4364, 6557, 1541, 1358, 3551, 5744, 7937, 6247, 1231, 3424, 5434, 7627, 8130, 921, 3114, 5307, 1424, 3617, 611, 2804, 4997, 7190, 1114, 3307, 5500, 2494, 4687, 6880, 804, 2997, 5190, 7383, 677, 6570, 2687, 4880, 7073, 367, 2560, 4570, 6763, 1747, 57, 2250, 4443, 6636, 560, 6453, 3630, 1940, 4133, 6326, 2443, 4636, 1630, 3823, 6016, 4326, 6519, 1503, 3513, 5706, 7899, 6209, 1193, 3386, 1696, 7589, 8092, 883, 3076, 5269, 1386, 3579, 573, 2766, 4959, 7152, 1076, 3269, 5462, 7655, 4649, 6842, 766, 2959, 5152, 7345, 639, 6532, 2832, 456, 2649, 4842, 7035, 329, 2522, 4715, 4532, 6725, 1709, 19, 2212, 4405, 6598, 522, 2715, 1902, 4095, 6288, 212, 2405, 4598, 1592, 3785, 5978, 8171, 2095, 4288, 6481, 5668, 7861, 3978, 6171, 1155, 1658, 7551, 5861, 8054, 845, 3038, 5231, 1348, 3541, 5734, 2728, 4921, 7114, 1038, 3231, 5424, 7617, 3734, 911, 6804, 728, 2921, 5114, 7307, 5617, 601, 2794, 2611, 4804, 6997, 7500, 291, 2484, 4677, 794, 6687, 2174, 4367, 6560, 484, 2677, 1864, 4057, 6250, 174, 2367, 4560, 6753, 3747, 5940, 8133, 2057, 4250, 6443, 5630, 7823, 3940, 6133, 1117, 1620, 3813, 5823, 8016, 807, 3000, 1310, 3503, 5696, 7889, 1813, 7706, 4883, 1000, 3193, 5386, 7579, 3696, 873, 6766, 690, 2883, 5076, 7269, 5579, 7772, 563, 2756, 4766, 6959, 7462, 253, 2446, 4639, 756, 6649, 2136, 4329, 6522, 446, 2639, 4832, 1826, 4019, 6212, 136, 2329, 4522, 6715, 3709, 9, 5902, 8095, 2019, 4212, 6405, 1892, 7785, 3902, 6095, 1079, 1582, 3775, 5968, 5785, 7978, 2962, 1272, 3465, 5658, 7851, 1775, 7668, 4845, 962, 3155, 5348, 7541, 1465, 3658, 5851, 2845, 5038, 7231, 3348, 5541, 7734, 525, 2718, 4728, 6921, 7424, 215, 2408, 4601, 718, 2911, 2098, 4291, 6484, 408, 2601, 4794, 6987, 1788, 3981, 6174, 98, 2291, 4484, 6677, 5864, 8057, 1981, 4174, 6367, 6870, 1854, 4047, 3864, 6057, 1544, 3737, 5930, 8123, 5747, 7940, 1234, 3427, 5620, 7813, 1737, 3930, 924, 3117, 5310, 7503, 1427, 3620, 5813, 8006, 2807, 5000, 7193, 3310, 5503, 7696, 487, 990, 6883, 5193, 7386, 177, 2370, 680, 2873, 5066, 7076, 2060, 4253, 370, 2563, 4756, 6949, 3943, 6136, 60, 2253, 4446, 6639, 4949, 2126, 8019, 1943, 4136, 6329, 6832, 1816, 4009, 3826, 6019, 1506, 3699, 5892, 2009, 7902, 1196, 3389, 5582, 7775, 1699, 3892, 6085, 886, 3079, 5272, 7465, 1389, 3582, 5775, 7968, 4962, 7155, 3272, 5465, 7658, 449, 952, 3145, 5155, 7348, 139, 2332, 642, 2835, 5028, 7221, 7038, 2022, 4215, 332, 2525, 4718, 6911, 835, 3028, 205, 6098, 22, 2215, 4408, 6601, 4911]
def hL2 : List Nat := [7104, 2088, 1905, 4098, 6291, 6794, 1778, 3971, 88, 5981, 8174, 1468, 3661, 5854, 1971, 4164, 1158, 3351, 5544, 7737, 1661, 3854, 6047, 3041, 5234, 7427, 1351, 3544, 5737, 7930, 1224, 7117, 1041, 3234, 5427, 7620, 914, 3107, 5300, 2924, 5117, 7310, 101, 604, 2797, 4990, 7183, 1107, 7000, 4177, 294, 2487, 4680, 6873, 797, 2990, 5183, 2177, 4370, 6563, 2680, 4873, 7066, 4060, 6253, 4563, 6756, 1740, 50, 2243, 8136, 6446, 1430, 3623, 1933, 4126, 6319, 1120, 3313, 5506, 7699, 1623, 3816, 6009, 5196, 7389, 1313, 3506, 5699, 7892, 6202, 1186, 3379, 1003, 3196, 5389, 7582, 8085, 876, 3069, 5262, 5079, 7272, 566, 2759, 4952, 7145, 1069, 3262, 256, 2449, 4642, 6835, 759, 2952, 5145, 2139, 4332, 6525, 2642, 4835, 7028, 322, 6215, 4525, 6718, 1702, 12, 2205, 4398, 6408, 1392, 3585, 1895, 4088, 6281, 3275, 5468, 1585, 3778, 5971, 8164, 4281, 1458, 7351, 1275, 3468, 5661, 7854, 6164, 1148, 3341, 3158, 5351, 7544, 8047, 838, 3031, 5224, 1341, 7234, 528, 2721, 4914, 7107, 1031, 3224, 218, 2411, 4604, 6797, 721, 2914, 5107, 7300, 4294, 6487, 411, 2604, 4797, 6990, 284, 2477, 2294, 4487, 6680, 1664, 2167, 4360, 6370, 1354, 3547, 1857, 4050, 6243, 167, 2360, 5430, 1547, 3740, 5933, 8126, 2050, 4243, 7313, 1237, 3430, 5623, 7816, 3933, 6126, 1110, 5313, 7506, 5816, 8009, 800, 2993, 5186, 1303, 7196, 490, 2683, 4876, 7069, 993, 3186, 5379, 2373, 4566, 6759, 683, 2876, 5069, 7262, 556, 6449, 373, 2566, 4759, 6952, 246, 2439, 2256, 4449, 6642, 2129, 4322, 6515, 439, 6332, 1819, 4012, 6205, 129, 2322, 1509, 3702, 5895, 8088, 2012, 4205, 6398, 3392, 5585, 7778, 3895, 6088, 1072, 5275, 1575, 7468, 5778, 7971, 762, 2955, 1265, 3458, 7661, 452, 2645, 4838, 955, 3148, 5341, 7534, 4528, 6721, 645, 2838, 5031, 7224, 518, 6411, 335, 2528, 4721, 6914, 7417, 208, 2401, 4594, 4411, 6604, 2091, 4284, 6477, 401, 6294, 1781, 3974, 6167, 91, 2284, 4477, 1471, 3664, 5857, 8050, 1974, 4167, 6360, 5547, 7740, 3857, 6050, 1034, 1537, 7430, 5740, 7933, 724, 2917, 1227, 3420, 5613, 7623, 2607, 4800, 917, 3110, 5303, 7496, 1420, 4490, 6683, 607, 2800, 4993, 7186, 3303, 5496, 480, 2673, 2490, 4683, 6876, 7379, 170, 2363, 4556, 4373, 6566, 2053, 4246, 6439, 363, 2556, 1743, 3936, 6129, 53, 2246, 4439, 6632, 3626, 5819, 8012, 1936, 4129, 6322, 5509, 7702, 1626, 3819, 6012, 1499, 3692, 3509, 5702, 7895, 686, 1189, 3382, 5575, 7768, 5392, 7585, 2569, 879, 3072, 5265, 7458, 1382, 3575, 569, 2762, 4955, 7148, 3265, 5458, 7651, 442, 2452, 4645, 6838, 5148, 7341, 132, 2325, 635, 6528, 7031, 2015, 4208, 325, 2518, 4711, 1705, 3898, 6091, 15, 2208, 4401, 6594, 3588, 5781, 7974, 1898, 4091, 6284, 1771, 7664, 1588, 3781, 5974, 8167, 1461, 3654, 5847, 3471, 5664, 7857, 648, 1151, 3344, 5537, 7730, 1654, 7547, 841, 3034, 5227, 7420, 1344, 3537, 5730, 2724, 4917, 7110, 3227, 5420, 7613, 404, 4607, 6800, 5110, 7303, 94, 2287, 597, 2790, 6993, 1977, 4170, 287, 2480, 4673, 6866, 1667, 3860, 6053, 2170, 4363, 6556, 5743, 7936, 1860, 4053, 6246, 6749, 1733, 3926, 1550, 3743, 5936, 8129, 1423, 3616, 5809, 5626, 7819]
def hL3 : List Nat := [1113, 3306, 5499, 7692, 1616, 3809, 803, 2996, 5189, 7382, 1306, 3499, 5692, 7885, 2686, 4879, 7072, 996, 3189, 5382, 7575, 869, 6762, 2879, 5072, 7265, 56, 559, 2752, 4945, 4762, 6955, 1939, 4132, 249, 2442, 4635, 6828, 752, 6645, 3822, 6015, 2132, 4325, 6518, 2635, 4828, 7898, 1822, 4015, 6208, 4518, 6711, 1695, 3705, 5898, 8091, 6401, 1385, 3578, 1888, 7781, 1075, 3268, 5461, 7654, 1578, 3771, 5964, 765, 2958, 5151, 7344, 1268, 3461, 5654, 7847, 4841, 7034, 958, 3151, 5344, 7537, 831, 3024, 2841, 5034, 7227, 18, 521, 2714, 4907, 4724, 6917, 1901, 211, 2404, 4597, 6790, 714, 2907, 2094, 4287, 6480, 2597, 4790, 1784, 3977, 6170, 4480, 6673, 1657, 5860, 8053, 6363, 1347, 3540, 1850, 4043, 1037, 3230, 5423, 1540, 3733, 5926, 2920, 5113, 7306, 1230, 3423, 5616, 7809, 1103, 6996, 920, 3113, 5306, 7499, 793, 2986, 2803, 4996, 7189, 483, 2676, 4869, 7062, 986, 6879, 173, 2366, 4559, 6752, 676, 2869, 5062, 2056, 4249, 6442, 366, 2559, 4752, 6945, 3939, 6132, 2249, 4442, 6635, 1619, 2122, 8015, 6325, 1309, 3502, 1812, 4005, 999, 3192, 5385, 1502, 3695, 5888, 8081, 2005, 5075, 7268, 1192, 3385, 5578, 7771, 3888, 1065, 6958, 882, 3075, 5268, 7461, 5771, 7964, 755, 2948, 5141, 4958, 7151, 445, 2638, 4831, 7024, 948, 3141, 135, 2328, 4521, 6714, 638, 2831, 5024, 2018, 4211, 6404, 328, 2521, 4714, 6907, 201, 6094, 2211, 4404, 6597, 2084, 7977, 4094, 6287, 1271, 1774, 3967, 6160, 84, 5977, 8170, 3154, 1464, 3657, 5850, 8043, 1967, 7860, 5037, 1154, 3347, 5540, 7733, 3850, 6043, 1027, 3037, 5230, 7423, 5733, 7926, 717, 2910, 1220, 7113, 7616, 407, 2600, 4793, 910, 3103, 97, 2290, 4483, 6676, 600, 2793, 4986, 7179, 4173, 6366, 290, 2483, 4676, 6869, 163, 6056, 2173, 4366, 6559, 2046, 4239, 4056, 6249, 1233, 1736, 3929, 6122, 46, 5939, 2239, 8132, 3116, 1426, 3619, 5812, 8005, 1929, 4122, 1116, 3309, 5502, 7695, 3812, 6005, 989, 5192, 7385, 5695, 7888, 679, 2872, 1182, 7075, 7578, 369, 2562, 4755, 872, 3065, 5258, 2252, 4445, 6638, 562, 2755, 4948, 7141, 4135, 6328, 252, 2445, 4638, 6831, 125, 2318, 2135, 4328, 6521, 2008, 4201, 6394, 318, 6211, 1698, 3891, 6084, 8, 2201, 8094, 1388, 3581, 5774, 7967, 1891, 4084, 6277, 3271, 5464, 7657, 1581, 3774, 5967, 8160, 5154, 7347, 3464, 5657, 7850, 641, 1144, 3337, 5347, 7540, 331, 2524, 834, 3027, 5220, 7413, 7230, 2214, 4407, 6600, 524, 2717, 4910, 7103, 3220, 397, 6290, 214, 2407, 4600, 6793, 5103, 7296, 87, 2280, 4290, 6483, 6986, 1970, 4163, 280, 6173, 1660, 3853, 6046, 2163, 4356, 1350, 3543, 5736, 7929, 1853, 4046, 6239, 3233, 5426, 7619, 1543, 3736, 5929, 8122, 1416, 7309, 3426, 5619, 7812, 603, 1106, 3299, 5492, 5309, 7502, 293, 2486, 796, 2989, 5182, 7375, 1299, 7192, 4369, 486, 2679, 4872, 7065, 3182, 5375, 359, 2369, 4562, 6755, 5065, 7258, 49, 2242, 4252, 6445, 6948, 1932, 4125, 242, 2435, 1622, 3815, 6008, 2125, 4318, 6511, 1312, 3505, 5698, 7891, 1815, 4008, 6201, 5388, 7581, 1505, 3698, 5891, 8084, 1378, 3571, 1195, 3388, 5581, 7774, 565, 1068, 3261, 5454, 5271, 7464, 2448, 758, 2951, 5144, 7337, 1261]
def hL4 : List Nat := [3454, 448, 2641, 4834, 7027, 951, 3144, 5337, 7530, 2331, 4524, 6717, 2834, 5027, 7220, 11, 514, 6407, 4717, 6910, 1894, 4087, 204, 2397, 4590, 1584, 3777, 5970, 2087, 4280, 6473, 3467, 5660, 7853, 1777, 3970, 6163, 4473, 1650, 7543, 1467, 3660, 5853, 8046, 6356, 1340, 3533, 3350, 5543, 7736, 1030, 3223, 5416, 7609, 1533, 7426, 720, 2913, 5106, 7299, 1223, 3416, 5609, 410, 2603, 4796, 6989, 913, 3106, 5299, 7492, 4486, 6679, 2796, 4989, 7182, 476, 2669, 4679, 6872, 1856, 166, 2359, 4552, 6562, 1546, 3739, 2049, 4242, 6435, 2552, 5622, 1739, 3932, 6125, 4435, 6628, 1612, 1429, 3622, 5815, 8008, 6318, 1302, 3495, 5505, 7698, 992, 3185, 5378, 1495, 3688, 682, 2875, 5068, 7261, 1185, 3378, 5571, 2565, 4758, 6951, 875, 3068, 5261, 7454, 748, 6641, 2758, 4951, 7144, 438, 2631, 4641, 6834, 1818, 128, 2321, 4514, 6707, 631, 6524, 3701, 2011, 4204, 6397, 321, 2514, 4707, 1701, 3894, 6087, 2204, 4397, 6590, 1574, 3584, 5777, 7970, 6280, 1264, 3457, 1767, 7660, 8163, 954, 3147, 5340, 1457, 3650, 644, 2837, 5030, 7223, 1147, 3340, 5533, 7726, 4720, 6913, 837, 3030, 5223, 7416, 5726, 710, 6603, 2903, 527, 2720, 4913, 7106, 400, 2593, 4786, 4603, 6796, 90, 2283, 4476, 6669, 593, 2786, 1973, 4166, 6359, 283, 2476, 4669, 1663, 3856, 6049, 2166, 4359, 6552, 5739, 7932, 4049, 6242, 1226, 1729, 7622, 5932, 8125, 916, 3109, 1419, 3612, 5805, 7815, 2799, 4992, 1109, 3302, 5495, 7688, 3805, 4682, 982, 6875, 799, 2992, 5185, 7378, 5688, 672, 2865, 2682, 4875, 7068, 7571, 362, 2555, 4748, 865, 6758, 52, 2245, 4438, 6631, 555, 2748, 1935, 4128, 6321, 245, 2438, 4631, 6824, 3818, 6011, 2128, 4321, 6514, 5701, 7894, 4011, 6204, 1188, 1691, 3884, 5894, 8087, 878, 3071, 1381, 3574, 5767, 7960, 1884, 7777, 4954, 1071, 3264, 5457, 7650, 3767, 944, 6837, 761, 2954, 5147, 7340, 5650, 7843, 634, 2827, 4837, 7030, 7533, 324, 2517, 4710, 827, 6720, 14, 2207, 4400, 6593, 517, 2710, 4903, 1897, 4090, 6283, 207, 2400, 4593, 6786, 3780, 5973, 8166, 2090, 4283, 6476, 1963, 7856, 1780, 3973, 6166, 1653, 3846, 6039, 5856, 8049, 3033, 1343, 3536, 5729, 7922, 1846, 7739, 4916, 1033, 3226, 5419, 7612, 1536, 3729, 5922, 2916, 5109, 7302, 3419, 5612, 7805, 596, 4799, 6992, 5302, 7495, 286, 2479, 789, 2982, 7185, 2169, 4362, 6555, 479, 2672, 4865, 7058, 1859, 4052, 6245, 169, 2362, 4555, 6748, 42, 5935, 8128, 2052, 4245, 6438, 6941, 1925, 4118, 3935, 6128, 1615, 3808, 6001, 5818, 8011, 1305, 3498, 5691, 7884, 1808, 4001, 995, 3188, 5381, 7574, 1498, 3691, 5884, 8077, 2878, 5071, 7264, 3381, 5574, 7767, 558, 1061, 6954, 5264, 7457, 248, 2441, 751, 2944, 5137, 7147, 2131, 4324, 441, 2634, 4827, 7020, 4014, 6207, 131, 2324, 4517, 6710, 5020, 4, 2197, 8090, 2014, 4207, 6400, 6903, 1887, 4080, 3897, 6090, 1577, 3770, 5963, 2080, 7973, 1267, 3460, 5653, 7846, 1770, 3963, 6156, 957, 3150, 5343, 7536, 1460, 3653, 5846, 8039, 5033, 7226, 1150, 3343, 5536, 7729, 520, 1023, 3216, 5226, 7419, 210, 2403, 713, 2906, 5099, 7292, 7109, 2093, 4286, 403, 2596, 4789, 6982, 906, 3099, 6169, 93, 2286, 4479, 6672]
def hL5 : List Nat := [2789, 4982, 7175, 1976, 4169, 6362, 4672, 6865, 1849, 4042, 159, 6052, 1539, 3732, 5925, 2042, 4235, 1229, 3422, 5615, 7808, 1732, 3925, 6118, 3112, 5305, 7498, 1422, 3615, 5808, 8001, 1295, 7188, 1112, 3305, 5498, 7691, 985, 3178, 5371, 2995, 5188, 7381, 172, 675, 2868, 5061, 7254, 1178, 7071, 365, 2558, 4751, 6944, 868, 3061, 5254, 55, 2248, 4441, 6634, 2751, 4944, 7137, 4131, 6324, 4634, 6827, 1811, 121, 2314, 6517, 1501, 3694, 2004, 4197, 1191, 3384, 5577, 1694, 3887, 6080, 5267, 7460, 1384, 3577, 5770, 7963, 6273, 1257, 3450, 1074, 3267, 5460, 7653, 8156, 947, 3140, 5333, 5150, 7343, 637, 2830, 5023, 7216, 1140, 3333, 327, 2520, 4713, 6906, 830, 3023, 5216, 2210, 4403, 6596, 2713, 4906, 7099, 393, 6286, 4596, 6789, 1773, 83, 2276, 8169, 4469, 6479, 1463, 3656, 1966, 4159, 6352, 276, 3346, 5539, 1656, 3849, 6042, 2159, 4352, 1529, 7422, 1346, 3539, 5732, 7925, 6235, 1219, 3412, 3229, 5422, 7615, 8118, 909, 3102, 5295, 1412, 7305, 599, 2792, 4985, 7178, 1102, 3295, 289, 2482, 4675, 6868, 792, 2985, 5178, 7371, 4365, 6558, 482, 2675, 4868, 7061, 355, 2548, 2365, 4558, 6751, 45, 2238, 4431, 4248, 6441, 1425, 1928, 4121, 6314, 238, 2431, 1618, 3811, 6004, 2121, 4314, 7384, 1308, 3501, 5694, 7887, 4004, 6197, 1181, 5384, 7577, 5887, 8080, 871, 3064, 1374, 7267, 7770, 561, 2754, 4947, 1064, 3257, 5450, 2444, 4637, 6830, 754, 2947, 5140, 7333, 627, 6520, 444, 2637, 4830, 7023, 317, 2510, 2327, 4520, 6713, 7, 2200, 4393, 6586, 510, 6403, 1890, 4083, 6276, 200, 2393, 1580, 3773, 5966, 8159, 2083, 4276, 6469, 3463, 5656, 7849, 3966, 6159, 1143, 5346, 1646, 7539, 5849, 8042, 833, 3026, 1336, 3529, 7732, 523, 2716, 4909, 1026, 3219, 5412, 7605, 4599, 6792, 716, 2909, 5102, 7295, 589, 6482, 406, 2599, 4792, 6985, 7488, 279, 2472, 4665, 4482, 6675, 2162, 4355, 6548, 472, 6365, 1852, 4045, 6238, 162, 2355, 4548, 1542, 3735, 5928, 8121, 2045, 4238, 6431, 5618, 7811, 1735, 3928, 6121, 1608, 7501, 3618, 5811, 8004, 795, 2988, 1298, 3491, 5684, 5501, 7694, 2678, 4871, 988, 3181, 5374, 7567, 1491, 4561, 6754, 678, 2871, 5064, 7257, 3374, 5567, 551, 2561, 4754, 6947, 5257, 7450, 241, 2434, 4444, 6637, 7140, 2124, 4317, 6510, 434, 2627, 1814, 4007, 6200, 124, 2317, 4510, 6703, 3697, 5890, 8083, 2007, 4200, 6393, 5580, 7773, 1697, 3890, 6083, 1570, 3763, 3580, 5773, 7966, 757, 1260, 3453, 5646, 7839, 5463, 7656, 2640, 950, 3143, 5336, 7529, 1453, 3646, 640, 2833, 5026, 7219, 3336, 5529, 7722, 513, 2523, 4716, 6909, 5219, 7412, 203, 2396, 706, 6599, 7102, 2086, 4279, 396, 2589, 4782, 1776, 3969, 6162, 86, 2279, 4472, 6665, 3659, 5852, 8045, 1969, 4162, 6355, 1842, 7735, 1659, 3852, 6045, 1532, 3725, 5918, 3542, 5735, 7928, 719, 1222, 3415, 5608, 7801, 1725, 7618, 912, 3105, 5298, 7491, 1415, 3608, 5801, 2795, 4988, 7181, 1105, 3298, 5491, 7684, 475, 4678, 6871, 5181, 7374, 165, 2358, 668, 2861, 7064, 2048, 4241, 358, 2551, 4744, 6937, 1738, 3931, 6124, 48, 2241, 4434, 6627, 2744, 5814, 8007, 1931, 4124, 6317, 4627, 6820, 1804, 3997, 1621, 3814, 6007, 1494, 3687, 5880]
def hL6 : List Nat := [5697, 7890, 1184, 3377, 5570, 7763, 1687, 3880, 874, 3067, 5260, 7453, 1377, 3570, 5763, 7956, 2757, 4950, 7143, 1067, 3260, 5453, 7646, 940, 6833, 2950, 5143, 7336, 127, 630, 2823, 5016, 4833, 7026, 2010, 320, 2513, 4706, 6899, 823, 6716, 3893, 10, 2203, 4396, 6589, 2706, 4899, 1893, 4086, 6279, 4589, 6782, 1766, 3776, 5969, 8162, 6472, 1456, 3649, 1959, 7852, 1146, 3339, 5532, 1649, 3842, 6035, 836, 3029, 5222, 7415, 1339, 3532, 5725, 7918, 4912, 7105, 1029, 3222, 5415, 7608, 902, 3095, 2912, 5105, 7298, 89, 592, 2785, 4978, 4795, 6988, 1972, 282, 2475, 4668, 6861, 785, 2978, 2165, 4358, 6551, 2668, 4861, 1855, 4048, 6241, 4551, 6744, 1728, 38, 5931, 8124, 6434, 1418, 3611, 1921, 4114, 1108, 3301, 5494, 1611, 3804, 5997, 2991, 5184, 7377, 1301, 3494, 5687, 7880, 1174, 7067, 991, 3184, 5377, 7570, 864, 3057, 2874, 5067, 7260, 554, 2747, 4940, 7133, 1057, 6950, 244, 2437, 4630, 6823, 747, 2940, 5133, 2127, 4320, 6513, 437, 2630, 4823, 7016, 4010, 6203, 2320, 4513, 6706, 0, 2193, 8086, 4203, 6396, 1380, 1883, 4076, 6086, 1070, 3263, 1573, 3766, 5959, 8152, 2076, 7969, 5146, 7339, 1263, 3456, 5649, 7842, 3959, 1136, 7029, 953, 3146, 5339, 7532, 5842, 8035, 826, 3019, 5029, 7222, 7725, 516, 2709, 4902, 1019, 3212, 206, 2399, 4592, 6785, 709, 2902, 5095, 2089, 4282, 6475, 399, 2592, 4785, 6978, 272, 6165, 2282, 4475, 6668, 2155, 8048, 4165, 6358, 1342, 1845, 4038, 6231, 155, 6048, 3225, 1535, 3728, 5921, 8114, 2038, 7931, 5108, 1225, 3418, 5611, 7804, 3921, 6114, 1098, 3108, 5301, 7494, 5804, 7997, 788, 2981, 1291, 7184, 7687, 478, 2671, 4864, 981, 3174, 168, 2361, 4554, 6747, 671, 2864, 5057, 7250, 4244, 6437, 361, 2554, 4747, 6940, 234, 6127, 51, 2244, 4437, 6630, 2117, 4310, 4127, 6320, 1304, 1807, 4000, 6193, 117, 6010, 2310, 3187, 1497, 3690, 5883, 8076, 2000, 4193, 1187, 3380, 5573, 7766, 1690, 3883, 6076, 5263, 7456, 3573, 5766, 7959, 750, 2943, 1253, 7146, 5456, 7649, 440, 2633, 4826, 943, 3136, 5329, 2323, 4516, 6709, 633, 2826, 5019, 7212, 4206, 6399, 323, 2516, 4709, 6902, 5212, 196, 2389, 2206, 4399, 6592, 7095, 2079, 4272, 6465, 4089, 389, 6282, 1769, 3962, 6155, 79, 2272, 8165, 1459, 3652, 5845, 8038, 1962, 4155, 6348, 3342, 5535, 7728, 1652, 3845, 6038, 5225, 7418, 3535, 5728, 7921, 712, 1215, 3408, 5418, 7611, 402, 2595, 905, 3098, 5291, 7484, 7301, 2285, 4478, 595, 2788, 4981, 7174, 3291, 468, 6361, 285, 2478, 4671, 6864, 5174, 7367, 158, 2351, 4361, 6554, 7057, 2041, 4234, 351, 6244, 1731, 3924, 6117, 41, 2234, 4427, 1421, 3614, 5807, 8000, 1924, 4117, 6310, 3304, 5497, 7690, 1614, 3807, 6000, 1487, 7380, 3497, 5690, 7883, 674, 1177, 3370, 5563, 5380, 7573, 364, 2557, 867, 3060, 5253, 7446, 1370, 7263, 4440, 557, 2750, 4943, 7136, 1060, 3253, 5446, 430, 2440, 4633, 6826, 5136, 7329, 120, 2313, 4323, 6516, 7019, 2003, 4196, 313, 2506, 1693, 3886, 6079, 3, 2196, 4389, 6582, 1383, 3576, 5769, 7962, 1886, 4079, 6272, 5459, 7652, 1576, 3769, 5962, 8155, 1449, 3642, 1266, 3459, 5652, 7845, 1139, 3332, 5525, 5342, 7535, 829, 3022, 5215]
def hL7 : List Nat := [7408, 1332, 3525, 519, 2712, 4905, 7098, 1022, 3215, 5408, 7601, 2402, 4595, 6788, 2905, 5098, 7291, 82, 585, 6478, 4788, 6981, 1965, 275, 2468, 4661, 6671, 1655, 3848, 2158, 4351, 6544, 3538, 5731, 1848, 4041, 6234, 4544, 1721, 7614, 1538, 3731, 5924, 8117, 6427, 1411, 3604, 3421, 5614, 7807, 1101, 3294, 5487, 1604, 7497, 791, 2984, 5177, 7370, 1294, 3487, 5680, 481, 2674, 4867, 7060, 984, 3177, 5370, 7563, 4557, 6750, 2867, 5060, 7253, 44, 547, 2740, 4750, 6943, 1927, 237, 2430, 4623, 6633, 1617, 3810, 2120, 4313, 6506, 2623, 5693, 1810, 4003, 6196, 4506, 6699, 1683, 7576, 1500, 3693, 5886, 8079, 6389, 1373, 3566, 5576, 7769, 1063, 3256, 5449, 1566, 3759, 753, 2946, 5139, 7332, 1256, 3449, 5642, 2636, 4829, 7022, 946, 3139, 5332, 7525, 819, 6712, 636, 2829, 5022, 7215, 509, 2702, 2519, 4712, 6905, 199, 2392, 4585, 6778, 702, 6595, 3772, 2082, 4275, 6468, 392, 2585, 4778, 1772, 3965, 6158, 2275, 4468, 6661, 3655, 5848, 8041, 4158, 6351, 1335, 1838, 7731, 6041, 1025, 3218, 5411, 1528, 3721, 7924, 715, 2908, 5101, 7294, 1218, 3411, 5604, 7797, 4791, 6984, 908, 3101, 5294, 7487, 781, 6674, 598, 2791, 4984, 7177, 7680, 471, 2664, 4857, 4674, 6867, 161, 2354, 4547, 6740, 664, 2857, 2044, 4237, 6430, 354, 2547, 4740, 1734, 3927, 6120, 2237, 4430, 6623, 5810, 8003, 4120, 6313, 1297, 1800, 7693, 6003, 987, 3180, 1490, 3683, 5876, 7886, 2870, 5063, 1180, 3373, 5566, 7759, 3876, 4753, 1053, 6946, 870, 3063, 5256, 7449, 5759, 743, 2936, 2753, 4946, 7139, 7642, 433, 2626, 4819, 936, 6829, 123, 2316, 4509, 6702, 626, 2819, 2006, 4199, 6392, 316, 2509, 4702, 6895, 3889, 6082, 6, 2199, 4392, 6585, 5772, 7965, 1889, 4082, 6275, 1259, 1762, 3955, 5965, 8158, 949, 3142, 1452, 3645, 5838, 8031, 1955, 7848, 5025, 1142, 3335, 5528, 7721, 1645, 3838, 6908, 832, 3025, 5218, 7411, 3528, 5721, 7914, 705, 2898, 4908, 7101, 7604, 395, 2588, 4781, 898, 6791, 85, 2278, 4471, 6664, 588, 2781, 4974, 1968, 4161, 6354, 278, 2471, 4664, 6857, 3851, 6044, 2161, 4354, 6547, 2034, 7927, 1851, 4044, 6237, 1724, 3917, 6110, 34, 5927, 8120, 1414, 3607, 5800, 7993, 1917, 7810, 1104, 3297, 5490, 7683, 1607, 3800, 5993, 2987, 5180, 7373, 3490, 5683, 7876, 667, 4870, 7063, 5373, 7566, 357, 2550, 860, 3053, 7256, 47, 2240, 4433, 550, 2743, 4936, 7129, 1930, 4123, 6316, 240, 2433, 4626, 6819, 113, 6006, 2123, 4316, 6509, 7012, 1996, 4189, 4006, 6199, 1686, 3879, 6072, 5889, 8082, 1376, 3569, 5762, 7955, 1879, 4072, 1066, 3259, 5452, 7645, 1569, 3762, 5955, 8148, 2949, 5142, 7335, 3452, 5645, 7838, 629, 1132, 7025, 5335, 7528, 319, 2512, 822, 3015, 5208, 7218, 2202, 4395, 512, 2705, 4898, 7091, 1015, 4085, 6278, 202, 2395, 4588, 6781, 5091, 75, 2268, 8161, 2085, 4278, 6471, 6974, 1958, 4151, 3968, 6161, 1648, 3841, 6034, 2151, 8044, 1338, 3531, 5724, 7917, 1841, 4034, 6227, 1028, 3221, 5414, 7607, 1531, 3724, 5917, 8110, 5104, 7297, 1221, 3414, 5607, 7800, 1094, 3287, 3104, 5297, 7490, 281, 784, 2977, 5170, 7363, 4987, 7180, 2164, 474, 2667, 4860, 7053, 977, 3170, 6240, 164, 2357, 4550, 6743]
def hL8 : List Nat := [2860, 5053, 7246, 37, 2047, 4240, 6433, 4743, 6936, 1920, 230, 6123, 6626, 1610, 3803, 2113, 4306, 1300, 3493, 5686, 1803, 3996, 6189, 3183, 5376, 7569, 1493, 3686, 5879, 8072, 1366, 7259, 1183, 3376, 5569, 7762, 1056, 3249, 5442, 3066, 5259, 7452, 243, 746, 2939, 5132, 7325, 1249, 7142, 436, 2629, 4822, 7015, 939, 3132, 5325, 126, 2319, 4512, 6705, 2822, 5015, 7208, 4202, 6395, 4705, 6898, 1882, 192, 2385, 6588, 1572, 3765, 2075, 4268, 1262, 3455, 5648, 1765, 3958, 6151, 5338, 7531, 1455, 3648, 5841, 8034, 6344, 1328, 3521, 1145, 3338, 5531, 7724, 1018, 3211, 5404, 5221, 7414, 708, 2901, 5094, 7287, 1211, 3404, 398, 2591, 4784, 6977, 901, 3094, 5287, 2281, 4474, 6667, 591, 2784, 4977, 7170, 464, 6357, 2474, 4667, 6860, 154, 2347, 4540, 4357, 6550, 1534, 3727, 2037, 4230, 6423, 347, 3417, 5610, 1727, 3920, 6113, 2230, 4423, 7493, 1417, 3610, 5803, 7996, 4113, 6306, 1290, 3300, 5493, 7686, 5996, 8189, 980, 3173, 5366, 1483, 7376, 7879, 670, 2863, 5056, 7249, 1173, 3366, 360, 2553, 4746, 6939, 863, 3056, 5249, 7442, 4436, 6629, 553, 2746, 4939, 7132, 426, 2619, 2436, 4629, 6822, 116, 2309, 4502, 4319, 6512, 1496, 1999, 4192, 6385, 309, 2502, 1689, 3882, 6075, 2192, 4385, 1379, 3572, 5765, 7958, 4075, 6268, 1252, 5455, 7648, 5958, 8151, 942, 3135, 1445, 7338, 7841, 632, 2825, 5018, 1135, 3328, 5521, 2515, 4708, 6901, 825, 3018, 5211, 7404, 698, 6591, 515, 2708, 4901, 7094, 388, 2581, 2398, 4591, 6784, 78, 2271, 4464, 6657, 581, 6474, 1961, 4154, 6347, 271, 2464, 1651, 3844, 6037, 2154, 4347, 6540, 3534, 5727, 7920, 1844, 4037, 6230, 1214, 5417, 1717, 7610, 5920, 8113, 904, 3097, 1407, 3600, 7803, 594, 2787, 4980, 1097, 3290, 5483, 7676, 1600, 4670, 6863, 787, 2980, 5173, 7366, 3483, 660, 6553, 477, 2670, 4863, 7056, 7559, 350, 2543, 4736, 4553, 6746, 40, 2233, 4426, 6619, 543, 6436, 1923, 4116, 6309, 233, 2426, 4619, 1613, 3806, 5999, 2116, 4309, 6502, 3496, 5689, 7882, 1806, 3999, 6192, 1679, 7572, 3689, 5882, 8075, 866, 1369, 3562, 5755, 5572, 7765, 2749, 1059, 3252, 5445, 7638, 1562, 7455, 4632, 749, 2942, 5135, 7328, 3445, 5638, 622, 2632, 4825, 7018, 5328, 7521, 312, 2505, 4515, 6708, 7211, 2, 2195, 4388, 505, 2698, 1885, 4078, 6271, 195, 2388, 4581, 6774, 3768, 5961, 8154, 2078, 4271, 6464, 5651, 7844, 1768, 3961, 6154, 1641, 3834, 3651, 5844, 8037, 828, 1331, 3524, 5717, 7910, 5534, 7727, 2711, 1021, 3214, 5407, 7600, 1524, 3717, 711, 2904, 5097, 7290, 3407, 5600, 7793, 584, 2594, 4787, 6980, 5290, 7483, 274, 2467, 777, 6670, 7173, 2157, 4350, 467, 2660, 4853, 1847, 4040, 6233, 157, 2350, 4543, 6736, 3730, 5923, 8116, 2040, 4233, 6426, 1913, 7806, 1730, 3923, 6116, 1603, 3796, 5989, 3613, 5806, 7999, 1293, 3486, 5679, 7872, 1796, 7689, 983, 3176, 5369, 7562, 1486, 3679, 5872, 673, 2866, 5059, 7252, 1176, 3369, 5562, 7755, 4749, 6942, 3059, 5252, 7445, 236, 739, 2932, 4942, 7135, 2119, 429, 2622, 4815, 7008, 6825, 1809, 4002, 6195, 119, 2312, 4505, 6698, 2815, 5885, 8078, 2002, 4195, 6388, 4698, 6891, 1875, 1692, 3885, 6078, 6581, 1565, 3758, 5768]
def hL9 : List Nat := [7961, 1255, 3448, 5641, 7834, 1758, 3951, 945, 3138, 5331, 7524, 1448, 3641, 5834, 8027, 2828, 5021, 7214, 1138, 3331, 5524, 7717, 1011, 6904, 3021, 5214, 7407, 198, 701, 2894, 5087, 4904, 7097, 2081, 391, 2584, 4777, 6970, 894, 6787, 3964, 81, 2274, 4467, 6660, 2777, 4970, 1964, 4157, 6350, 4660, 6853, 1837, 3847, 6040, 6543, 1527, 3720, 2030, 7923, 1217, 3410, 5603, 1720, 3913, 6106, 907, 3100, 5293, 7486, 1410, 3603, 5796, 7989, 4983, 7176, 1100, 3293, 5486, 7679, 973, 3166, 790, 2983, 5176, 7369, 160, 663, 2856, 5049, 4866, 7059, 2043, 353, 2546, 4739, 6932, 856, 3049, 43, 2236, 4429, 6622, 546, 2739, 4932, 1926, 4119, 6312, 2429, 4622, 6815, 1799, 109, 6002, 4312, 6505, 1489, 3682, 1992, 4185, 1179, 3372, 5565, 1682, 3875, 6068, 3062, 5255, 7448, 1372, 3565, 5758, 7951, 4068, 1245, 7138, 1062, 3255, 5448, 7641, 5951, 935, 3128, 2945, 5138, 7331, 625, 2818, 5011, 7204, 1128, 7021, 315, 2508, 4701, 6894, 818, 3011, 5204, 5, 2198, 4391, 6584, 508, 2701, 4894, 7087, 4081, 6274, 2391, 4584, 6777, 71, 2264, 8157, 4274, 6467, 1451, 1954, 4147, 6157, 1141, 3334, 1644, 3837, 6030, 2147, 8040, 5217, 1334, 3527, 5720, 7913, 4030, 1207, 7100, 1024, 3217, 5410, 7603, 5913, 8106, 897, 3090, 5100, 7293, 7796, 587, 2780, 4973, 1090, 6983, 3283, 277, 2470, 4663, 6856, 780, 2973, 5166, 2160, 4353, 6546, 470, 2663, 4856, 7049, 343, 6236, 2353, 4546, 6739, 33, 2226, 8119, 4236, 6429, 1413, 1916, 4109, 6302, 226, 6119, 3296, 1606, 3799, 5992, 8185, 2109, 8002, 5179, 1296, 3489, 5682, 7875, 3992, 6185, 1169, 3179, 5372, 7565, 5875, 8068, 859, 3052, 1362, 7255, 7758, 549, 2742, 4935, 1052, 3245, 239, 2432, 4625, 6818, 742, 2935, 5128, 7321, 4315, 6508, 432, 2625, 4818, 7011, 305, 6198, 122, 2315, 4508, 6701, 2188, 4381, 4198, 6391, 1878, 4071, 6264, 188, 6081, 1568, 3761, 5954, 8147, 2071, 4264, 1258, 3451, 5644, 7837, 1761, 3954, 6147, 5334, 7527, 3644, 5837, 8030, 821, 1324, 7217, 5527, 7720, 511, 2704, 1014, 3207, 5400, 7410, 2394, 4587, 704, 2897, 5090, 7283, 4277, 6470, 394, 2587, 4780, 6973, 5283, 267, 2460, 2277, 4470, 6663, 7166, 2150, 4343, 4160, 460, 6353, 1840, 4033, 6226, 150, 2343, 1530, 3723, 5916, 8109, 2033, 4226, 6419, 3413, 5606, 7799, 1723, 3916, 6109, 5296, 7489, 3606, 5799, 7992, 783, 1286, 3479, 5489, 7682, 473, 2666, 976, 3169, 5362, 7555, 7372, 2356, 4549, 666, 2859, 5052, 7245, 3362, 539, 6432, 356, 2549, 4742, 6935, 5245, 7438, 229, 2422, 4432, 6625, 7128, 2112, 4305, 422, 6315, 1802, 3995, 6188, 112, 2305, 4498, 1492, 3685, 5878, 8071, 1995, 4188, 6381, 3375, 5568, 7761, 1685, 3878, 6071, 1558, 7451, 1375, 3568, 5761, 7954, 1248, 3441, 5634, 3258, 5451, 7644, 435, 2628, 938, 3131, 5324, 7517, 1441, 7334, 4511, 628, 2821, 5014, 7207, 1131, 3324, 5517, 2511, 4704, 6897, 3014, 5207, 7400, 191, 4394, 6587, 4897, 7090, 2074, 384, 2577, 6780, 1764, 3957, 6150, 74, 2267, 4460, 6653, 1454, 3647, 5840, 8033, 1957, 4150, 6343, 5530, 7723, 1647, 3840, 6033, 6536, 1520, 3713, 1337, 3530, 5723, 7916, 1210, 3403, 5596, 5413, 7606, 900, 3093, 5286, 7479]
def hL10 : List Nat := [1403, 3596, 590, 2783, 4976, 7169, 1093, 3286, 5479, 7672, 2473, 4666, 6859, 2976, 5169, 7362, 153, 656, 6549, 4859, 7052, 2036, 346, 2539, 4732, 6742, 1726, 3919, 36, 2229, 4422, 6615, 3609, 5802, 1919, 4112, 6305, 4615, 1792, 7685, 1609, 3802, 5995, 8188, 6498, 1482, 3675, 3492, 5685, 7878, 1172, 3365, 5558, 1675, 7568, 862, 3055, 5248, 7441, 1365, 3558, 5751, 552, 2745, 4938, 7131, 1055, 3248, 5441, 7634, 4628, 6821, 745, 2938, 5131, 7324, 115, 618, 2811, 4821, 7014, 1998, 308, 2501, 4694, 6704, 1688, 3881, 2191, 4384, 6577, 501, 2694, 5764, 1881, 4074, 6267, 2384, 4577, 6770, 1754, 7647, 1571, 3764, 5957, 8150, 4267, 6460, 1444, 3637, 5647, 7840, 1134, 3327, 5520, 1637, 3830, 824, 3017, 5210, 7403, 1327, 3520, 5713, 2707, 4900, 7093, 1017, 3210, 5403, 7596, 890, 6783, 707, 2900, 5093, 7286, 580, 2773, 2590, 4783, 6976, 270, 2463, 4656, 6849, 773, 6666, 2153, 4346, 6539, 463, 2656, 4849, 1843, 4036, 6229, 2346, 4539, 6732, 3726, 5919, 8112, 4229, 6422, 1406, 1909, 7802, 6112, 1096, 3289, 1599, 3792, 7995, 786, 2979, 5172, 1289, 3482, 5675, 7868, 4862, 7055, 979, 3172, 5365, 7558, 852, 6745, 669, 2862, 5055, 7248, 7751, 542, 2735, 4928, 4745, 6938, 232, 2425, 4618, 6811, 735, 2928, 2115, 4308, 6501, 425, 2618, 4811, 1805, 3998, 6191, 2308, 4501, 6694, 5881, 8074, 4191, 6384, 1368, 1871, 7764, 6074, 1058, 3251, 1561, 3754, 5947, 7957, 2941, 5134, 1251, 3444, 5637, 7830, 3947, 4824, 1124, 7017, 941, 3134, 5327, 7520, 5830, 814, 3007, 2824, 5017, 7210, 7713, 504, 2697, 4890, 1007, 6900, 194, 2387, 4580, 6773, 697, 2890, 2077, 4270, 6463, 387, 2580, 4773, 6966, 3960, 6153, 77, 2270, 4463, 6656, 5843, 8036, 1960, 4153, 6346, 1833, 4026, 3843, 6036, 1020, 1523, 3716, 5909, 8102, 2026, 7919, 5096, 1213, 3406, 5599, 7792, 1716, 3909, 6979, 903, 3096, 5289, 7482, 3599, 5792, 7985, 776, 4979, 7172, 5482, 7675, 466, 2659, 969, 6862, 7365, 156, 2349, 4542, 659, 2852, 5045, 2039, 4232, 6425, 349, 2542, 4735, 6928, 3922, 6115, 39, 2232, 4425, 6618, 2105, 7998, 1922, 4115, 6308, 1795, 3988, 6181, 105, 5998, 8191, 1485, 3678, 5871, 8064, 1988, 7881, 1175, 3368, 5561, 7754, 1678, 3871, 6064, 3058, 5251, 7444, 3561, 5754, 7947, 738, 4941, 7134, 5444, 7637, 428, 2621, 931, 3124, 7327, 118, 2311, 4504, 621, 2814, 5007, 7200, 2001, 4194, 6387, 311, 2504, 4697, 6890, 184, 6077, 1, 2194, 4387, 6580, 7083, 2067, 4260, 4077, 6270, 1757, 3950, 6143, 67, 5960, 8153, 1447, 3640, 5833, 8026, 1950, 4143, 1137, 3330, 5523, 7716, 1640, 3833, 6026, 3020, 5213, 7406, 1330, 3523, 5716, 7909, 1203, 7096, 3213, 5406, 7599, 390, 2583, 893, 3086, 5279, 7289, 80, 2273, 4466, 583, 2776, 4969, 7162, 1086, 4156, 6349, 273, 2466, 4659, 6852, 2969, 5162, 146, 2156, 4349, 6542, 4852, 7045, 2029, 4222, 4039, 6232, 6735, 1719, 3912, 6105, 29, 2222, 8115, 1409, 3602, 5795, 7988, 1912, 4105, 6298, 1099, 3292, 5485, 7678, 1602, 3795, 5988, 8181, 5175, 7368, 1292, 3485, 5678, 7871, 1165, 3358, 3175, 5368, 7561, 352, 855, 3048, 5241, 7434, 5058, 7251, 2235, 545, 2738, 4931, 7124, 1048, 3241, 235]
def hL11 : List Nat := [2428, 4621, 6814, 2931, 5124, 7317, 108, 2118, 4311, 6504, 4814, 7007, 1991, 301, 6194, 6697, 1681, 3874, 2184, 4377, 1371, 3564, 5757, 1874, 4067, 6260, 3254, 5447, 7640, 1564, 3757, 5950, 8143, 1437, 7330, 1254, 3447, 5640, 7833, 1127, 3320, 5513, 3137, 5330, 7523, 314, 817, 3010, 5203, 7396, 1320, 7213, 507, 2700, 4893, 7086, 1010, 3203, 5396, 197, 2390, 4583, 6776, 700, 2893, 5086, 7279, 70, 4273, 6466, 4776, 6969, 1953, 263, 2456, 6659, 1643, 3836, 2146, 4339, 1333, 3526, 5719, 1836, 4029, 6222, 2339, 5409, 7602, 1526, 3719, 5912, 8105, 6415, 1399, 3592, 1216, 3409, 5602, 7795, 1089, 3282, 5475, 5292, 7485, 779, 2972, 5165, 7358, 1282, 3475, 469, 2662, 4855, 7048, 972, 3165, 5358, 2352, 4545, 6738, 662, 2855, 5048, 7241, 535, 6428, 2545, 4738, 6931, 225, 2418, 4611, 4428, 6621, 1605, 2108, 4301, 6494, 418, 6311, 3488, 1798, 3991, 6184, 2301, 4494, 7564, 1488, 3681, 5874, 8067, 4184, 6377, 1361, 3371, 5564, 7757, 6067, 1051, 3244, 1554, 7447, 7950, 741, 2934, 5127, 1244, 3437, 431, 2624, 4817, 7010, 934, 3127, 5320, 7513, 4507, 6700, 624, 2817, 5010, 7203, 497, 6390, 2690, 2507, 4700, 6893, 187, 2380, 4573, 4390, 6583, 1567, 2070, 4263, 6456, 380, 2573, 1760, 3953, 6146, 2263, 4456, 1450, 3643, 5836, 8029, 4146, 6339, 1323, 5526, 7719, 6029, 1013, 3206, 1516, 7409, 7912, 703, 2896, 5089, 1206, 3399, 5592, 2586, 4779, 6972, 896, 3089, 5282, 7475, 769, 6662, 586, 2779, 4972, 7165, 459, 2652, 2469, 4662, 6855, 149, 2342, 4535, 6728, 652, 6545, 2032, 4225, 6418, 342, 2535, 1722, 3915, 6108, 32, 2225, 4418, 6611, 3605, 5798, 7991, 1915, 4108, 6301, 5488, 7681, 3798, 5991, 8184, 975, 1478, 3671, 5681, 7874, 665, 2858, 5051, 1168, 3361, 5554, 7747, 1671, 4741, 6934, 858, 3051, 5244, 7437, 3554, 731, 6624, 548, 2741, 4934, 7127, 5437, 7630, 421, 2614, 4624, 6817, 7320, 111, 2304, 4497, 614, 6507, 1994, 4187, 6380, 304, 2497, 4690, 1684, 3877, 6070, 2187, 4380, 6573, 3567, 5760, 7953, 1877, 4070, 6263, 1750, 7643, 3760, 5953, 8146, 937, 1440, 3633, 5826, 5643, 7836, 2820, 1130, 3323, 5516, 7709, 1633, 7526, 4703, 820, 3013, 5206, 7399, 3516, 5709, 693, 2703, 4896, 7089, 5399, 7592, 383, 2576, 4586, 6779, 7282, 73, 2266, 4459, 576, 2769, 1956, 4149, 6342, 266, 2459, 4652, 6845, 3839, 6032, 2149, 4342, 6535, 5722, 7915, 1839, 4032, 6225, 1712, 3905, 3722, 5915, 8108, 899, 1402, 3595, 5788, 7981, 5605, 7798, 2782, 1092, 3285, 5478, 7671, 1595, 3788, 782, 2975, 5168, 7361, 1285, 3478, 5671, 7864, 2665, 4858, 7051, 3168, 5361, 7554, 345, 2538, 848, 6741, 7244, 35, 2228, 4421, 538, 2731, 4924, 1918, 4111, 6304, 228, 2421, 4614, 6807, 3801, 5994, 8187, 2111, 4304, 6497, 4807, 1984, 7877, 1801, 3994, 6187, 6690, 1674, 3867, 6060, 3684, 5877, 8070, 1364, 3557, 5750, 7943, 1867, 7760, 1054, 3247, 5440, 7633, 1557, 3750, 5943, 744, 2937, 5130, 7323, 1247, 3440, 5633, 7826, 4820, 7013, 3130, 5323, 7516, 307, 810, 3003, 5013, 7206, 2190, 500, 2693, 4886, 7079, 6896, 1880, 4073, 190, 2383, 4576, 6769, 2886, 63, 5956, 2073, 4266, 6459, 4769, 6962, 1946, 1763, 3956, 6149]
def hL12 : List Nat := [6652, 1636, 3829, 5839, 8032, 1326, 3519, 5712, 1829, 4022, 1016, 3209, 5402, 7595, 1519, 3712, 5905, 8098, 2899, 5092, 7285, 1209, 3402, 5595, 7788, 1082, 6975, 3092, 5285, 7478, 269, 772, 2965, 5158, 4975, 7168, 2152, 462, 2655, 4848, 7041, 965, 6858, 4035, 152, 2345, 4538, 6731, 655, 2848, 5041, 25, 2035, 4228, 6421, 4731, 6924, 1908, 3918, 6111, 6614, 1598, 3791, 2101, 7994, 1288, 3481, 5674, 1791, 3984, 6177, 978, 3171, 5364, 7557, 1481, 3674, 5867, 8060, 5054, 7247, 1171, 3364, 5557, 7750, 1044, 3237, 861, 3054, 5247, 7440, 734, 2927, 5120, 4937, 7130, 424, 2617, 4810, 7003, 927, 3120, 114, 2307, 4500, 6693, 617, 2810, 5003, 1997, 4190, 6383, 2500, 4693, 6886, 180, 6073, 4383, 6576, 1560, 2063, 4256, 6266, 1250, 3443, 1753, 3946, 6139, 8149, 3133, 5326, 7519, 1443, 3636, 5829, 8022, 4139, 1316, 7209, 1133, 3326, 5519, 7712, 6022, 1006, 3199, 3016, 5209, 7402, 7905, 696, 2889, 5082, 1199, 7092, 386, 2579, 4772, 6965, 889, 3082, 76, 2269, 4462, 6655, 579, 2772, 4965, 7158, 4152, 6345, 2462, 4655, 6848, 142, 2335, 4345, 6538, 1522, 2025, 4218, 6228, 1212, 3405, 1715, 3908, 6101, 2218, 8111, 5288, 1405, 3598, 5791, 7984, 4101, 1278, 7171, 1095, 3288, 5481, 7674, 5984, 8177, 968, 3161, 5171, 7364, 7867, 658, 2851, 5044, 1161, 7054, 3354, 348, 2541, 4734, 6927, 851, 3044, 5237, 2231, 4424, 6617, 541, 2734, 4927, 7120, 414, 6307, 231, 2424, 4617, 6810, 104, 2297, 8190, 2114, 4307, 6500, 1484, 1987, 4180, 6373, 297, 6190, 3367, 1677, 3870, 6063, 2180, 8073, 5250, 1367, 3560, 5753, 7946, 1870, 4063, 6256, 3250, 5443, 7636, 3753, 5946, 8139, 930, 1433, 7326, 5636, 7829, 620, 2813, 5006, 1123, 3316, 310, 2503, 4696, 6889, 813, 3006, 5199, 7392, 4386, 6579, 503, 2696, 4889, 7082, 376, 6269, 193, 2386, 4579, 6772, 7275, 66, 2259, 4452, 4269, 6462, 1949, 4142, 6335, 259, 6152, 1639, 3832, 6025, 2142, 4335, 1329, 3522, 5715, 7908, 1832, 4025, 6218, 5405, 7598, 3715, 5908, 8101, 892, 1395, 7288, 5598, 7791, 582, 2775, 1085, 3278, 5471, 7481, 2465, 4658, 775, 2968, 5161, 7354, 4348, 6541, 465, 2658, 4851, 7044, 5354, 338, 2531, 2348, 4541, 6734, 7237, 28, 2221, 4414, 4231, 531, 6424, 1911, 4104, 6297, 221, 2414, 1601, 3794, 5987, 8180, 2104, 4297, 6490, 3484, 5677, 7870, 1794, 3987, 6180, 5367, 7560, 3677, 5870, 8063, 854, 1357, 3550, 5560, 7753, 544, 2737, 1047, 3240, 5433, 7626, 7443, 2427, 4620, 737, 2930, 5123, 7316, 1240, 3433, 610, 6503, 427, 2620, 4813, 7006, 3123, 5316, 7509, 300, 2493, 4503, 6696, 7199, 2183, 4376, 493, 6386, 1873, 4066, 6259, 183, 2376, 4569, 1563, 3756, 5949, 8142, 2066, 4259, 6452, 3446, 5639, 7832, 1756, 3949, 6142, 1629, 7522, 1446, 3639, 5832, 8025, 1319, 3512, 5705, 3329, 5522, 7715, 506, 1009, 3202, 5395, 7588, 1512, 7405, 699, 2892, 5085, 7278, 1202, 3395, 5588, 2582, 4775, 6968, 3085, 5278, 7471, 262, 4465, 6658, 4968, 7161, 2145, 455, 2648, 6851, 1835, 4028, 145, 2338, 4531, 6724, 1525, 3718, 5911, 2028, 4221, 6414, 5601, 7794, 1718, 3911, 6104, 6607, 1591, 3784, 1408, 3601, 5794, 7987, 1281, 3474, 5667, 5484, 7677, 971, 3164]
def hL13 : List Nat := [5357, 7550, 1474, 3667, 661, 2854, 5047, 7240, 1164, 3357, 5550, 7743, 2544, 4737, 6930, 3047, 5240, 7433, 224, 727, 6620, 4930, 7123, 2107, 417, 2610, 4803, 6813, 1797, 3990, 107, 2300, 4493, 6686, 3680, 5873, 1990, 4183, 6376, 4686, 1863, 7756, 1680, 3873, 6066, 6569, 1553, 3746, 3563, 5756, 7949, 1243, 3436, 5629, 1746, 7639, 933, 3126, 5319, 7512, 1436, 3629, 5822, 623, 2816, 5009, 7202, 1126, 3319, 5512, 7705, 4699, 6892, 816, 3009, 5202, 7395, 689, 2882, 2699, 4892, 7085, 379, 2572, 4765, 4582, 6775, 1759, 3952, 69, 2262, 4455, 6648, 572, 2765, 5835, 1952, 4145, 6338, 2455, 4648, 6841, 7718, 1642, 3835, 6028, 4338, 6531, 1515, 5718, 7911, 6221, 1205, 3398, 1708, 3901, 8104, 895, 3088, 5281, 7474, 1398, 3591, 5784, 2778, 4971, 7164, 1088, 3281, 5474, 7667, 961, 6854, 778, 2971, 5164, 7357, 651, 2844, 2661, 4854, 7047, 341, 2534, 4727, 6920, 844, 6737, 31, 2224, 4417, 6610, 534, 2727, 4920, 1914, 4107, 6300, 2417, 4610, 6803, 3797, 5990, 8183, 4300, 6493, 1477, 1980, 7873, 6183, 1167, 3360, 1670, 3863, 8066, 857, 3050, 5243, 1360, 3553, 5746, 7939, 4933, 7126, 1050, 3243, 5436, 7629, 923, 6816, 740, 2933, 5126, 7319, 7822, 613, 2806, 4999, 4816, 7009, 303, 2496, 4689, 6882, 806, 2999, 2186, 4379, 6572, 496, 2689, 4882, 1876, 4069, 6262, 186, 2379, 4572, 6765, 59, 5952, 8145, 2069, 4262, 6455, 1439, 1942, 7835, 6145, 1129, 3322, 1632, 3825, 6018, 8028, 3012, 5205, 1322, 3515, 5708, 7901, 1825, 4018, 4895, 7088, 1012, 3205, 5398, 7591, 3708, 5901, 885, 2895, 5088, 7281, 5591, 7784, 575, 2768, 4961, 1078, 6971, 265, 2458, 4651, 6844, 768, 2961, 2148, 4341, 6534, 458, 2651, 4844, 7037, 4031, 6224, 148, 2341, 4534, 6727, 21, 5914, 8107, 2031, 4224, 6417, 1904, 4097, 3914, 6107, 1091, 1594, 3787, 5980, 8173, 5797, 2097, 7990, 2974, 1284, 3477, 5670, 7863, 1787, 3980, 974, 3167, 5360, 7553, 3670, 5863, 8056, 847, 5050, 7243, 5553, 7746, 537, 2730, 1040, 6933, 7436, 227, 2420, 4613, 730, 2923, 5116, 2110, 4303, 6496, 420, 2613, 4806, 6999, 3993, 6186, 110, 2303, 4496, 6689, 2176, 8069, 1993, 4186, 6379, 1866, 4059, 6252, 176, 6069, 1556, 3749, 5942, 8135, 2059, 7952, 1246, 3439, 5632, 7825, 1749, 3942, 6135, 3129, 5322, 7515, 3632, 5825, 8018, 809, 5012, 7205, 5515, 7708, 499, 2692, 1002, 3195, 7398, 189, 2382, 4575, 692, 2885, 5078, 7271, 2072, 4265, 6458, 382, 2575, 4768, 6961, 3078, 255, 6148, 72, 2265, 4458, 6651, 7154, 2138, 4331, 4148, 6341, 1828, 4021, 6214, 138, 6031, 1518, 3711, 5904, 8097, 2021, 4214, 1208, 3401, 5594, 7787, 1711, 3904, 6097, 3091, 5284, 7477, 1401, 3594, 5787, 7980, 1274, 7167, 3284, 5477, 7670, 461, 964, 3157, 5350, 5167, 7360, 151, 2344, 654, 2847, 5040, 7233, 1157, 7050, 4227, 6420, 344, 2537, 4730, 6923, 3040, 5233, 217, 2227, 4420, 6613, 4923, 7116, 2100, 4110, 6303, 6806, 1790, 3983, 100, 2293, 8186, 1480, 3673, 5866, 1983, 4176, 6369, 1170, 3363, 5556, 7749, 1673, 3866, 6059, 5246, 7439, 1363, 3556, 5749, 7942, 1236, 3429, 3246, 5439, 7632, 423, 926, 3119, 5312, 7505, 5129, 7322, 2306, 616, 2809, 5002, 7195, 1119, 3312]
def hL14 : List Nat := [306, 2499, 4692, 6885, 3002, 5195, 7388, 179, 2189, 4382, 6575, 4885, 7078, 2062, 372, 6265, 6768, 1752, 3945, 62, 2255, 4448, 1442, 3635, 5828, 1945, 4138, 6331, 3325, 5518, 7711, 1635, 3828, 6021, 1508, 7401, 1325, 3518, 5711, 7904, 1198, 3391, 5584, 3208, 5401, 7594, 385, 888, 3081, 5274, 7467, 1391, 7284, 578, 2771, 4964, 7157, 1081, 3274, 5467, 268, 2461, 4654, 6847, 771, 2964, 5157, 7350, 4344, 6537, 2654, 4847, 7040, 334, 2527, 4537, 6730, 1714, 3907, 24, 2217, 4410, 1404, 3597, 5790, 1907, 4100, 6293, 2410, 5480, 7673, 1597, 3790, 5983, 8176, 4293, 6486, 1470, 1287, 3480, 5673, 7866, 6176, 1160, 3353, 5363, 7556, 8059, 850, 3043, 5236, 7429, 1353, 3546, 540, 2733, 4926, 7119, 1043, 3236, 5429, 2423, 4616, 6809, 733, 2926, 5119, 7312, 606, 6499, 2616, 4809, 7002, 296, 2489, 4499, 6692, 1676, 2179, 4372, 6565, 489, 6382, 3559, 1869, 4062, 6255, 2372, 4565, 1559, 3752, 5945, 8138, 4255, 6448, 1432, 3442, 5635, 7828, 6138, 1122, 3315, 1625, 7518, 8021, 812, 3005, 5198, 1315, 3508, 502, 2695, 4888, 7081, 1005, 3198, 5391, 7584, 4578, 6771, 695, 2888, 5081, 7274, 568, 6461, 2761, 2578, 4771, 6964, 258, 2451, 4644, 4461, 6654, 1638, 2141, 4334, 6527, 451, 2644, 1831, 4024, 6217, 141, 2334, 4527, 1521, 3714, 5907, 8100, 2024, 4217, 6410, 1394, 5597, 7790, 6100, 1084, 3277, 1587, 7480, 7983, 774, 2967, 5160, 1277, 3470, 5663, 2657, 4850, 7043, 967, 3160, 5353, 7546, 3663, 840, 6733, 657, 2850, 5043, 7236, 5546, 530, 2723, 2540, 4733, 6926, 220, 2413, 4606, 6799, 723, 6616, 2103, 4296, 6489, 413, 2606, 1793, 3986, 6179, 103, 2296, 4489, 6682, 3676, 5869, 8062, 1986, 4179, 6372, 5559, 7752, 3869, 6062, 1046, 1549, 3742, 5752, 7945, 736, 2929, 1239, 3432, 5625, 7818, 1742, 7635, 4812, 929, 3122, 5315, 7508, 3625, 802, 6695, 619, 2812, 5005, 7198, 5508, 7701, 492, 2685, 4695, 6888, 7391, 182, 2375, 4568, 685, 6578, 2065, 4258, 6451, 375, 2568, 4761, 1755, 3948, 6141, 65, 2258, 4451, 6644, 3638, 5831, 8024, 1948, 4141, 6334, 1821, 7714, 3831, 6024, 1008, 1511, 3704, 5897, 5714, 7907, 2891, 1201, 3394, 5587, 7780, 1704, 7597, 4774, 891, 3084, 5277, 7470, 3587, 5780, 764, 2774, 4967, 7160, 5470, 7663, 454, 2647, 4657, 6850, 7353, 144, 2337, 4530, 647, 2840, 2027, 4220, 6413, 337, 2530, 4723, 6916, 3910, 6103, 27, 2220, 4413, 6606, 5793, 7986, 1910, 4103, 6296, 1783, 3976, 3793, 5986, 8179, 1473, 3666, 5859, 8052, 5676, 7869, 2853, 1163, 3356, 5549, 7742, 1666, 3859, 853, 3046, 5239, 7432, 1356, 3549, 5742, 7935, 2736, 4929, 7122, 3239, 5432, 7625, 416, 919, 6812, 5122, 7315, 106, 2299, 609, 2802, 4995, 7005, 1989, 4182, 6375, 299, 2492, 4685, 6878, 3872, 6065, 2182, 4375, 6568, 4878, 2055, 7948, 1872, 4065, 6258, 6761, 1745, 3938, 3755, 5948, 8141, 1435, 3628, 5821, 1938, 7831, 1125, 3318, 5511, 7704, 1628, 3821, 6014, 815, 3008, 5201, 7394, 1318, 3511, 5704, 7897, 4891, 7084, 3201, 5394, 7587, 378, 881, 3074, 5084, 7277, 68, 2261, 571, 2764, 4957, 7150, 6967, 1951, 4144, 261, 2454, 4647, 6840, 2957, 134, 6027, 2144, 4337, 6530, 4840, 7033, 2017, 1834, 4027]
def hL15 : List Nat := [6220, 6723, 1707, 3900, 17, 5910, 8103, 1397, 3590, 5783, 1900, 4093, 1087, 3280, 5473, 7666, 1590, 3783, 5976, 2970, 5163, 7356, 1280, 3473, 5666, 7859, 1153, 7046, 970, 3163, 5356, 7549, 340, 843, 3036, 5229, 5046, 7239, 30, 2223, 533, 2726, 4919, 7112, 1036, 6929, 4106, 223, 2416, 4609, 6802, 726, 2919, 5112, 2106, 4299, 6492, 2609, 4802, 6995, 3989, 6182, 4492, 6685, 1669, 3862, 2172, 8065, 1359, 3552, 5745, 1862, 4055, 6248, 1049, 3242, 5435, 7628, 1552, 3745, 5938, 8131, 5125, 7318, 1242, 3435, 5628, 7821, 6131, 1115, 3308, 932, 3125, 5318, 7511, 8014, 805, 2998, 5191, 5008, 7201, 495, 2688, 4881, 7074, 998, 3191, 185, 2378, 4571, 6764, 688, 2881, 5074, 2068, 4261, 6454, 2571, 4764, 6957, 251, 6144, 4454, 6647, 1631, 2134, 4327, 6337, 1321, 3514, 1824, 4017, 6210, 3204, 5397, 1514, 3707, 5900, 8093, 4210, 1387, 7280, 1204, 3397, 5590, 7783, 6093, 1077, 3270, 3087, 5280, 7473, 7976, 767, 2960, 5153, 1270, 7163, 457, 2650, 4843, 7036, 960, 3153, 147, 2340, 4533, 6726, 650, 2843, 5036, 7229, 4223, 6416, 2533, 4726, 6919, 213, 2406, 4416, 6609, 1593, 2096, 4289, 6299, 1283, 3476, 1786, 3979, 6172, 96, 2289, 8182, 5359, 1476, 3669, 5862, 8055, 1979, 4172, 1349, 7242, 1166, 3359, 5552, 7745, 6055, 1039, 3232, 5242, 7435, 7938, 729, 2922, 5115, 1232, 7125, 3425, 419, 2612, 4805, 6998, 922, 3115, 5308, 2302, 4495, 6688, 612, 2805, 4998, 7191, 485, 6378, 302, 2495, 4688, 6881, 175, 2368, 2185, 4378, 6571, 2058, 4251, 6444, 368, 6261, 1748, 3941, 6134, 58, 2251, 8144, 5321, 1438, 3631, 5824, 8017, 1941, 4134, 6327, 3321, 5514, 7707, 3824, 6017, 1001, 1504, 7397, 5707, 7900, 691, 2884, 1194, 3387, 7590, 381, 2574, 4767, 884, 3077, 5270, 7463, 4457, 6650, 574, 2767, 4960, 7153, 447, 6340, 264, 2457, 4650, 6843, 7346, 137, 2330, 4523, 4340, 6533, 2020, 4213, 6406, 330, 6223, 1710, 3903, 6096, 20, 2213, 4406, 1400, 3593, 5786, 7979, 1903, 4096, 6289, 5476, 7669, 3786, 5979, 8172, 963, 1466, 7359, 5669, 7862, 653, 2846, 1156, 3349, 5542, 7552, 2536, 4729, 846, 3039, 5232, 7425, 4419, 6612, 536, 2729, 4922, 7115, 5425, 409, 2602, 2419, 4612, 6805, 7308, 99, 2292, 4485, 4302, 602, 6495, 1982, 4175, 6368, 292, 2485, 1672, 3865, 6058, 2175, 4368, 6561, 3555, 5748, 7941, 1865, 4058, 6251, 5438, 7631, 1555, 3748, 5941, 8134, 1428, 3621, 3438, 5631, 7824, 615, 2808, 1118, 3311, 5504, 7697, 7514, 2498, 4691, 808, 3001, 5194, 7387, 1311, 3504, 6574, 498, 2691, 4884, 7077, 3194, 5387, 7580, 371, 2381, 4574, 6767, 5077, 7270, 61, 2254, 564, 6457, 6960, 1944, 4137, 6330, 254, 2447, 4640, 1634, 3827, 6020, 2137, 4330, 6523, 3517, 5710, 7903, 1827, 4020, 6213, 1700, 7593, 1517, 3710, 5903, 8096, 1390, 3583, 5776, 3400, 5593, 7786, 577, 1080, 3273, 5466, 7659, 1583, 7476, 770, 2963, 5156, 7349, 1273, 3466, 5659, 2653, 4846, 7039, 3156, 5349, 7542, 333, 4536, 6729, 5039, 7232, 23, 2216, 526, 2719, 6922, 1906, 4099, 216, 2409, 4602, 6795, 1596, 3789, 5982, 2099, 4292, 6485, 5672, 7865, 1789, 3982, 6175, 6678, 1662, 3855, 1479, 3672, 5865, 8058, 1352, 3545, 5738, 5555, 7748]
def hLs : List Nat := hL0 ++ hL1 ++ hL2 ++ hL3 ++ hL4 ++ hL5 ++ hL6 ++ hL7 ++ hL8 ++ hL9 ++ hL10 ++ hL11 ++ hL12 ++ hL13 ++ hL14 ++ hL15
/-- each next one is above, by more than hG, below the number of places, and v0 is in no gap -/
def hChain : Nat → List Nat → Bool
  | _, [] => true
  | lo, x :: r => Nat.ble lo (hC x) && Nat.blt x 8192 && Nat.ble (hC x + hG) 18446744073709551616 && (Nat.blt 15746002411462551884 (hC x) || Nat.ble (hC x + hG) 15746002411462551884) && hChain (hC x + hG) r
theorem hChain_ok : hChain 0 hLs = true := by decide +kernel
theorem hLs_len : hLs.length = 8192 := by decide +kernel
end DL
set_option Elab.async false
set_option linter.all false
set_option maxRecDepth 100000
set_option maxHeartbeats 2000000
/-! DH2: hashes of pairs of small numbers are unlike. -/
namespace DL
open PySem PySem.Spec
theorem hChain_mem : ∀ {l : List Nat} {lo : Nat}, hChain lo l = true → ∀ x ∈ l, lo ≤ hC x ∧ x < 8192 ∧ hC x + hG ≤ 18446744073709551616 ∧ (15746002411462551884 < hC x ∨ hC x + hG ≤ 15746002411462551884)
  | [], _, _, x, hx => absurd hx List.not_mem_nil
  | a :: r, lo, h, x, hx => by
    rw [hChain] at h
    simp only [Bool.and_eq_true, Bool.or_eq_true, Nat.ble_eq, Nat.blt_eq] at h
    obtain ⟨⟨⟨⟨h1, h2⟩, h3⟩, h4⟩, h5⟩ := h
    rcases List.mem_cons.mp hx with rfl | hx
    · exact ⟨h1, h2, h3, h4⟩
    · obtain ⟨z1, z2⟩ := hChain_mem h5 x hx
      exact ⟨by omega, z2⟩
theorem hChain_pw : ∀ {l : List Nat} {lo : Nat}, hChain lo l = true → l.Pairwise fun x y => hC x + hG ≤ hC y
  | [], _, _ => .nil
  | a :: r, lo, h => by
    rw [hChain] at h
    simp only [Bool.and_eq_true] at h
    exact List.pairwise_cons.mpr ⟨fun y hy => (hChain_mem h.2 y hy).1, hChain_pw h.2⟩
theorem pw_either {l : List Nat} (h : l.Pairwise fun x y => hC x + hG ≤ hC y) : ∀ x ∈ l, ∀ y ∈ l, x ≠ y → hC x + hG ≤ hC y ∨ hC y + hG ≤ hC x := by
  induction l with
  | nil => intro x hx; exact absurd hx List.not_mem_nil
  | cons a r ih =>
    intro x hx y hy ne
    have hp := List.pairwise_cons.mp h
    rcases List.mem_cons.mp hx with rfl | hx
    · rcases List.mem_cons.mp hy with rfl | hy
      · exact absurd rfl ne
      · exact .inl (hp.1 y hy)
    · rcases List.mem_cons.mp hy with e | hy
      · rw [e]; exact .inr (hp.1 x hx)
      · exact ih hp.2 x hx y hy ne
theorem sub_len : ∀ {l m : List Nat}, l.Nodup → (∀ x ∈ l, x ∈ m) → l.length ≤ m.length
  | [], _, _, _ => Nat.zero_le _
  | a :: r, m, hn, hs => by
    have hp := List.nodup_cons.mp hn
    have ha := hs a (List.mem_cons_self ..)
    have z := sub_len (l := r) (m := m.erase a) hp.2 fun x hx => (List.mem_erase_of_ne (fun e => hp.1 (by rw [← e]; exact hx))).mpr (hs x (List.mem_cons_of_mem _ hx))
    rw [List.length_erase_of_mem ha] at z
    have := List.length_pos_of_mem ha
    rw [List.length_cons]
    omega
theorem hLs_all {x : Nat} (hx : x < 8192) : x ∈ hLs := by
  by_cases h : x ∈ hLs
  · exact h
  · exfalso
    have hn : hLs.Nodup := by
      rw [List.nodup_iff_pairwise_ne]
      refine (hChain_pw hChain_ok).imp fun {a b} z e => ?_
      subst e
      unfold hG at z
      omega
    have z := sub_len (l := x :: hLs) (m := List.range 8192) (List.nodup_cons.mpr ⟨h, hn⟩) fun y hy => by
      rw [List.mem_range]
      rcases List.mem_cons.mp hy with rfl | hy
      · exact hx
      · exact (hChain_mem hChain_ok y hy).2.1
    rw [List.length_cons, hLs_len, List.length_range] at z
    omega
def hU (x y : Nat) : Nat := (hA x + y * 14029467366897019727) % 18446744073709551616
theorem hU_C (x y : Nat) : (hU x y * 839798700976720815) % 18446744073709551616 = (hC x + y) % 18446744073709551616 := by
  unfold hU hC
  generalize hA x = a
  omega
theorem hU_at {x y : Nat} (hx : x < 8192) (hy : y < 1099511627776) : (hU x y * 839798700976720815) % 18446744073709551616 = hC x + y := by
  have z := (hChain_mem hChain_ok x (hLs_all hx)).2.2.1
  unfold hG at z
  rw [hU_C, Nat.mod_eq_of_lt (by omega)]
theorem hU_inj {x y x' y' : Nat} (hx : x < 8192) (hy : y < 1099511627776) (hx' : x' < 8192) (hy' : y' < 1099511627776) (e : hU x y = hU x' y') : x = x' ∧ y = y' := by
  have z := hU_at hx hy
  rw [e, hU_at hx' hy'] at z
  by_cases h : x = x'
  · subst h; omega
  · have q := pw_either (hChain_pw hChain_ok) x (hLs_all hx) x' (hLs_all hx') h
    unfold hG at q
    omega
theorem hU_lt (x y : Nat) : hU x y < 18446744073709551616 := Nat.mod_lt _ (by decide)
theorem hU_no {x y : Nat} (hx : x < 8192) (hy : y < 1099511627776) : hU x y ≠ 9148689060682678900 := fun e => by
  have z := hU_at hx hy
  rw [e] at z
  have q := (hChain_mem hChain_ok x (hLs_all hx)).2.2.2
  unfold hG at q
  omega
/-- the number behind both lanes -/
def hB (x y : Nat) : Nat := ((hRot (hU x y) * 11400714785074694791) % 18446744073709551616 + 2870177450013471924) % 18446744073709551616
theorem hRot_lt {a : Nat} (h : a < 18446744073709551616) : hRot a < 18446744073709551616 := by unfold hRot; omega
theorem hRot_eq (a : Nat) : hRot a = (a % 8589934592) * 2147483648 + a / 8589934592 := by
  unfold hRot
  rw [show 18446744073709551616 = 8589934592 * 2147483648 from rfl, Nat.mul_mod_mul_right]
theorem hRot_inj {a b : Nat} (ha : a < 18446744073709551616) (hb : b < 18446744073709551616) (e : hRot a = hRot b) : a = b := by
  rw [hRot_eq, hRot_eq] at e
  have a1 : a / 8589934592 < 2147483648 := by omega
  have b1 : b / 8589934592 < 2147483648 := by omega
  have a2 := Nat.div_add_mod a 8589934592
  have b2 := Nat.div_add_mod b 8589934592
  generalize a / 8589934592 = a3 at *
  generalize a % 8589934592 = a4 at *
  generalize b / 8589934592 = b3 at *
  generalize b % 8589934592 = b4 at *
  have e1 : a4 = b4 := by omega
  have e2 : a3 = b3 := by omega
  subst e1 e2
  rw [← a2, ← b2]
theorem mul_back (c : Nat) : ((c * 11400714785074694791) % 18446744073709551616 * 614540362697595703) % 18446744073709551616 = c % 18446744073709551616 := by
  rw [Nat.mul_mod, Nat.mod_mod, ← Nat.mul_mod, Nat.mul_assoc, show 11400714785074694791 * 614540362697595703 = 1 + 18446744073709551616 * 379806830464837242 from rfl, Nat.mul_add, Nat.mul_one, Nat.mul_left_comm, Nat.add_mul_mod_self_left]
theorem mul_inj {a b : Nat} (ha : a < 18446744073709551616) (hb : b < 18446744073709551616) (e : (a * 11400714785074694791) % 18446744073709551616 = (b * 11400714785074694791) % 18446744073709551616) : a = b := by
  have z1 := mul_back a
  rw [e, mul_back b, Nat.mod_eq_of_lt ha, Nat.mod_eq_of_lt hb] at z1
  exact z1.symm
theorem add_mod_inj {a b k : Nat} (ha : a < 18446744073709551616) (hb : b < 18446744073709551616) (hk : k < 18446744073709551616) (e : (a + k) % 18446744073709551616 = (b + k) % 18446744073709551616) : a = b := by omega
theorem hB_inj {x y x' y' : Nat} (hx : x < 8192) (hy : y < 1099511627776) (hx' : x' < 8192) (hy' : y' < 1099511627776) (e : hB x y = hB x' y') : x = x' ∧ y = y' := by
  refine hU_inj hx hy hx' hy' (hRot_inj (hU_lt _ _) (hU_lt _ _) (mul_inj (hRot_lt (hU_lt _ _)) (hRot_lt (hU_lt _ _)) ?_))
  exact add_mod_inj (Nat.mod_lt _ (by decide)) (Nat.mod_lt _ (by decide)) (by decide) e
theorem hB_no {x y : Nat} (hx : x < 8192) (hy : y < 1099511627776) : hB x y ≠ 18446744073709551615 := fun e => by
  refine hU_no hx hy (hRot_inj (hU_lt _ _) (by decide) (mul_inj (hRot_lt (hU_lt _ _)) (hRot_lt (by decide)) ?_))
  have q : (hRot 9148689060682678900 * 11400714785074694791) % 18446744073709551616 = 15576566623696079691 := by decide +kernel
  rw [q]
  refine add_mod_inj (k := 2870177450013471924) (Nat.mod_lt _ (by decide)) (by decide) (by decide) ?_
  exact e
theorem hB_lt (x y : Nat) : hB x y < 18446744073709551616 := Nat.mod_lt _ (by decide)
def thG (m p1 p2 p5 q : Nat) (hashes : List Int) : Int :=
  let acc := hashes.foldl (init := p5) fun acc h =>
    let acc := (acc + (h % (m : Int)).toNat * p2) % m
    let acc := (acc * 2 ^ 31) % m + acc / 2 ^ 33
    (acc * p1) % m
  let acc := (acc + (hashes.length ^^^ (p5 ^^^ q))) % m
  if acc == m - 1 then 1546275796 else if acc < 2 ^ 63 then acc else (acc : Int) - m
theorem th0 (hs : List Int) : Builtin.Tuple.tupleHashOf hs = thG (2 ^ 64) 11400714785074694791 14029467366897019727 2870177450012600261 3527539 hs := by
  delta Builtin.Tuple.tupleHashOf thG
  exact rfl
def gStep (m p1 p2 : Nat) (acc : Nat) (h : Int) : Nat := (((acc + (h % (m : Int)).toNat * p2) % m * 2 ^ 31) % m + (acc + (h % (m : Int)).toNat * p2) % m / 2 ^ 33) * p1 % m
def gEnd (m : Nat) (acc : Nat) : Int := if acc == m - 1 then 1546275796 else if acc < 2 ^ 63 then acc else (acc : Int) - m
theorem th1 (m p1 p2 p5 q : Nat) (x y : Int) : thG m p1 p2 p5 q [x, y] = gEnd m ((gStep m p1 p2 (gStep m p1 p2 p5 x) y + (2 ^^^ (p5 ^^^ q))) % m) := by
  have e : ∀ (f : Nat → Int → Nat), List.foldl f p5 [x, y] = f (f p5 x) y := fun f => rfl
  unfold thG
  extract_lets a b
  have ea : a = gStep m p1 p2 (gStep m p1 p2 p5 x) y := e _
  have eb : b = (a + (2 ^^^ (p5 ^^^ q))) % m := rfl
  rw [eb, ea]
  delta gEnd
  rfl
theorem gStep_eq (acc : Nat) (x : Nat) (hx : x < 18446744073709551616) : gStep (2 ^ 64) 11400714785074694791 14029467366897019727 acc (x : Int) = (hRot ((acc + x * 14029467366897019727) % 18446744073709551616) * 11400714785074694791) % 18446744073709551616 := by
  have e : ((x : Int) % (((2 : Nat) ^ 64 : Nat) : Int)).toNat = x := by
    rw [show (((2 : Nat) ^ 64 : Nat) : Int) = 18446744073709551616 from rfl]; omega
  unfold gStep hRot
  rw [e]
theorem hgK : (2 ^^^ (2870177450012600261 ^^^ 3527539) : Nat) = 2870177450013471924 := by decide +kernel
theorem e64 : (2 : Nat) ^ 64 = 18446744073709551616 := rfl
theorem tuple_hash (x y : Nat) (hx : x < 18446744073709551616) (hy : y < 18446744073709551616) : Builtin.Tuple.tupleHashOf [(x : Int), (y : Int)] = gEnd (2 ^ 64) (hB x y) := by
  rw [th0, th1, gStep_eq _ _ hx, gStep_eq _ _ hy, hgK, e64]
  rfl
theorem gEnd_eq {a : Nat} (h : a ≠ 18446744073709551615) : gEnd (2 ^ 64) a = if a < 9223372036854775808 then (a : Int) else (a : Int) - 18446744073709551616 := by
  unfold gEnd
  rw [if_neg (by
    rw [e64]
    simpa using h)]
  rfl
theorem gEnd_inj {a b : Nat} (ha : a < 18446744073709551616) (hb : b < 18446744073709551616) (na : a ≠ 18446744073709551615) (nb : b ≠ 18446744073709551615) (e : gEnd (2 ^ 64) a = gEnd (2 ^ 64) b) : a = b := by
  rw [gEnd_eq na, gEnd_eq nb] at e
  split at e <;> split at e <;> omega
theorem reduce_gEnd {a : Nat} (ha : a < 18446744073709551616) (na : a ≠ 18446744073709551615) : reduceHash (gEnd (2 ^ 64) a) = gEnd (2 ^ 64) a := by
  have r : -9223372036854775808 ≤ gEnd (2 ^ 64) a ∧ gEnd (2 ^ 64) a < 9223372036854775808 ∧ gEnd (2 ^ 64) a ≠ -1 := by
    rw [gEnd_eq na]
    split <;> omega
  generalize gEnd (2 ^ 64) a = g at r
  unfold reduceHash
  rw [if_pos (by
    rw [Bool.and_eq_true, decide_eq_true_eq, decide_eq_true_eq]
    exact ⟨r.1, r.2.1⟩), if_neg (by simpa using r.2.2)]
/-- the hashes of two pairs of small numbers are alike only if the pairs are -/
theorem hash_pair {x y x' y' : Nat} (hx : x < 8192) (hy : y < 1099511627776) (hx' : x' < 8192) (hy' : y' < 1099511627776) (e : reduceHash (Builtin.Tuple.tupleHashOf [(x : Int), (y : Int)]) = reduceHash (Builtin.Tuple.tupleHashOf [(x' : Int), (y' : Int)])) : x = x' ∧ y = y' := by
  rw [tuple_hash x y (by omega) (by omega), tuple_hash x' y' (by omega) (by omega), reduce_gEnd (hB_lt _ _) (hB_no hx hy), reduce_gEnd (hB_lt _ _) (hB_no hx' hy')] at e
  exact hB_inj hx hy hx' hy' (gEnd_inj (hB_lt _ _) (hB_lt _ _) (hB_no hx hy) (hB_no hx' hy') e)
theorem hashInt_small {x : Nat} (h : x < 2305843009213693951) : hashInt (x : Int) = x := by
  have e : rawHash (x : Int) = x := by
    unfold rawHash
    simp only
    rw [if_neg (by omega : ¬ (x : Int) < 0)]
    have e2 : (((x : Int).natAbs : Int) % (((2 ^ 61 - 1 : Nat)) : Int)) = x := by
      rw [show (((2 ^ 61 - 1 : Nat)) : Int) = 2305843009213693951 from rfl]
      omega
    rw [e2, if_neg (by simp)]
  unfold hashInt
  rw [e, if_neg (by simp)]
end DL
set_option Elab.async false
set_option linter.all false
set_option maxRecDepth 100000
set_option maxHeartbeats 1000000
/-! DL34: dict(d): a copy. -/
namespace DL
open PySem PySem.Spec PyProof.Rows L2
/-- pairs of small numbers -/
def smallKey (k : List Key) : Prop := ∃ x y : Nat, k = [.inl (x : Int), .inl (y : Int)] ∧ x < 8192 ∧ y < 1099511627776
theorem smallKey.hash {prog : Program} {w : World} {k l : List Key} (hk : smallKey k) (hl : smallKey l) (e : (tupleKind (mixKind prog w)).hash k = (tupleKind (mixKind prog w)).hash l) : k = l := by
  obtain ⟨x, y, rfl, h1, h2⟩ := hk
  obtain ⟨x', y', rfl, h3, h4⟩ := hl
  have z : ∀ a b : Nat, a < 8192 → b < 1099511627776 → (tupleKind (mixKind prog w)).hash [.inl (a : Int), .inl (b : Int)] = reduceHash (Builtin.Tuple.tupleHashOf [(a : Int), (b : Int)]) := fun a b ha hb => by
    show reduceHash (Builtin.Tuple.tupleHashOf [hashInt a, hashInt b]) = _
    rw [hashInt_small (by omega), hashInt_small (by omega)]
  rw [z x y h1 h2, z x' y' h3 h4] at e
  obtain ⟨rfl, rfl⟩ := hash_pair h1 h2 h3 h4 e
  rfl
theorem upd_upd {H : Hp} {p : Addr} {o o' : HO} : upd (upd H p o) p o' = upd H p o' := by
  funext b
  by_cases h : b = p
  · subst h; rw [upd_same, upd_same]
  · rw [upd_ne h, upd_ne h, upd_ne h]
section
variable {X : Cx} {pns : List (Addr × Obj)} {σ : L2.St} {H : Hp} {s : Shared} {E : Value → Shared → Prop}
theorem d_copyT {a : Addr} {kvs : List (List Key × V)} {Q : Value → Shared → Prop} (hu : X.A.units + 64 < cLine) (I : Inv X pns σ H s) (e : Rd H a (.dT kvs)) (hs : ∀ p ∈ kvs, smallKey p.1)
    (h : ∀ p s', H p = none → Inv X pns σ (upd H p (.dT kvs)) s' → Q (.ref p) s') : wpAny (model X.prog X.w) X.A (call (.type "dict") [.ref a]) Q E s := by
  refine callType_codes (Q₁ := fun obj s₁ => obj = .ref s.heap.objs.size ∧ s₁ = { s with heap := s.heap.push { cls := .type "dict", data := .dict #[] } }) PySem.F.kt_called_dict (PySem.F.kt_typeCall_dict_1 _) PySem.F.entry_dict_init (kt_code_dict_new _ ⟨rfl, rfl⟩) ?_
  rintro obj s₁ ⟨rfl, rfl⟩
  have hn : H s.heap.objs.size = none := I.hok.fresh (Nat.le_refl _)
  generalize hD : s.heap.objs.size = D at hn
  generalize hs1 : ({ s with heap := s.heap.push { cls := .type "dict", data := .dict #[] } } : Shared) = s1
  have I1 : Inv X pns σ (upd H D (.dT [])) s1 := by
    rw [← hs1]
    refine I.laid (t' := s.toks) (fun b o z => Heap.get?_push_of_some _ z) (Nat.le_of_eq hD) ?_
    rw [← hD]
    exact dt_empty s.heap I.big
  have hne : a ≠ D := by
    rcases e with e | ⟨o, e⟩ <;> exact ne_of_none e hn
  have e1 : Rd (upd H D (.dT [])) a (.dT kvs) := by
    rcases e with e | ⟨o, e⟩
    · exact .inl (by rw [upd_ne hne]; exact e)
    · exact .inr ⟨o, by rw [upd_ne hne]; exact e⟩
  obtain ⟨_, hdS, xs0, r0, d0⟩ := dt_of I1.hok (kvs := []) upd_same
  cases r0
  obtain ⟨hl, haS, xs, rel, dm⟩ := dt_rd I1.hok e1
  have hxl : xs.length ≤ sizeLine := by rw [← Paired.length rel]; exact hl
  have keys : ∀ {l : List (List Key × V)} {m : List (List Key × Addr × Value)}, KT (upd H D (.dT [])) l m → (∀ p ∈ l, smallKey p.1) → ∀ x ∈ m, smallKey x.1 ∧ s1.TypeIs (.ref x.2.1) "tuple" := by
    intro l m r
    induction r with
    | nil => intro _ x hx; exact absurd hx List.not_mem_nil
    | @cons p q ps qs hq t ih =>
      intro hsm x hx
      rcases List.mem_cons.mp hx with rfl | hx
      · refine ⟨by rw [← hq.1]; exact hsm p (List.mem_cons_self ..), ?_⟩
        obtain ⟨_, its, rr, o, g1, g2, n, g3⟩ := (show ObjOk X.prog X.w _ s1.heap _ (.tup (p.1.map kV)) from I1.hok _ _ hq.2.1)
        exact ⟨o, g1, g2⟩
      · exact ih (fun p hp => hsm p (List.mem_cons_of_mem _ hp)) x hx
  have hk := keys rel hs
  have hnd : (xs.map (·.1)).Nodup := dm.nodup
  have hap : (xs.map fun x => (tupleKind (mixKind X.prog X.w)).hash x.1).Nodup := by
    rw [List.nodup_iff_pairwise_ne, List.pairwise_map] at hnd ⊢
    refine List.Pairwise.imp_of_mem (fun {x y} hx hy ne z => ne ?_) hnd
    exact smallKey.hash (hk x hx).1 (hk y hy).1 z
  refine ⟨d0.typeIs, PySem.F.args_dict_init_2 _ _, ?_⟩
  unfold Builtin.«dict.__init__»
  refine wpAny_bind ?_
  unfold Builtin.Dict.selfAndRest
  refine wpAny_bind (wpAny_notOrdered_dict d0.typeIs ?_)
  show wpAny _ _ (pure (D, [Value.ref a])) _ _ _
  refine wpAny_pure ?_
  show wpAny _ _ (Builtin.Dict.updateFrom "dict.__init__" D (.ref a) [] .none) _ _ _
  have fin := updateFrom_dictH (A := X.A.in1) (R := wants (fun r s₂ => r = .none ∧ Q (.ref D) s₂) E) (nm := "dict.__init__") .none (tupleKind_room_in1 (show X.A.units + 1 + 1 < cLine by omega)) (Ne.symm hne) haS d0 dm (.inr ⟨fun x hx => (hk x hx).2, hap⟩) (by rw [List.length_nil, Nat.zero_add]; exact hxl) fun h' dd' _ sb => ?_
  · exact fin
  · rw [storedAllH_nil_of_nodup xs hnd] at dd'
    obtain ⟨q, es, ep, hq, z2, z3, z4, _, z5⟩ := dd'
    have I2 := d_write (t' := s1.toks) (ob := .dT kvs) I1 (by rw [upd_same]; exact True.intro) sb ⟨q, hq⟩ ⟨hl, hdS, xs, rel.keeps fun c ys ec => by rw [upd_ne (ne_of ec (upd_same (H := H) (o := .dT [])) (fun z => nomatch z))]; exact ec, q, es, ep, hq, z2, z3, z4, z5⟩
    rw [upd_upd] at I2
    exact ⟨rfl, h D _ hn I2⟩
end
/-! ### a new thing of a built-in, of any make -/
def liftN2 (Z : Wz) (r : CD) : List V → Hp → VK → Prop := fun vs H Q => ∃ (Hf : Hp) (ds : List D) (k : D → Prop), Same Hf H ∧ VRpL Z Hf H ds vs ∧ r ds k ∧
  ∀ (l : Addr) (o : HO) (g : D), H l = none → OwnRp Z Hf (upd H l o) l g → k g → Q (.ref l) (upd H l o)
abbrev CallN2 (X : Cx) (Z : Wz) (f : Value) (r : CD) : Prop := CallR X f (liftN2 Z r)
theorem callN2_use {F : Fd} {σ : L2.St} {H : Hp} {r : CD} {t : TAD} {Q : VK} (h : liftO F (tCallD r t) σ H Q) : tCB (liftN2 F.Z.toWz r) (liftAB F t) σ H Q := by
  obtain ⟨Hf, env, c, Wd, Qd, S, x, ht, k⟩ := h
  refine ⟨Hf, env, c, Wd, _, S, x, ht, fun vs H1 Hf1 c1 ds S1 s1 k1 r1 q1 => ?_⟩
  refine ⟨Hf1, ds, _, S1.sub, r1.at S1, q1, fun l o g hl rp q2 => ?_⟩
  have f := S1.fresh hl
  exact k l _ Hf1 c1 g (S1.laid hl _) s1 (k1.trans (Keep.of (same_upd hl))) f (k1.upd hl (Keep.of (same_upd hl))) rp q2
section
variable {X : Cx} {F : Fd} {e : Expr} {es : List Expr} {pos p : Pos} {x : Str} {r : CD} {t : TAD}
theorem do_ty2 {T : String} (hc : CallN2 X F.Z.toWz (.type T) r) (hm : X.mg x = none) (hv : bootBuiltins x = some (.type T)) (ha : DAB X F (e :: es) t) (hg : Gl X x := by rfl) (hn : x ≠ "__name__" := by decide)
    (hdb : (x == ("__debug__" : Str)) = false := by decide) (he : starEach (e :: es) X.env = (false, eval e X.env) :: starEach es X.env := by rfl) (hpl : (backTo pos (starEach es X.env)).any (·.1) = false := by rfl) :
    DO X F (.Call (.Name x p) (e :: es) [] pos) (tCallD r t) := PE.imp (pe_callTy hc hg hm hv ha hn hdb he hpl) fun σ H Q h => callN2_use h
end
/-- a key that is a pair of small numbers -/
def smallD (d : D) : Prop := ∃ x y : Nat, d = .tup [.int x, .int y] ∧ x < 8192 ∧ y < 1099511627776
theorem smallD_key {k : List Key} (h : smallD (.tup (k.map kD))) : smallKey k := by
  obtain ⟨x, y, e, h1, h2⟩ := h
  have e2 : D.tup (k.map kD) = D.tup (([.inl (x : Int), .inl (y : Int)] : List Key).map kD) := e
  exact ⟨x, y, kT_inj _ _ e2, h1, h2⟩
/-- dict(d) -/
@[simp] def dictD : CD
  | [.dic t ks vs], k => (t = true → ∀ d ∈ ks, smallD d) ∧ k (.dic t ks vs)
  | _, _ => False
theorem call_dictD {X : Cx} {Z : Wz} (hu : X.A.units + 64 < cLine) : CallN2 X Z (.type "dict") dictD := by
  intro pins s σ H xs us Q I r h
  obtain ⟨Hf, ds, k, sub, hx, hr, kk⟩ := h
  unfold dictD at hr
  split at hr
  · rename_i t ks vs
    obtain ⟨x, rfl, hw⟩ := vrpL_1 hx
    obtain ⟨u, eu, rx⟩ := vals1 r
    subst eu
    cases t with
    | false =>
      obtain ⟨a, kvs, rfl, h1, h2, h3⟩ := vrp_dicK sub hw
      cases rx
      exact d_copyOf I h1 fun p s' hp I' => ⟨.ref p, _, I', rfl, kk p _ (.dic false ks vs) hp ⟨kvs, upd_same, h2, h3⟩ hr.2⟩
    | true =>
      obtain ⟨a, kvs, rfl, h1, h2, h3⟩ := vrp_dicT sub hw
      cases rx
      refine d_copyT hu I h1 (fun p hp => smallD_key (hr.1 rfl _ ?_)) fun p s' hp I' => ⟨.ref p, _, I', rfl, kk p _ (.dic true ks vs) hp ⟨kvs, upd_same, h2, h3⟩ hr.2⟩
      rw [h2]
      exact List.mem_map_of_mem hp
  · exact hr.elim
theorem boot_dict' : bootBuiltins "dict" = some (.type "dict") := by decide +kernel
end DL
set_option Elab.async false
set_option linter.all false
set_option maxRecDepth 100000
set_option maxHeartbeats 1000000
/-! DL35: dict([(k, v), ..]), keys tuples. -/
namespace DL
open PySem PySem.Spec PyProof.Rows L2
def mergeT (kvs more : List (List Key × V)) : List (List Key × V) := more.foldl (fun acc kv => putK acc kv.1 kv.2) kvs
theorem mergeT_len : ∀ (more kvs : List (List Key × V)), (mergeT kvs more).length ≤ kvs.length + more.length
  | [], kvs => Nat.le_refl _
  | p :: r, kvs => by
    have z := mergeT_len r (putK kvs p.1 p.2)
    have y := length_putK kvs p.1 p.2
    show (mergeT (putK kvs p.1 p.2) r).length ≤ _
    rw [List.length_cons]
    omega
/-- an item of the list: a tuple of a key that is a tuple, and a value -/
def PairT (H : Hp) (p : Addr) (kv : List Key × V) : Prop := ∃ kb : Addr, H p = some (.tup [.ref kb, kv.2]) ∧ H kb = some (.tup (kv.1.map kV))
theorem KT.merge {H : Hp} : ∀ {more : List (List Key × V)} {ps : List (List Key × Addr × Value)} {kvs : List (List Key × V)} {xs : List (List Key × Addr × Value)}, KT H more ps → KT H kvs xs → KT H (mergeT kvs more) (storedAllH xs ps) := by
  intro more ps kvs xs r
  induction r generalizing kvs xs with
  | nil => exact fun z => z
  | @cons p q ps qs h t ih =>
    intro z
    obtain ⟨h1, h2, h3⟩ := h
    have y := KT.put z p.1 (b := q.2.1) h2 h3
    rw [h1] at y
    have w := ih y
    show KT H (mergeT (putK kvs p.1 p.2) ps) (storedAllH (storedH xs q.1 q.2.1 q.2.2) qs)
    rw [h1]
    exact w
section
variable {X : Cx} {pns : List (Addr × Obj)} {σ : L2.St} {H : Hp} {s : Shared} {E : Value → Shared → Prop}
theorem pairsT_of (I : Inv X pns σ H s) : ∀ {ps : List Addr} {kvs : List (List Key × V)}, Paired (PairT H) ps kvs →
    ∃ xs : List (List Key × Addr × Value), KT H kvs xs ∧ xs.length = ps.length ∧ ∀ (j : Nat) (q : List Key × Addr × Value), xs[j]? = some q → ∃ b : Addr, ps[j]? = some b ∧ s.heap.IsTuple b #[.ref q.2.1, q.2.2]
  | _, _, .nil => ⟨[], .nil, rfl, fun j q e => by simp at e⟩
  | _, _, .cons (a := p) (b := kv) h t => by
    obtain ⟨xs, r, hl, hp⟩ := pairsT_of I t
    obtain ⟨kb, h1, h2⟩ := h
    obtain ⟨_, its, rv, o, g1, g2, n, g3⟩ := (show ObjOk X.prog X.w H s.heap p (.tup [.ref kb, kv.2]) from I.hok p _ h1)
    obtain ⟨u, y, ei, ru, ry⟩ := vals2 rv
    subst ei
    cases (show u = Value.ref kb from ru)
    refine ⟨(kv.1, kb, y) :: xs, .cons ⟨rfl, h2, ry⟩ r, by rw [List.length_cons, List.length_cons, hl], fun j q e => ?_⟩
    cases j with
    | zero =>
      cases Option.some.inj e
      exact ⟨p, rfl, o, g1, g2, n, g3⟩
    | succ j =>
      obtain ⟨b, e1, e2⟩ := hp j q (by simpa using e)
      exact ⟨b, by simpa using e1, e2⟩
theorem d_pairsT {a : Addr} {ps : List Addr} {kvs : List (List Key × V)} {Q : Value → Shared → Prop} (hu : X.A.units + 64 < cLine) (hh : X.A.handled = none) (I : Inv X pns σ H s) (e : SqL X.K H a (ps.map V.ref)) (hp : Paired (PairT H) ps kvs)
    (h : ∀ p s', H p = none → Inv X pns σ (upd H p (.dT (mergeT [] kvs))) s' → Q (.ref p) s') : wpAny (model X.prog X.w) X.A (call (.type "dict") [.ref a]) Q E s := by
  obtain ⟨its, rv, pl, hz⟩ := I.list e
  have ei := refs_at rv
  subst ei
  rw [List.length_map] at hz
  obtain ⟨xs, rel, hl, hpr⟩ := pairsT_of I hp
  obtain ⟨o, n, ho, hc, hd, hdat⟩ := pl
  have len : kvs.length = ps.length := by rw [Paired.length rel]; exact hl
  let prs : List (Value × Value) := xs.map fun q => (Value.ref q.2.1, q.2.2)
  have hprl : prs.length = xs.length := List.length_map ..
  have ok : PlainSeq "list" s.heap a (ps.map Value.ref).toArray ∧ PairItems s.heap (ps.map Value.ref).toArray (fun j => ps.getD j 0) prs := by
    refine ⟨⟨o, n, ho, hc, hd, hdat⟩, by rw [hprl, hl]; simp, fun j k v hj => ?_⟩
    rw [List.getElem?_map] at hj
    cases q : xs[j]? with
    | none => rw [q] at hj; cases hj
    | some x =>
      rw [q] at hj
      cases hj
      obtain ⟨b, e1, e2⟩ := hpr j x q
      have e3 : ps.getD j 0 = b := by rw [List.getD_eq_getElem?_getD, e1]; rfl
      refine ⟨?_, ?_⟩
      · simp [e1]
      · show PairAt s.heap (ps.getD j 0) _ _
        rw [e3]
        exact .inl e2
  have hkeys : ∀ x ∈ xs, (tupleKind (mixKind X.prog X.w)).is s.heap x.1 x.2.1 := by
    have all : ∀ {l : List (List Key × V)} {m : List (List Key × Addr × Value)}, KT H l m → ∀ x ∈ m, (tupleKind (mixKind X.prog X.w)).is s.heap x.1 x.2.1 := by
      intro l m r
      induction r with
      | nil => intro x hx; exact absurd hx List.not_mem_nil
      | @cons p q ps qs hq t ih =>
        intro x hx
        rcases List.mem_cons.mp hx with e | hx
        · subst e
          exact key_of I.hok (by rw [← hq.1]; exact hq.2.1)
        · exact ih x hx
    exact all rel
  refine PySem.call_dict_pairsH (knd := tupleKind (mixKind X.prog X.w)) (ps := xs) (PairArg.list a (ps.map Value.ref).toArray (fun j => ps.getD j 0) prs) hh (show X.A.units + 1 + 1 < cLine by omega) ok ⟨hprl.symm, fun i key v hr => ?_⟩ (fun h' hk x hx => ?_) (by rw [hprl, hl]; exact hz) fun h' tk hd' k => ?_
  · have hr : prs[i]? = some (key, v) := hr
    rw [List.getElem?_map] at hr
    cases q : xs[i]? with
    | none => rw [q] at hr; cases hr
    | some x =>
      rw [q] at hr
      cases hr
      exact ⟨x.1, x.2.1, rfl, rfl⟩
  · obtain ⟨ob, it, m, g1, g2, g3, g4⟩ := hkeys x hx
    exact ⟨ob, it, m, hk _ _ (Nat.ne_of_lt (Heap.lt_size g1)) List.not_mem_nil g1, g2, g3, g4⟩
  · have hm : (s.heap.objs.size == sysModules) = false := beq_eq_false_iff_ne.mpr (Nat.ne_of_gt I.big)
    have hn : H s.heap.objs.size = none := I.hok.fresh (Nat.le_refl _)
    have hlen : (mergeT [] kvs).length ≤ sizeLine := by
      have z := mergeT_len kvs []
      rw [List.length_nil, Nat.zero_add, len] at z
      omega
    obtain ⟨q, es, ep, hq, z2, z3, z4, _, z5⟩ := hd'
    refine h _ _ hn (I.laid (t' := tk) (fun b oc z => k b oc List.not_mem_nil z) (Nat.le_refl _) ⟨hlen, hm, _, (KT.merge rel (.nil)).keeps fun c ys ec => ?_, q, es, ep, hq, z2, z3, z4, z5⟩)
    rw [upd_ne (ne_of_none ec hn)]
    exact ec
end
/-! ### over trees -/
/-- pairs put one behind another -/
noncomputable def mrg : List D → List D → List (D × D) → List D × List D
  | ks, vs, [] => (ks, vs)
  | ks, vs, p :: r => mrg (putKs ks p.1) (putVs ks vs p.1 p.2) r
theorem mrg_rel {Z : Wz} {H : Hp} : ∀ {ps : List (D × D)} {more kvs : List (List Key × V)} {vs : List D}, Paired (fun (p : D × D) (kv : List Key × V) => p.1 = D.tup (kv.1.map kD) ∧ Rp Z H p.2 kv.2) ps more →
    RpL Z H vs (kvs.map (fun p => p.2)) → (mrg (kvs.map fun p => D.tup (p.1.map kD)) vs ps).1 = (mergeT kvs more).map (fun p => D.tup (p.1.map kD)) ∧ RpL Z H (mrg (kvs.map fun p => D.tup (p.1.map kD)) vs ps).2 ((mergeT kvs more).map (fun p => p.2)) := by
  intro ps more kvs vs r
  induction r generalizing kvs vs with
  | nil => exact fun z => ⟨rfl, z⟩
  | @cons p q ps qs h t ih =>
    intro z
    obtain ⟨h1, h2⟩ := h
    have y := put_vs (f := fun k => D.tup (k.map kD)) kT_inj q.1 h2 z
    have y2 := put_ks (f := fun k => D.tup (k.map kD)) kT_inj q.1 q.2 kvs
    have w := ih (kvs := putK kvs q.1 q.2) y
    rw [y2] at w
    show (mrg (putKs _ p.1) (putVs _ vs p.1 p.2) ps).1 = (mergeT (putK kvs q.1 q.2) qs).map _ ∧ RpL Z H (mrg (putKs _ p.1) (putVs _ vs p.1 p.2) ps).2 ((mergeT (putK kvs q.1 q.2) qs).map _)
    rw [h1]
    exact w
/-- dict(d), dict([(k, v), ..]) -/
@[simp] def dict1D : CD
  | [.dic t ks vs], k => (t = true → ∀ d ∈ ks, smallD d) ∧ k (.dic t ks vs)
  | [.lst ds], k => ∃ ps : List (D × D), ds = ps.map (fun p => D.tup [p.1, p.2]) ∧ (∀ p ∈ ps, keyFits true p.1) ∧ k (.dic true (mrg [] [] ps).1 (mrg [] [] ps).2)
  | _, _ => False
theorem items_rel {Z : Wz} {Hf H : Hp} (sub : Same Hf H) : ∀ {ps : List (D × D)} {vs : List V}, RpL Z Hf (ps.map fun p => D.tup [p.1, p.2]) vs → (∀ p ∈ ps, keyFits true p.1) →
    ∃ (as : List Addr) (kvs : List (List Key × V)), vs = as.map V.ref ∧ Paired (PairT H) as kvs ∧ Paired (fun (p : D × D) (kv : List Key × V) => p.1 = D.tup (kv.1.map kD) ∧ Rp Z Hf p.2 kv.2) ps kvs
  | [], vs, r, _ => ⟨[], [], rpL_nil.mp r, .nil, .nil⟩
  | p :: ps, vs, r, hk => by
    rw [List.map_cons] at r
    obtain ⟨v, rest, rfl, h1, h2⟩ := rpL_cons.mp r
    obtain ⟨as, kvs, rfl, e2, e3⟩ := items_rel sub h2 fun q hq => hk q (List.mem_cons_of_mem _ hq)
    obtain ⟨a, ws, rfl, g1, g2⟩ := rp_tup.mp h1
    obtain ⟨x, r1, rfl, x1, g3⟩ := rpL_cons.mp g2
    obtain ⟨y, r2, rfl, y1, g4⟩ := rpL_cons.mp g3
    cases rpL_nil.mp g4
    have hf := hk p (List.mem_cons_self ..)
    obtain ⟨k, w⟩ := p
    cases k with
    | tup es =>
      obtain ⟨q, hq⟩ := hf
      obtain rfl := kDs_of hq
      obtain ⟨b, us, rfl, z1, z2⟩ := rp_tup.mp x1
      obtain rfl := rpL_kD z2
      exact ⟨a :: as, (q, y) :: kvs, rfl, .cons ⟨b, sub _ _ g1, sub _ _ z1⟩ e2, .cons ⟨rfl, y1⟩ e3⟩
    | _ => exact hf.elim
theorem call_dict1D {X : Cx} {Z : Wz} (hc : X.calm = true) (hu : X.A.units + 64 < cLine) (hK : Z.K = X.K := by rfl) : CallN2 X Z (.type "dict") dict1D := by
  intro pins s σ H xs us Q I r h
  obtain ⟨Hf, ds, k, sub, hx, hr, kk⟩ := h
  unfold dict1D at hr
  split at hr
  · exact call_dictD hu pins s σ H xs us Q I r ⟨Hf, _, k, sub, hx, hr, kk⟩
  · rename_i ds
    obtain ⟨x, rfl, hw⟩ := vrpL_1 hx
    obtain ⟨ps, rfl, hf, hr⟩ := hr
    obtain ⟨a, vs, rfl, h1, r1⟩ := vrp_lst sub hw
    obtain ⟨as, kvs, rfl, e1, e2⟩ := items_rel sub r1 hf
    obtain ⟨u, eu, rx⟩ := vals1 r
    subst eu
    cases rx
    have m := mrg_rel (Z := Z) (H := Hf) (kvs := []) e2 RpL.nil
    exact d_pairsT hu (I.ok.hd hc) I (SqL.of h1) e1 fun p s' hp I' => ⟨.ref p, _, I', rfl, kk p _ (.dic true _ _) hp ⟨mergeT [] kvs, upd_same, m.1, m.2⟩ hr⟩
  · exact hr.elim
end DL
set_option Elab.async false
set_option linter.all false
set_option maxRecDepth 100000
set_option maxHeartbeats 1000000
/-! DL36: sorted(d), the keys pairs of ints. -/
namespace DL
open PySem PySem.Spec PyProof.Rows L2
/-- the pair that stands at an address -/
def pairAt (H : Hp) : Value → Int × Int
  | .ref t => match H t with
    | some (.tup [.int i, .int j]) => (i, j)
    | _ => (0, 0)
  | _ => (0, 0)
theorem pairAt_ref {H : Hp} {t : Addr} {i j : Int} (h : H t = some (.tup [.int i, .int j])) : pairAt H (.ref t) = (i, j) := by
  show (match H t with
    | some (.tup [.int i, .int j]) => (i, j)
    | _ => (0, 0)) = _
  rw [h]
def kPair : List Key → Int × Int
  | [.inl i, .inl j] => (i, j)
  | _ => (0, 0)
section
variable {X : Cx} {pns : List (Addr × Obj)} {σ : L2.St} {H : Hp} {s : Shared} {E : Value → Shared → Prop}
theorem d_sortedT {a : Addr} {kvs : List (List Key × V)} {Q : Value → Shared → Prop} (hc : X.calm = true) (I : Inv X pns σ H s) (e : Rd H a (.dT kvs)) (hk : ∀ p ∈ kvs, ∃ i j : Int, p.1 = [.inl i, .inl j])
    (h : ∀ (p : Addr) (L : List (Addr × (Int × Int))) (s' : Shared), H p = none → (∀ x ∈ L, H x.1 = some (.tup [.int x.2.1, .int x.2.2])) → (L.map (·.2)).Perm (kvs.map fun p => kPair p.1) → (L.map (·.2)).Pairwise (fun a b => SrtO.lexB b a = false) →
      Inv X pns σ (upd H p (.lst (L.map fun x => V.ref x.1))) s' → Q (.ref p) s') : wpAny (model X.prog X.w) X.A (call (.builtin "sorted") [.ref a]) Q E s := by
  obtain ⟨z, lo, xs, rel, o, es, ep, ho, hcl, hdat, hes, _, _⟩ := dt_rd I.hok e
  have xl : xs.length = kvs.length := (Paired.length rel).symm
  have esz : es.size = xs.length := by rw [← Array.length_toList, hes, List.length_map]
  -- each key's pair
  have facts : ∀ {l : List (List Key × V)} {m : List (List Key × Addr × Value)}, KT H l m → (∀ p ∈ l, ∃ i j : Int, p.1 = [.inl i, .inl j]) → (∀ x ∈ m, H x.2.1 = some (.tup [.int (kPair x.1).1, .int (kPair x.1).2])) ∧ m.map (fun x => kPair x.1) = l.map fun p => kPair p.1 := by
    intro l m r
    induction r with
    | nil => intro _; exact ⟨fun x hx => absurd hx List.not_mem_nil, rfl⟩
    | @cons p q ps qs hq t ih =>
      intro hp
      obtain ⟨i1, i2⟩ := ih fun p m => hp p (List.mem_cons_of_mem _ m)
      obtain ⟨i, j, ep⟩ := hp p (List.mem_cons_self ..)
      refine ⟨fun x hx => ?_, by rw [List.map_cons, List.map_cons, i2, hq.1]⟩
      rcases List.mem_cons.mp hx with rfl | hx
      · rw [← hq.1, ep]
        have w := hq.2.1
        rw [ep] at w
        exact w
      · exact i1 x hx
  obtain ⟨f1, f2⟩ := facts rel hk
  refine Calls.call_function_entry PyProof.Rows.kind_sorted PyProof.Rows.plain_sorted PyProof.Rows.entry_sorted (PyProof.Rows.args_sorted1 _) ?_
  unfold Builtin.«sorted»
  refine wpAny_bind (m := checkCount "sorted" 1 1 _) (wpAny_pure ?_)
  refine wpAny_bind (PySem.W.kdu_collect (A := X.A.in1) (KdlSrc.rawDict (prog := X.prog) (w := X.w) (es := es) (ep := ep) lo) (I.ok.hd hc) ⟨o, ho, hcl, hdat⟩ (by rw [esz, xl]; exact z) fun h' tk acc hkp hacc => ?_)
  have eacc : acc.toList = xs.map fun x => Value.ref x.2.1 := by
    refine List.ext_getElem? fun j => ?_
    rw [List.getElem?_map]
    by_cases hj : j < xs.length
    · have hja : j < acc.size := by rw [hacc.1, esz]; exact hj
      obtain ⟨hi, ev⟩ := hacc.2 j acc[j] (Array.getElem?_eq_getElem hja)
      have e1 : es[j].key = Value.ref (xs[j]).2.1 := by
        have w : es.toList[j]? = some es[j] := by rw [Array.getElem?_toList]; exact Array.getElem?_eq_getElem hi
        rw [hes, List.getElem?_map, List.getElem?_eq_getElem hj] at w
        rw [← Option.some.inj w]
        rfl
      rw [Array.getElem?_toList, Array.getElem?_eq_getElem hja, ev, e1, List.getElem?_eq_getElem hj]
      rfl
    · rw [List.getElem?_eq_none (by rw [Array.length_toList, hacc.1, esz]; omega), List.getElem?_eq_none (by omega)]
      rfl
  have I1 : Inv X pns σ H { s with heap := h', toks := tk } := I.kept hkp
  have vlen : acc.toList.length = xs.length := by rw [eacc, List.length_map]
  have vsz : acc.toList.length ≤ sizeLine := by rw [vlen, xl]; exact z
  generalize acc.toList = ws at eacc vlen vsz
  refine wpAny_bind (wpAny_newList ?_ vsz)
  have hoL : (h'.push (seqObj "list" ws.toArray 0)).get? h'.objs.size = some (seqObj "list" ws.toArray 0) := Heap.get?_push_size _ rfl
  show wpAny _ _ _ _ _ { s with heap := h'.push (seqObj "list" ws.toArray 0), toks := tk }
  have prs : ∀ v ∈ ws, ∃ t : Addr, v = .ref t ∧ H t = some (.tup [.int (pairAt H v).1, .int (pairAt H v).2]) := fun v hv => by
    rw [eacc] at hv
    obtain ⟨x, hx, rfl⟩ := List.mem_map.mp hv
    have w := f1 x hx
    refine ⟨x.2.1, rfl, ?_⟩
    have e3 : pairAt H (.ref x.2.1) = kPair x.1 := pairAt_ref w
    rw [e3]
    exact w
  have isP : ∀ v ∈ ws, Srt.IsPair (h'.push (seqObj "list" ws.toArray 0)) v (pairAt H v).1 (pairAt H v).2 := fun v hv => by
    obtain ⟨t, rfl, w⟩ := prs v hv
    obtain ⟨_, its, r2, ob, g1, g2, n, g3⟩ := (show ObjOk X.prog X.w H h' t (.tup [.int (pairAt H (.ref t)).1, .int (pairAt H (.ref t)).2]) from I1.hok _ _ w)
    obtain ⟨u1, u2, rfl, ri, rj⟩ := vals2 r2
    obtain ⟨t1, rfl⟩ := ri
    obtain ⟨t2, rfl⟩ := rj
    exact ⟨t, ob, t1, t2, n, rfl, Heap.get?_push_of_some _ g1, g2, g3⟩
  refine wpAny_bind (wpAny_holding (wpAny_call_entry PyProof.Rows.slot_list_sort ⟨_, hoL, rfl⟩ PyProof.Rows.entry_list_sort
    (SrtO.list_sort_ord (s := { s with heap := h'.push (seqObj "list" ws.toArray 0), toks := tk }) (SrtO.swo_lex (pairAt H)) hoL vsz (fun h2 => SrtO.pairs_sortableO (k := pairAt H) (by omega) isP fun ob eo => by
      have e' : some ob = some (seqObj "list" ws.toArray 0) := eo.symm.trans hoL
      cases e'
      intro c
      exact absurd (Value.type.inj c) (by decide)) fun out hs hb => ⟨_, rfl, ?_⟩) (PyProof.Rows.args_list_sort _)))
  obtain ⟨e', he'⟩ := PyProof.Rows.sortedHeap_at (vs := ws) (out := out.toArray) hoL
  have pm := hb.perm
  have refs : ∀ v ∈ out, ∃ t : Addr, v = .ref t ∧ H t = some (.tup [.int (pairAt H v).1, .int (pairAt H v).2]) := fun v hv => prs v (pm.mem_iff.mp hv)
  let adr : Value → Addr := fun v => match v with | .ref t => t | _ => 0
  let L : List (Addr × (Int × Int)) := out.map fun v => (adr v, pairAt H v)
  have eL : (L.map fun x => V.ref x.1) = out.map backV := by
    rw [List.map_map]
    refine List.map_congr_left fun v hv => ?_
    obtain ⟨t, rfl, _⟩ := refs v hv
    rfl
  have e2 : L.map (·.2) = out.map (pairAt H) := by rw [List.map_map]; rfl
  have e4 : ws.map (pairAt H) = kvs.map fun p => kPair p.1 := by
    rw [← f2, eacc, List.map_map]
    refine List.map_congr_left fun x hx => ?_
    exact pairAt_ref (f1 x hx)
  refine wpAny_pure ⟨_, rfl, h h'.objs.size L _ (I1.hok.fresh (Nat.le_refl _)) (fun x hx => ?_) ?_ ?_ (I1.laid (t' := tk) (fun b u q => ?_) (Nat.le_refl _) ⟨?_, out, e', ?_, he'⟩)⟩
  · obtain ⟨v, hv, rfl⟩ := List.mem_map.mp hx
    obtain ⟨t, rfl, w⟩ := refs v hv
    exact w
  · rw [e2, ← e4]
    exact pm.map _
  · rw [e2, List.pairwise_map]
    exact hs
  · have hb : b < h'.objs.size := Heap.lt_size q
    rw [PyProof.Rows.sortedHeap_old (Nat.ne_of_lt hb) (by rw [size_push']; exact Nat.lt_succ_of_lt hb)]
    exact Heap.get?_push_of_some _ q
  · rw [List.length_map, List.length_map, pm.length_eq]
    exact vsz
  · rw [eL]
    exact vals_back fun v hv => let ⟨t, e, _⟩ := refs v hv; ⟨t, e⟩
end
end DL
set_option Elab.async false
set_option linter.all false
set_option maxRecDepth 100000
set_option maxHeartbeats 1000000
/-! DL37: sorted over trees; max of ints, with a default. -/
namespace DL
open PySem PySem.Spec PyProof.Rows L2
theorem take_all {Hf H : Hp} (s : Same Hf H) : ∀ (L : List (Addr × (Int × Int))), (∀ x ∈ L, H x.1 = some (.tup [.int x.2.1, .int x.2.2])) → ∃ Hf', Grow Hf H Hf' H ∧ ∀ x ∈ L, Hf' x.1 = some (.tup [.int x.2.1, .int x.2.2])
  | [], _ => ⟨Hf, Grow.refl s, fun x hx => absurd hx List.not_mem_nil⟩
  | y :: L, h => by
    obtain ⟨Hf1, g, a⟩ := take_all s L fun x hx => h x (List.mem_cons_of_mem _ hx)
    have hy := h y (List.mem_cons_self ..)
    have g2 := Grow.take g.sub hy
    refine ⟨_, g.trans g2, fun x hx => ?_⟩
    rcases List.mem_cons.mp hx with rfl | hx
    · exact upd_same
    · exact g2.hf _ _ (a x hx)
theorem rpL_pairs {Z : Wz} {Hf : Hp} : ∀ {L : List (Addr × (Int × Int))}, (∀ x ∈ L, Hf x.1 = some (.tup [.int x.2.1, .int x.2.2])) → RpL Z Hf ((L.map (·.2)).map pD) (L.map fun x => V.ref x.1)
  | [], _ => RpL.nil
  | y :: L, h => RpL.cons (rp_tup.mpr ⟨y.1, _, rfl, h y (List.mem_cons_self ..), RpL.cons (rp_int.mpr rfl) (RpL.cons (rp_int.mpr rfl) RpL.nil)⟩) (rpL_pairs fun x hx => h x (List.mem_cons_of_mem _ hx))
theorem pD_key {ks : List (List Key)} : ∀ {ps : List (Int × Int)}, ks.map (fun k => D.tup (k.map kD)) = ps.map pD → (∀ k ∈ ks, ∃ i j : Int, k = [.inl i, .inl j]) ∧ ks.map kPair = ps := by
  induction ks with
  | nil =>
    intro ps h
    cases ps with
    | nil => exact ⟨fun k hk => absurd hk List.not_mem_nil, rfl⟩
    | cons _ _ => cases h
  | cons k r ih =>
    intro ps h
    cases ps with
    | nil => cases h
    | cons q ps =>
      rw [List.map_cons, List.map_cons] at h
      injection h with h1 h2
      obtain ⟨i1, i2⟩ := ih h2
      have e : k = [.inl q.1, .inl q.2] := kT_inj _ _ (show D.tup (k.map kD) = D.tup (([.inl q.1, .inl q.2] : List Key).map kD) from h1)
      subst e
      refine ⟨fun k hk => ?_, by rw [List.map_cons, i2]; rfl⟩
      rcases List.mem_cons.mp hk with rfl | hk
      · exact ⟨_, _, rfl⟩
      · exact i1 k hk
/-- sorted(l), sorted(d): pairs of ints, or ints -/
@[simp] def sort2D : CD
  | [.lst ds], k => (∃ ps, ds = ps.map pD ∧ ∀ qs : List (Int × Int), qs.Perm ps → qs.Pairwise (fun a b => SrtO.lexB b a = false) → k (.lst (qs.map pD))) ∨
    ∃ ns : List Int, ds = ns.map .int ∧ ∀ ms : List Int, ms.Perm ns → ms.Pairwise (· ≤ ·) → k (.lst (ms.map .int))
  | [.dic true ks _], k => ∃ ps, ks = ps.map pD ∧ ∀ qs : List (Int × Int), qs.Perm ps → qs.Pairwise (fun a b => SrtO.lexB b a = false) → k (.lst (qs.map pD))
  | _, _ => False
theorem call_sort2D {X : Cx} {Z : Wz} (hc : X.calm = true) (hK : Z.K = X.K := by rfl) : CallD X Z (.builtin "sorted") sort2D := by
  intro pins s σ H xs us Q I r h
  obtain ⟨Hf, ds, k, sub, hx, hr, kk⟩ := h
  unfold sort2D at hr
  split at hr
  · exact call_sortedD' hK pins s σ H xs us Q I r ⟨Hf, _, k, sub, hx, hr, fun l zs es hl rp q => by
      obtain ⟨g, r2⟩ := new_lst sub hl rp
      exact kk _ _ _ _ g r2 q⟩
  · rename_i ks vs
    obtain ⟨x, rfl, hw⟩ := vrpL_1 hx
    obtain ⟨ps, eks, hr⟩ := hr
    obtain ⟨a, kvs, rfl, h1, h2, h3⟩ := vrp_dicT sub hw
    obtain ⟨u, eu, rx⟩ := vals1 r
    subst eu
    cases rx
    obtain ⟨k1, k2⟩ := pD_key (ks := kvs.map (·.1)) (ps := ps) (by rw [List.map_map, ← eks, h2]; rfl)
    refine d_sortedT hc I h1 (fun p hp => k1 _ (List.mem_map_of_mem hp)) fun p L s' hp hL pm so I' => ?_
    obtain ⟨Hf', g, a'⟩ := take_all sub L hL
    obtain ⟨g2, r2⟩ := new_lst (Z := Z) g.sub hp (rpL_pairs a')
    refine ⟨.ref p, _, I', rfl, kk _ _ _ _ (g.trans g2) r2 (hr _ ?_ so)⟩
    rw [List.map_map] at k2
    rw [← k2]
    exact pm
  · exact hr.elim
/-- max(l) of ints -/
@[simp] def max1D : CD
  | [.lst ds], k => ∃ ns : List Int, ds = ns.map .int ∧ 0 < ns.length ∧ ∀ m, m ∈ ns → (∀ y, y ∈ ns → y ≤ m) → k (.int m)
  | _, _ => False
theorem call_max1D {X : Cx} {Z : Wz} (hc : X.calm = true) : CallD X Z (.builtin "max") max1D := by
  intro pins s σ H xs us Q I r h
  obtain ⟨Hf, ds, k, sub, hx, hr, kk⟩ := h
  unfold max1D at hr
  split at hr
  · obtain ⟨x, rfl, hw⟩ := vrpL_1 hx
    obtain ⟨ns, rfl, hp, hr⟩ := hr
    obtain ⟨a, vs, rfl, h1, r1⟩ := vrp_lst sub hw
    have e := rpL_ints r1
    subst e
    exact cr_max hc pins s σ H _ us Q I r ⟨a, ns, rfl, SqL.of h1, hp, fun m m1 m2 => kk _ H Hf _ (Grow.refl sub) (rp_int.mpr rfl) (hr m m1 m2)⟩
  · exact hr.elim
end DL
set_option Elab.async false
set_option linter.all false
set_option maxRecDepth 100000
set_option maxHeartbeats 1000000
/-! DL38: lambdas as values: made, kept in a list, called in _law_caught. -/
namespace DL
open PySem PySem.Spec PyProof.Rows L2
/-- the function object of a lambda at f, its code object at c -/
def FnO (q : Str) (params : Arguments) (body : Expr) (scope : Scope) (cl : List (Str × Addr)) (f c : Addr) : HO := .ext fun h => ∃ m z : Value, h.get? f = some (PySem.W.kla_obj "<lambda>" q params body scope cl m c z)
theorem fnO_new {P : Program} {w : World} {H : Hp} {h : Heap} {q : Str} {params : Arguments} {body : Expr} {scope : Scope} {cl : List (Str × Addr)} {f c : Addr} {m z : Value} (e : h.get? f = some (PySem.W.kla_obj "<lambda>" q params body scope cl m c z)) : ObjOk P w H h f (FnO q params body scope cl f c) :=
  ⟨⟨m, z, e⟩, ⟨_, e⟩, fun _ _ ⟨m, z, e⟩ k => ⟨m, z, k _ e⟩⟩
section
variable {X : Cx} {pins : List (Addr × Obj)} {σ : L2.St} {H : Hp} {s : Shared}
/-- the lambda is made; its object is in sight -/
theorem lam_seen {T : List (Addr × Str)} {c P : Addr} {params : Arguments} {body : Expr} {scope : Scope} {pos : Pos} {E R : Value → Shared → Prop} (I : Inv X pins σ H s) (TB : LamX.TabB X.base X.mg c P) (hcode : X.env.code = .ref c)
    (hm : (P, X.env.qual ++ "<lambda>") ∈ T) (hu : ∀ p ∈ T, p.1 = P → p.2 = X.env.qual ++ "<lambda>") (hT : LamX.Tabs T H) (hdef : defaultsOf params X.env = ([], [])) (hfree : ∀ y ∈ scope.names, y.2 = .free → ∃ c, X.env.cells.lookup y.1 = some c)
    (go : ∀ (f d : Addr) (G : Hp) (s' : Shared), Inv X pins σ (upd G f (FnO (X.env.qual ++ "<lambda>") params body scope (cloFrom X.env.cells scope.names []) f d)) s' → LamX.ExtN H G → LamX.Tabs T G → G f = none → G d = some (LamX.CodeO d (X.env.qual ++ "<lambda>")) → R (.ref f) s') :
    wpAny (model X.prog X.w) X.A (eval (.Lambda params body scope pos) X.env) R E s := by
  obtain ⟨ps, hP, okP, among⟩ := hT _ hm
  apply PySem.W.kla_eval hdef
  have objP : s.heap.get? P = some { cls := .none, data := .fields ps } := I.hok P _ hP
  have glob := I.mod.glob.keeps I.bk
  have hd := TB.code.keeps I.bk
  have bm : s.heap.BuiltinsAt X.mg P := TB.bm.keeps I.bk
  -- what comes of any way that the object is laid behind the heap g
  have fin : ∀ (g : Heap) (G : Hp) (d : Addr) (m z : Value) (tk : Tok), s.heap.objs.size ≤ g.objs.size → Inv X pins σ G { s with heap := g.push (PySem.W.kla_obj "<lambda>" (X.env.qual ++ "<lambda>") params body scope (cloFrom X.env.cells scope.names []) m d z), toks := tk } → LamX.ExtN H G → LamX.Tabs T G → G g.objs.size = none →
      G d = some (LamX.CodeO d (X.env.qual ++ "<lambda>")) → R (.ref g.objs.size) { s with heap := g.push (PySem.W.kla_obj "<lambda>" (X.env.qual ++ "<lambda>") params body scope (cloFrom X.env.cells scope.names []) m d z), toks := tk } := by
    intro g G d m z tk le J eN tG nf cd
    have new : s.heap.get? g.objs.size = none := Heap.get?_none_of_le le
    have there : (g.push (PySem.W.kla_obj "<lambda>" (X.env.qual ++ "<lambda>") params body scope (cloFrom X.env.cells scope.names []) m d z)).get? g.objs.size = some (PySem.W.kla_obj "<lambda>" (X.env.qual ++ "<lambda>") params body scope (cloFrom X.env.cells scope.names []) m d z) := Heap.get?_push_size _ rfl
    refine go g.objs.size d G _ ?_ eN tG nf cd
    refine inv_sightN J ?_ nf (fun q => ?_) there (by intro v q; cases q) (fun p hp q => ?_) (fnO_new there)
    · exact Heap.get?_none_of_le (Nat.le_trans I.sz le)
    · have l := I.lt
      rw [← q] at l
      exact Nat.lt_irrefl _ (Nat.lt_of_lt_of_le l le)
    · obtain ⟨h1, _⟩ := I.pin p hp
      rw [q, new] at h1
      cases h1
  cases hc : codeAmong pos ps.toList with
  | some cv =>
    obtain ⟨d, rfl, hco⟩ := among pos cv hc
    refine PySem.W.kla_makeFunctionHit (P := P) (ps := ps) (c := c) (mg := X.mg) (closure_ok hfree) I.ok.glob glob hcode hd objP okP hc bm fun z g tk keepG le => ?_
    exact fin g H d _ z tk le (I.kept fun b o e => Heap.get?_push_of_some _ (keepG b o e)) (LamX.ExtN.refl H) hT (I.hok.fresh le) hco
  | none =>
    refine PySem.W.kla_makeFunction (P := P) (ps := ps) (c := c) (mg := X.mg) (closure_ok hfree) I.ok.glob glob hcode hd objP okP hc TB.gP bm fun d z g tk keepG above below rec tabG => ?_
    obtain ⟨d', oc, vs, t, e, hoc, hdt, hv⟩ := rec
    cases e
    have le : s.heap.objs.size ≤ g.objs.size := Nat.le_trans above (Nat.le_of_lt below)
    have free : H d = none := I.hok.fresh above
    have J := LamX.inv_table (t' := tk) (more := #[rawInt pos.line, rawInt pos.col, .ref d]) (h' := g.push (PySem.W.kla_obj "<lambda>" (X.env.qual ++ "<lambda>") params body scope (cloFrom X.env.cells scope.names []) ((X.mg "__name__").getD .none) d z)) I hP
      (fun b o nb e => Heap.get?_push_of_some _ (keepG b o nb e)) (Heap.get?_push_of_some _ tabG) above ⟨oc, vs, t, Heap.get?_push_of_some _ hoc, hdt, hv⟩
    have eN : LamX.ExtN H (upd (upd H P (.tbl (ps ++ #[rawInt pos.line, rawInt pos.col, .ref d]))) d (LamX.CodeO d (X.env.qual ++ "<lambda>"))) := by
      intro b o e n
      have b1 : b ≠ d := ne_of_none e free
      have b2 : b ≠ P := fun z => by
        rw [z, hP] at e
        exact n ps (Option.some.inj e).symm
      rw [upd_ne b1, upd_ne b2, e]
    have lst : (ps ++ #[rawInt pos.line, rawInt pos.col, .ref d]).toList = ps.toList ++ [rawInt pos.line, rawInt pos.col, .ref d] := by simp
    have Pd : P ≠ d := ne_of_none hP free
    refine fin g _ d _ z tk le J eN (fun p hp => ?_) ?_ upd_same
    · by_cases eP : p.1 = P
      · have e2 := hu p hp eP
        rw [e2, eP]
        refine ⟨_, (upd_ne Pd).trans upd_same, ?_, fun p' cv hcv => ?_⟩
        · rw [lst]
          exact PySem.TriplesOk_snoc _ _ _ _ okP
        · rw [lst] at hcv
          cases LamX.among_app _ okP hcv with
          | inl z =>
            obtain ⟨c0, e1, e2⟩ := among p' cv z
            exact ⟨c0, e1, eN _ _ e2 LamX.codeO_ne⟩
          | inr z => exact ⟨d, z, upd_same⟩
      · obtain ⟨qs, a1, a2, a3⟩ := hT p hp
        refine ⟨qs, ((upd_ne (ne_of_none a1 free)).trans (upd_ne eP)).trans a1, a2, fun p' cv hcv => ?_⟩
        obtain ⟨c0, e1, e2⟩ := a3 p' cv hcv
        exact ⟨c0, e1, eN _ _ e2 LamX.codeO_ne⟩
    · have n1 : g.objs.size ≠ d := fun z => Nat.lt_irrefl _ (z ▸ below)
      have n2 : g.objs.size ≠ P := fun z => by
        have l := Heap.lt_size objP
        rw [← z] at l
        exact Nat.lt_irrefl _ (Nat.lt_of_lt_of_le l le)
      exact ((upd_ne n1).trans (upd_ne n2)).trans (I.hok.fresh le)
end
end DL
set_option Elab.async false
set_option linter.all false
set_option maxRecDepth 100000
set_option maxHeartbeats 1000000
/-! DL39: lambdas as values over trees. -/
namespace DL
open PySem PySem.Spec PyProof.Rows L2
theorem own_noext {Z : Wz} {Hf H : Hp} {a : Addr} {φ : Heap → Prop} (e : H a = some (HO.ext φ)) : ∀ {d : D}, OwnRp Z Hf H a d → False
  | .lst _, ⟨_, h, _⟩ => by rw [e] at h; cases h
  | .dic false _ _, ⟨_, h, _⟩ => by rw [e] at h; cases h
  | .dic true _ _, ⟨_, h, _⟩ => by rw [e] at h; cases h
/-- an object of its own kind comes into the standing part -/
theorem Sim.see {Z : Wd} {H0 G0 : Hp} {σ : L2.St} {H Hf : Hp} {env : EnvD} {c : Nat} {b : Addr} {φ : Heap → Prop} (S : Sim Z H0 G0 σ H Hf env c) (hb : H b = some (HO.ext φ)) (hn : H0 b = none) : Sim Z H0 G0 σ H (upd Hf b (HO.ext φ)) env c := by
  have e : Same Hf (upd Hf b (HO.ext φ)) := fun x o h => by
    by_cases z : x = b
    · subst z
      have q := S.sub _ _ h
      rw [hb] at q
      cases q
      exact upd_same
    · rw [upd_ne z]
      exact h
  constructor
  · intro x o h
    by_cases z : x = b
    · subst z
      rw [upd_same] at h
      cases h
      exact hb
    · rw [upd_ne z] at h
      exact S.sub _ _ h
  · exact fun x o h => e _ _ (S.g0 _ _ h)
  · intro x h1 h2
    by_cases z : x = b
    · subst z
      exact .inl hn
    · rw [upd_ne z] at h1
      exact S.new x h1 h2
  · exact S.keep
  · exact S.len
  · intro i d q
    obtain ⟨v, h1, h2⟩ := S.val i d q
    exact ⟨v, h1, Rp.mono e _ _ h2⟩
  · intro i d q
    obtain ⟨a, h1, h2, h3, h4, h5⟩ := S.own i d q
    have ne : a ≠ b := fun z => by
      subst z
      exact own_noext hb h5
    exact ⟨a, h1, by rw [upd_ne ne]; exact h2, h3, h4, OwnRp.mono e (KeepX.refl) h4 h5⟩
  · exact S.inj
  · exact S.st
  · intro x hx
    have ne : x ≠ b := fun z => by
      subst z
      obtain ⟨l, t, ls, cs, a1, a2, _⟩ := S.st hx.1
      rcases hx.2 with r | r
      · rw [r, a1] at hb; cases hb
      · rw [r, a2] at hb; cases hb
    rw [upd_ne ne]
    exact S.stf x hx
  · exact S.tab
  · intro x ps h
    by_cases z : x = b
    · subst z
      rw [upd_same] at h
      cases h
    · rw [upd_ne z] at h
      exact S.ntb x ps h
/-- the k-th lambda -/
@[simp] def tLamV (k : Nat) (φ ψ : Addr → Addr → HO) : TED := fun _ c _ Q => Q (.fn k φ ψ) c
theorem keepN {Z : Wd} {H H1 : Hp} (hT : Z.tabs ≠ []) (e1 : LamX.ExtN H H1) : Keep Z H H1 := fun b o eb n => by
  by_cases z : ∃ ps, o = .tbl ps
  · exact .inl ⟨hT, z⟩
  · exact .inr ⟨o, e1 b o eb fun ps q => z ⟨ps, q⟩, id⟩
theorem de_lamV {X : Cx} {F : Fd} {k : Nat} {c P : Addr} {params : Arguments} {body : Expr} {scope : Scope} {pos : Pos} {φ ψ : Addr → Addr → HO} (hf : φ = FnO (X.env.qual ++ "<lambda>") params body scope (cloFrom X.env.cells scope.names [])) (hp : ψ = fun _ d => LamX.CodeO d (X.env.qual ++ "<lambda>"))
    (TB : LamX.TabB X.base X.mg c P) (hcode : X.env.code = .ref c) (hmT : (P, X.env.qual ++ "<lambda>") ∈ F.Z.tabs) (hu : ∀ p ∈ F.Z.tabs, p.1 = P → p.2 = X.env.qual ++ "<lambda>") (nt : NoTbl F) (h0 : ∀ b, F.H0 b = none) (L : LamX.LamS X.env.scope scope) (hdef : defaultsOf params X.env = ([], []) := by rfl) :
    DE X F (.Lambda params body scope pos) (tLamV k φ ψ) := by
  subst hf hp
  have hT : F.Z.tabs ≠ [] := fun z => by rw [z] at hmT; cases hmT
  refine ⟨fun pins s σ H Q I h => ?_⟩
  obtain ⟨Hf, env, n, W, Qd, S, x, ht, go⟩ := h
  refine lam_seen I TB hcode hmT hu S.tab hdef (L.has I.ok) fun f d G s' J eN tG nf cd => ?_
  have S1 := (S.extN nt.h nt.g eN tG).see (show G d = some (.ext _) from cd) (h0 d)
  have g := Grow.one (p := f) (o := FnO (X.env.qual ++ "<lambda>") params body scope (cloFrom X.env.cells scope.names []) f d) S1.sub nf (fun _ z => by cases z)
  have sm : Same Hf (upd Hf d (LamX.CodeO d (X.env.qual ++ "<lambda>"))) := fun b o e => by
    by_cases z : b = d
    · subst z
      have q := (S.extN nt.h nt.g eN tG).sub _ _ e
      rw [cd] at q
      cases q
      exact upd_same
    · rw [upd_ne z]
      exact e
  have df : d ≠ f := ne_of_none cd nf
  refine ⟨.ref f, _, J, rfl, go (.ref f) _ _ n _ (S1.grow g) (fun b o e => g.hf _ _ (sm _ _ e)) ((keepN hT eN).trans (Keep.of g.h)) (rp_fn.mpr ⟨f, d, rfl, upd_same, ?_⟩) ht⟩
  rw [upd_ne df]
  exact upd_same
end DL
set_option Elab.async false
set_option linter.all false
set_option maxRecDepth 100000
set_option maxHeartbeats 1000000
/-! DL40: _law_caught(w), w a lambda that is kept. -/
namespace DL
open PySem PySem.Spec PyProof.Rows L2
section
variable {X : Cx} {pins : List (Addr × Obj)} {σ : L2.St} {H HZ : Hp} {s s1 : Shared}
/-- the kept lambda is called in the def that got it -/
theorem fn_act {CXg : CXT} {Eg : XK} {Ng : List Str} {qg : Str} {sg : Scope} {g f d : Addr} {cdg : Value} {params : Arguments} {body : Expr} {scope : Scope} {k i : Nat} {a : Str} {pn : List (Addr × Obj)} {xe : Value → Shared → Prop} {W : WX} {E : XK} {tb : TE} {p1 p2 : Pos}
    (I : Inv X pins σ H s) (L : LamX.LamS X.env.scope scope) (hbind : ∀ (m z : Value), bindArgs (PySem.W.kla_fn "<lambda>" (X.env.qual ++ "<lambda>") params body scope (cloFrom X.env.cells scope.names []) m (.ref d) z) ⟨[], []⟩ = pure [])
    (tk : Takes ((cxOf CXg X.prog X.w X.K X.mg X.base Ng qg sg g cdg X.A X.stack s H Eg).tr pn xe) W) (hW : ∀ cls d σ' H', E cls d H' → W cls d σ' H') (hr : Room (k + 1) (X.A.deeper (envOfC qg sg s.heap.objs.size g cdg)))
    (hbody : ∀ (A : Around) (outer : List Env) (s : Shared) (H : Hp), Room k (A.deeper (LamX.lamEnv X scope s.heap.objs.size f d)) → PE (LamX.lamCx X A outer s H E scope f d) body tb)
    (hN : Ng[i]? = some a) (hv : Vis sg a) (hd : (a == ("__debug__" : Str)) = false := by decide) (hcd : (a == ("__classdict__" : Str)) = false := by decide) :
    PE ((cxOf CXg X.prog X.w X.K X.mg X.base Ng qg sg g cdg X.A X.stack s H Eg).tr pn xe) (.Call (.Name a p1) [] [] p2)
      (fun σZ HZ Q => σZ[i]? = some (some (.ref f)) ∧ HZ d = some (LamX.CodeO d (X.env.qual ++ "<lambda>")) ∧ HZ f = some (FnO (X.env.qual ++ "<lambda>") params body scope (cloFrom X.env.cells scope.names []) f d) ∧ tb σ HZ Q) := by
  constructor
  rintro pZ sZ σZ HZ Q IZ ⟨hs, hc, hf, ht⟩
  refine wpAny_Call_Name_kw (thn ((pe_var (i := i) (pos := p1) hN hv hd hcd).run pZ sZ σZ HZ (fun v G => v = .ref f ∧ G = HZ) IZ ⟨.ref f, hs, rfl, rfl⟩) ?_)
  rintro u t1 ⟨v, G, J, rv, ev, eG⟩
  subst ev eG
  obtain rfl : u = Value.ref f := rv
  obtain ⟨⟨m, z, there⟩, _, _⟩ := J.hok f _ hf
  obtain ⟨⟨oc, ws, t, hoc, hdt, hv1⟩, _, _⟩ := J.hok d _ hc
  have since : Un (frs X.stack) [] H G s.heap t1.heap := J.base
  refine PySem.W.callWith_F0 ⟨_, _, _, _, there⟩ (wpAny_call (codeAny_mono (R := CR (L2.CX X.prog X.w) (envOfC qg sg s.heap.objs.size g cdg :: X.stack) X.prog X.w G t1 Q E) ?_ fun r s' hq => ?_))
  · apply PySem.W.kla_callFunE hr.depth there rfl L.co L.gen rfl ⟨d, oc, ws, t, rfl, hoc, hdt, hv1⟩
    rw [List.append_nil, hbind]
    refine wpAny_pure (wpAny_newFunctionEnv (fun y hy => (L.own y hy).2) (fun y hy => absurd hy (by simp)) (fun h₁ ns sb => ⟨J.nolimit.fresh _ sb, ?_⟩) L.kind)
    show codeAny _ _ (.expr body (LamX.lamEnv X scope t1.heap.objs.size f d)) _ _
    have up : ∀ b o, t1.heap.get? b = some o → h₁.get? b = some o := fun b o e => sb.extBut b o (fun z => Nat.lt_irrefl _ (z ▸ Heap.lt_size e)) (Heap.get?_push_of_some _ e)
    have K0 : Inv (LamX.lamCx X (X.A.deeper (envOfC qg sg s.heap.objs.size g cdg)) (envOfC qg sg s.heap.objs.size g cdg :: X.stack) t1 G E scope f d) [] σ G { t1 with heap := h₁, toks := t1.toks + ([] : List (Str × Value)).length } := LamX.lam_start2 I L J.env0 hr.hd since ns up
    apply PySem.W.kla_codeExpr
    refine wpAny_mono ((hbody _ _ t1 G (hr.deeper _)).run [] _ _ G Q K0 ht) ?_ fun e s' hq => hq
    rintro v s' ⟨w', G', K1, rw', q⟩
    exact ⟨w', G', K1.os, K1.bare, K1.base, K1.hok, rw', q⟩
  · have px : Passes (L2.CX X.prog X.w) ((cxOf CXg X.prog X.w X.K X.mg X.base Ng qg sg g cdg X.A X.stack s H Eg).tr pn xe) E := passes_call tk hW
    cases r with
    | error e => exact px pZ σZ G t1 e s' J hq
    | ok fl => cases fl with
      | ret u => exact J.after hq
      | _ => exact False.elim hq
end
end DL
set_option Elab.async false
set_option linter.all false
set_option maxRecDepth 100000
set_option maxHeartbeats 1000000
/-! DL41: _law_caught(w) over trees. -/
namespace DL
open PySem PySem.Spec PyProof.Rows L2
/-- what is known of the k-th kept lambda: its text, its reading -/
structure LamK (X : Cx) (F : Fd) (k : Nat) (φ ψ : Addr → Addr → HO) (te : TED) : Prop where
  ex : ∃ (params : Arguments) (body : Expr) (scope : Scope), φ = FnO (X.env.qual ++ "<lambda>") params body scope (cloFrom X.env.cells scope.names []) ∧ (ψ = fun _ d => LamX.CodeO d (X.env.qual ++ "<lambda>")) ∧ LamX.LamS X.env.scope scope ∧
    (∀ (q : Str) (cl : List (Str × Addr)) (pm cv ctv : Value), bindArgs (PySem.W.kla_fn "<lambda>" q params body scope cl pm cv ctv) ⟨[], []⟩ = pure []) ∧
    ∀ (A : Around) (outer : List Env) (s : Shared) (H : Hp) (E : XK) (f c' : Addr), Room k (A.deeper (LamX.lamEnv X scope s.heap.objs.size f c')) → ∀ H0 G0 : Hp, DE (LamX.lamCx X A outer s H E scope f c') ⟨F.Z, H0, G0, fun cls d _ H => E cls d H⟩ body te
/-- w is a lambda of those at fo; tes tells what each gives -/
@[simp] def tCaughtV (ns : List Str) (fo : Nat → (Addr → Addr → HO) × (Addr → Addr → HO)) (tes : List TED) (tw : TED) : TED := fun env c W Q => tw env c W fun d c1 => match d with
  | .fn k φ ψ => φ = (fo k).1 ∧ ψ = (fo k).2 ∧ ∃ te, tes[k]? = some te ∧ tCaughtD ns te env c1 W Q
  | _ => False
theorem de_caughtV {X : Cx} {F : Fd} {x a : Str} {st : Stmt} {Ng : List Str} {CS P : Addr} {m : Nat} {wn : Str} {wp p pos : Pos} {ns : List Str} {tw : TED} {tes : List TED} {fo : Nat → (Addr → Addr → HO) × (Addr → Addr → HO)} (Dc : Df X.K X.mg x st [a]) (Sg : FnScope Ng [a] (defScope st)) (hNg : Ng[0]? = some a) (hva : Vis (defScope st) a)
    (hG : ∀ (g : Addr) (cdv : Value), LamX.GivesTo X Ng x (defScope st) g cdv (defBody st) a (X.env.qual ++ "<lambda>") (TTc X.K CS)) (hmT : (P, X.env.qual ++ "<lambda>") ∈ F.Z.tabs)
    (nt : NoTbl F) (hx : ∀ n ∈ ns, ∀ C, F.Z.mg n = some (.ref C) → PySem.W.exmOne X.K (.ref C) (.ref CS) = some true) (hr : Room (m + 2) X.A) (hw : DE X F (.Name wn wp) tw) (hl : ∀ (k : Nat) (te : TED), tes[k]? = some te → LamK X F m (fo k).1 (fo k).2 te)
    (hg : Gl X x := by rfl) (hdb : (x == ("__debug__" : Str)) = false := by decide) (hd : (a == ("__debug__" : Str)) = false := by decide) (hcd : (a == ("__classdict__" : Str)) = false := by decide) :
    DE X F (.Call (.Name x p) [.Name wn wp] [] pos) (tCaughtV ns fo tes tw) := by
  obtain ⟨g, fd, Fn, hm, hb⟩ := Dc.ex
  obtain ⟨oc, od, kV, doc, pm, an, cdv, ct, osl, efd, lk, hcg⟩ := Fn.ex
  subst efd
  have hT : F.Z.tabs ≠ [] := fun z => by rw [z] at hmT; cases hmT
  constructor
  rintro pins s σ H Q I ⟨Hf, env, n, W, Qd, S, x0, ht, go⟩
  refine wpAny_Call_Name_kw (ld_glob I hg hm ?_ hdb)
  refine PySem.W.callWith_K (h₀ := X.base) I.ok.mod.kin Fn.kp ?_ (by rfl) (by rfl)
  show wpAny _ _ (spliced ((false, eval (.Name wn wp) X.env) :: backTo pos (starEach [] X.env))) _ _ s
  refine Calls.spliced_cons (thn (hw.run pins s σ H (fun v G => ∃ (Gf : Hp) (n' : Nat) (k : Nat) (φ ψ : Addr → Addr → HO), Sim F.Z F.H0 F.G0 σ G Gf env n' ∧ Same Hf Gf ∧ Keep F.Z H G ∧ Rp F.Z.toWz Gf (.fn k φ ψ) v ∧ φ = (fo k).1 ∧ ψ = (fo k).2 ∧ ∃ te, tes[k]? = some te ∧ tCaughtD ns te env n' W Qd) I ⟨Hf, env, n, W, _, S, x0, ht, fun v G Gf n' d S1 s1 k1 r1 q1 => ?_⟩) ?_)
  · cases d with
    | fn k φ ψ => exact ⟨Gf, n', k, φ, ψ, S1, s1, k1, r1, q1⟩
    | _ => exact q1.elim
  rintro u s1 ⟨v, G, I1, rv, Gf, n', k, φ, ψ, S1, sm, k1, r1, rfl, rfl, te, hte, hq⟩
  obtain ⟨f, d, rfl, hf, hd0⟩ := rp_fn.mp r1
  obtain rfl : u = Value.ref f := rv
  obtain ⟨params, body, scope, e1, e2, L, hbind, hbody⟩ := (hl k te hte).ex
  rw [e1] at hf
  rw [e2] at hd0
  have hfG := S1.sub _ _ hf
  have hdG := S1.sub _ _ hd0
  refine Calls.spliced_nil ⟨I1.kIn, ?_⟩
  have rc : codeAny (model X.prog X.w) X.A (.call (.ref g) ⟨[.ref f], []⟩) (CR C8.CX0 X.stack X.prog X.w G s1 Q C8.E0) s1 := by
    refine LamX.run_ofS (N := Ng) (ps := [a]) (us := [.ref f]) (vs := [.ref f]) lk hcg Sg hr I1.env0 (hb s1 [.ref f] I1.kIn rfl) (.cons rfl .nil) rfl fun hr' => ?_
    have use := caught_use (F := F) (K := X.K) (CS := CS) (Q := Q) nt hT hx ⟨Gf, env, n', W, Qd, S1, x0, hq, fun v G' Gf' c' d S2 s2 k2 r2 q2 => go v G' Gf' c' d S2 (fun b o z => s2 _ _ (sm _ _ z)) (k1.trans k2) r2 q2⟩
    obtain ⟨_, use⟩ := use
    have tt := use G (LamX.ExtN.refl G) S1.tab
    obtain ⟨t', ht', hq'⟩ := hG g cdv f d s1 G Q (fun E H' Q' => H' f = some (FnO (X.env.qual ++ "<lambda>") params body scope (cloFrom X.env.cells scope.names []) f d) ∧ lamT F.Z te E σ H' Q')
      (fun W pn xe E p1 p2 tk hW => fn_act (i := 0) I1 L (fun _ _ => hbind _ _ _ _ _) tk hW hr' (fun A outer s H hr2 => ⟨fun pins s2 σ H2 Q I ⟨H0, G0, q⟩ => (hbody A outer s H E f d hr2 H0 G0).run pins s2 σ H2 Q I q⟩) hNg hva hd hcd) hdG ⟨hfG, tt⟩
    exact ⟨t', ht'.nox, hq'⟩
  refine wpAny_call (codeAny_mono rc fun r s2 hq => ?_)
  cases r with
  | error e => exact (show False from hq).elim
  | ok fl => cases fl with
    | ret u => exact I1.after hq
    | _ => exact False.elim hq
end DL
set_option Elab.async false
set_option linter.all false
set_option maxRecDepth 100000
set_option maxHeartbeats 1000000
/-! DL42: the kept lambdas of a law, one by one. -/
namespace DL
open PySem PySem.Spec PyProof.Rows L2
abbrev FoT := Nat → (Addr → Addr → HO) × (Addr → Addr → HO)
def mkFo (l : List ((Addr → Addr → HO) × (Addr → Addr → HO))) : FoT := fun k => l.getD k (fun _ _ => .lst [], fun _ _ => .lst [])
theorem lamK_mk {X : Cx} {F : Fd} {m : Nat} {φ ψ : Addr → Addr → HO} {te : TED} (params : Arguments) (body : Expr) (scope : Scope) (hf : φ = FnO (X.env.qual ++ "<lambda>") params body scope (cloFrom X.env.cells scope.names [])) (hp : ψ = fun _ d => LamX.CodeO d (X.env.qual ++ "<lambda>")) (L : LamX.LamS X.env.scope scope)
    (hbody : ∀ (A : Around) (outer : List Env) (s : Shared) (H : Hp) (E : XK) (f c' : Addr), Room m (A.deeper (LamX.lamEnv X scope s.heap.objs.size f c')) → ∀ H0 G0 : Hp, DE (LamX.lamCx X A outer s H E scope f c') ⟨F.Z, H0, G0, fun cls d _ H => E cls d H⟩ body te)
    (hbind : ∀ (q : Str) (cl : List (Str × Addr)) (pm cv ctv : Value), bindArgs (PySem.W.kla_fn "<lambda>" q params body scope cl pm cv ctv) ⟨[], []⟩ = pure [] := by intro _ _ _ _ _; rfl) : LamK X F m φ ψ te :=
  ⟨params, body, scope, hf, hp, L, hbind, hbody⟩
theorem lamks_nil {X : Cx} {F : Fd} {m : Nat} {fo : FoT} : ∀ (k : Nat) (te : TED), ([] : List TED)[k]? = some te → LamK X F m (fo k).1 (fo k).2 te := fun k te h => by simp at h
theorem lamks_cons {X : Cx} {F : Fd} {m : Nat} {fo : FoT} {t0 : TED} {tes : List TED} (h0 : LamK X F m (fo 0).1 (fo 0).2 t0) (h : ∀ (k : Nat) (te : TED), tes[k]? = some te → LamK X F m (fo (k + 1)).1 (fo (k + 1)).2 te) :
    ∀ (k : Nat) (te : TED), (t0 :: tes)[k]? = some te → LamK X F m (fo k).1 (fo k).2 te
  | 0, te, e => by cases e; exact h0
  | k + 1, te, e => h k te (by simpa using e)
end DL
set_option Elab.async false
set_option linter.all false
set_option maxRecDepth 100000
set_option maxHeartbeats 1000000
/-! DL43: max over trees: ints, tuples of ints; a default. -/
namespace DL
open PySem PySem.Spec PyProof.Rows L2
open PySem.W (dataLt dataLt_tuple dataLt_ints maxD alikeAll alike AlikeAll rowLt)
/-- a tuple of ints -/
def tI (l : List Int) : D := .tup (l.map .int)
/-- the first of the greatest -/
def maxL (x : List Int) (xs : List (List Int)) : List Int := xs.foldl (fun a y => if a < y then y else a) x
theorem maxL_spec : ∀ (xs : List (List Int)) (x : List Int), maxL x xs ∈ x :: xs ∧ ∀ y ∈ x :: xs, ¬ maxL x xs < y
  | [], x => ⟨List.mem_cons_self .., fun y hy => by
    rcases List.mem_cons.mp hy with rfl | h
    · exact List.lt_irrefl _
    · cases h⟩
  | z :: zs, x => by
    have ih := maxL_spec zs (if x < z then z else x)
    have e : maxL x (z :: zs) = maxL (if x < z then z else x) zs := rfl
    rw [e]
    constructor
    · rcases List.mem_cons.mp ih.1 with h | h
      · rw [h]
        by_cases q : x < z
        · rw [if_pos q]; exact List.mem_cons_of_mem _ (List.mem_cons_self ..)
        · rw [if_neg q]; exact List.mem_cons_self ..
      · exact List.mem_cons_of_mem _ (List.mem_cons_of_mem _ h)
    · have top : ¬ maxL (if x < z then z else x) zs < (if x < z then z else x) := ih.2 _ (List.mem_cons_self ..)
      intro y hy
      rcases List.mem_cons.mp hy with rfl | hy
      · by_cases q : y < z
        · rw [if_pos q] at top ⊢
          exact fun lt => top (List.lt_trans lt q)
        · rw [if_neg q] at top ⊢
          exact top
      · rcases List.mem_cons.mp hy with rfl | hy
        · by_cases q : x < y
          · rw [if_pos q] at top ⊢
            exact top
          · rw [if_neg q] at top ⊢
            exact fun lt => q (List.lt_of_le_of_lt (show x ≤ maxL x zs from top) lt)
        · exact ih.2 y (List.mem_cons_of_mem _ hy)
theorem toPyL_ints : ∀ l : List Int, toPyL (l.map .int) = l.map PyData.int
  | [] => by rw [List.map_nil, toPyL]; rfl
  | a :: l => by rw [List.map_cons, toPyL, toPy, toPyL_ints l]; rfl
theorem toPy_tI (l : List Int) : toPy (tI l) = .tuple (l.map .int) := by rw [tI, toPy, toPyL_ints]
theorem dataLt_tI (a b : List Int) : dataLt (.tuple (a.map .int)) (.tuple (b.map .int)) = decide (a < b) := by
  rw [dataLt_tuple]
  exact dataLt_ints a b
theorem maxD_tI : ∀ (xs : List (List Int)) (x : List Int), maxD (.tuple (x.map .int)) (xs.map fun l => .tuple (l.map .int)) = .tuple ((maxL x xs).map .int)
  | [], x => rfl
  | z :: zs, x => by
    show maxD (if dataLt (.tuple (x.map .int)) (.tuple (z.map .int)) then .tuple (z.map .int) else .tuple (x.map .int)) (zs.map fun l => .tuple (l.map .int)) = .tuple ((maxL (if x < z then z else x) zs).map .int)
    rw [dataLt_tI]
    by_cases q : x < z
    · rw [if_pos (decide_eq_true q), if_pos q]
      exact maxD_tI zs z
    · rw [if_neg (by simpa using q), if_neg q]
      exact maxD_tI zs x
theorem alikeAll_ints : ∀ (n : Nat) (a b : List Int), a.length = n → b.length = n → alikeAll (a.map .int) (b.map .int) = true
  | _, [], b, _, _ => by simp [alikeAll]
  | n + 1, x :: a, y :: b, h1, h2 => by
    rw [List.map_cons, List.map_cons, alikeAll, alikeAll_ints n a b (by simpa using h1) (by simpa using h2)]
    rfl
theorem ints_inj : ∀ {a b : List Int}, a.map PyData.int = b.map PyData.int → a = b
  | [], [], _ => rfl
  | x :: a, y :: b, h => by
    rw [List.map_cons, List.map_cons] at h
    injection h with h1 h2
    injection h1 with h1
    rw [h1, ints_inj h2]
end DL
set_option Elab.async false
set_option linter.all false
set_option maxRecDepth 100000
set_option maxHeartbeats 1000000
/-! DL44: max(l), max(l, default=d): ints, tuples of ints. -/
namespace DL
open PySem PySem.Spec PyProof.Rows L2
open PySem.W (dataLt maxD alikeAll alike AlikeAll max_list_data max_list_default max_tuple_data maxD_ints)
theorem alike_int (i j : Int) : alike (.int i) (.int j) = true := by rw [alike]
theorem alikeAll_of_ints : ∀ a b : List Int, alikeAll (a.map .int) (b.map .int) = true
  | [], b => by rw [List.map_nil, alikeAll]
  | _ :: _, [] => by rw [List.map_nil, List.map_cons, alikeAll]
  | x :: a, y :: b => by rw [List.map_cons, List.map_cons, alikeAll, alike_int, alikeAll_of_ints a b]; rfl
theorem alike_tI (a b : List Int) : alike (.tuple (a.map .int)) (.tuple (b.map .int)) = true := by rw [alike]; exact alikeAll_of_ints a b
theorem even_ints (ns : List Int) : AlikeAll (ns.map PyData.int) := by
  refine ⟨fun x hx y hy => ?_, fun x hx => ?_⟩
  · obtain ⟨i, _, rfl⟩ := List.mem_map.mp hx
    obtain ⟨j, _, rfl⟩ := List.mem_map.mp hy
    exact alike_int i j
  · obtain ⟨i, _, rfl⟩ := List.mem_map.mp hx
    nofun
theorem even_tI (ls : List (List Int)) : AlikeAll (ls.map fun l => PyData.tuple (l.map .int)) := by
  refine ⟨fun x hx y hy => ?_, fun x hx => ?_⟩
  · obtain ⟨i, _, rfl⟩ := List.mem_map.mp hx
    obtain ⟨j, _, rfl⟩ := List.mem_map.mp hy
    exact alike_tI i j
  · obtain ⟨i, _, rfl⟩ := List.mem_map.mp hx
    nofun
theorem plainL_ints : ∀ ns : List Int, plainL (ns.map .int) = true
  | [] => rfl
  | n :: ns => by rw [List.map_cons, plainL, plain, plainL_ints ns]; rfl
theorem plain_tI (l : List Int) : plain (tI l) = true := by rw [tI, plain, plainL_ints]
theorem plainL_tI : ∀ ls : List (List Int), plainL (ls.map tI) = true
  | [] => rfl
  | l :: ls => by rw [List.map_cons, plainL, plain_tI, plainL_tI ls]; rfl
theorem toPyL_tI : ∀ ls : List (List Int), toPyL (ls.map tI) = ls.map fun l => PyData.tuple (l.map .int)
  | [] => by rw [List.map_nil, toPyL]; rfl
  | l :: ls => by rw [List.map_cons, toPyL, toPy_tI, toPyL_tI ls]; rfl
theorem depth_ints : ∀ ns : List Int, PyData.depthAll (ns.map .int) = 0
  | [] => rfl
  | n :: ns => by rw [List.map_cons, PyData.depthAll, PyData.depth, depth_ints ns]; rfl
theorem depth_tI : ∀ ls : List (List Int), PyData.depthAll (ls.map fun l => PyData.tuple (l.map .int)) ≤ 1
  | [] => Nat.zero_le _
  | l :: ls => by
    rw [List.map_cons, PyData.depthAll, PyData.depth, depth_ints]
    have := depth_tI ls
    omega
section
variable {X : Cx} {Z : Wz} {pins : List (Addr × Obj)} {σ : L2.St} {H Hf : Hp} {s : Shared} {a : Addr} {vs : List V} {ds : List D} {x : PyData} {xs : List PyData} {Q : VK}
theorem top_at (hK : Z.K = X.K) (I : Inv X pins σ H s) {its : List Value} (sub : Same Hf H) (rv : Vals vs its) (r1 : RpL Z Hf ds vs) (pl : plainL ds = true) {i : Nat} {v : Value} {h' : Heap} {tk : Tok} {bs : List Addr} {m : PyData} (hi : its.toArray[i]? = some v) (rd : Reads h' v m bs) (hk : ∀ b o, s.heap.get? b = some o → h'.get? b = some o)
    (k : ∀ d v, d ∈ ds → Rp Z Hf d v → toPy d = m → Q v H) : EP X pins σ Q v { s with heap := h', toks := tk } := by
  have hi2 : its[i]? = some v := by simpa using hi
  have hl : i < vs.length := by rw [rv.length]; exact (List.getElem?_eq_some_iff.mp hi2).1
  obtain ⟨u, hu, ru⟩ := rv.get (List.getElem?_eq_getElem hl)
  rw [hi2] at hu
  cases hu
  obtain ⟨d, hd, rp⟩ := r1.get' (List.getElem?_eq_getElem hl)
  have hm := List.mem_of_getElem? hd
  have pd : plain d = true := by
    clear r1 hd rp k
    induction ds with
    | nil => cases hm
    | cons e r ih =>
      rw [plainL, Bool.and_eq_true] at pl
      rcases List.mem_cons.mp hm with rfl | hm
      · exact pl.1
      · exact ih pl.2 hm
  have dp := rp_dp d _ pd (Rp.mono sub _ _ rp)
  rw [hK] at dp
  obtain ⟨bs2, rd2⟩ := Dp.reads I (toPy d) _ v dp ru
  have e := (Reads.unique (PySem.W.reads_keeps hk rd2) _ _ rd).1
  exact ⟨_, H, I.kept hk, ru, k d _ hm rp e⟩
theorem top_list (hK : Z.K = X.K) (hc : X.calm = true) (hu : X.A.units + 65 < cLine) (I : Inv X pins σ H s) (sub : Same Hf H) (hs : SqL X.K H a vs) (r1 : RpL Z Hf ds vs) (pl : plainL ds = true) (e : toPyL ds = x :: xs) (al : AlikeAll (x :: xs)) (dp : PyData.depthAll (x :: xs) ≤ 1)
    (k : ∀ d v, d ∈ ds → Rp Z Hf d v → toPy d = maxD x xs → Q v H) : wpAny (model X.prog X.w) X.A (call (.builtin "max") [.ref a]) (EP X pins σ Q) X.xe s := by
  obtain ⟨its, rv, hl, _⟩ := I.list hs
  have dpa := rpL_dp ds vs pl (RpL.mono sub _ _ r1)
  rw [hK] at dpa
  obtain ⟨as, hr⟩ := Dp.readsAll I _ _ its dpa rv
  rw [e] at hr
  exact max_list_data (I.ok.hd hc) hl.isList (as := as) hr al (by omega) fun i v h' tk bs hi rd hk => top_at hK I sub rv r1 pl hi rd hk k
theorem top_tuple (hK : Z.K = X.K) (hc : X.calm = true) (hu : X.A.units + 65 < cLine) (I : Inv X pins σ H s) (sub : Same Hf H) (hs : SqT X.K H a vs) (r1 : RpL Z Hf ds vs) (pl : plainL ds = true) (e : toPyL ds = x :: xs) (al : AlikeAll (x :: xs)) (dp : PyData.depthAll (x :: xs) ≤ 1)
    (k : ∀ d v, d ∈ ds → Rp Z Hf d v → toPy d = maxD x xs → Q v H) : wpAny (model X.prog X.w) X.A (call (.builtin "max") [.ref a]) (EP X pins σ Q) X.xe s := by
  obtain ⟨its, rv, hl, _⟩ := I.tuple hs
  have dpa := rpL_dp ds vs pl (RpL.mono sub _ _ r1)
  rw [hK] at dpa
  obtain ⟨as, hr⟩ := Dp.readsAll I _ _ its dpa rv
  rw [e] at hr
  exact max_tuple_data (I.ok.hd hc) hl (as := as) hr al (by omega) fun i v h' tk bs hi rd hk => top_at hK I sub rv r1 pl hi rd hk k
theorem top_listD (hK : Z.K = X.K) (hc : X.calm = true) (hu : X.A.units + 65 < cLine) (I : Inv X pins σ H s) (sub : Same Hf H) (hs : SqL X.K H a vs) (r1 : RpL Z Hf ds vs) (pl : plainL ds = true) (al : AlikeAll (toPyL ds)) (dp : PyData.depthAll (toPyL ds) ≤ 1) {z : V} {u : Value} (rz : RelV z u)
    (k0 : ds = [] → Q z H) (k : ∀ x xs d v, toPyL ds = x :: xs → d ∈ ds → Rp Z Hf d v → toPy d = maxD x xs → Q v H) : wpAny (model X.prog X.w) X.A (call (.builtin "max") [.ref a] [(Str.ofString "default", u)]) (EP X pins σ Q) X.xe s := by
  obtain ⟨its, rv, hl, _⟩ := I.list hs
  have dpa := rpL_dp ds vs pl (RpL.mono sub _ _ r1)
  rw [hK] at dpa
  obtain ⟨as, hr⟩ := Dp.readsAll I _ _ its dpa rv
  refine max_list_default (I.ok.hd hc) hl.isList (as := as) hr al (by omega) (fun e0 h' tk hk => ⟨z, H, I.kept hk, rz, k0 ?_⟩) fun y ys i v h' tk bs e0 hi rd hk => top_at hK I sub rv r1 pl hi rd hk fun d v hm rp e => k y ys d v e0 hm rp e
  cases ds with
  | nil => rfl
  | cons d r => rw [toPyL] at e0; cases e0
end
/-- what max tells of ints or tuples of ints -/
def topOf (ds : List D) (k : D → Prop) : Prop := (∃ (n : Int) (ns : List Int), ds = (n :: ns).map .int ∧ k (.int (ns.foldl max n))) ∨ ∃ (l : List Int) (ls : List (List Int)), ds = (l :: ls).map tI ∧ k (tI (maxL l ls))
theorem topOf_shape {ds : List D} {k : D → Prop} (h : topOf ds k) : plainL ds = true ∧ AlikeAll (toPyL ds) ∧ PyData.depthAll (toPyL ds) ≤ 1 ∧ ∃ x xs, toPyL ds = x :: xs ∧ ∀ d, toPy d = maxD x xs → d ∈ ds → k d := by
  rcases h with ⟨n, ns, rfl, hk⟩ | ⟨l, ls, rfl, hk⟩
  · refine ⟨plainL_ints _, ?_, ?_, .int n, ns.map .int, ?_, fun d e hd => ?_⟩
    · rw [toPyL_ints]; exact even_ints _
    · rw [toPyL_ints, depth_ints]; omega
    · rw [toPyL_ints]; rfl
    · obtain ⟨i, _, rfl⟩ := List.mem_map.mp hd
      rw [maxD_ints, toPy] at e
      injection e with e
      rw [e]
      exact hk
  · refine ⟨plainL_tI _, ?_, ?_, .tuple (l.map .int), ls.map fun l => .tuple (l.map .int), ?_, fun d e hd => ?_⟩
    · rw [toPyL_tI]; exact even_tI _
    · rw [toPyL_tI]; exact depth_tI _
    · rw [toPyL_tI]; rfl
    · obtain ⟨i, _, rfl⟩ := List.mem_map.mp hd
      rw [maxD_tI, toPy_tI] at e
      injection e with e
      rw [ints_inj e]
      exact hk
/-- max(l) -/
@[simp] def topD : CD
  | [.lst ds], k => topOf ds k
  | [.tup ds], k => topOf ds k
  | _, _ => False
theorem call_topD {X : Cx} {Z : Wz} (hc : X.calm = true) (hu : X.A.units + 65 < cLine) (hK : Z.K = X.K := by rfl) : CallD X Z (.builtin "max") topD := by
  intro pins s σ H xs us Q I r h
  obtain ⟨Hf, ds, k, sub, hx, hr, kk⟩ := h
  unfold topD at hr
  split at hr
  · rename_i ds
    obtain ⟨x, rfl, hw⟩ := vrpL_1 hx
    obtain ⟨pl, al, dp, y, ys, e, hk⟩ := topOf_shape hr
    rw [e] at al dp
    obtain ⟨a, vs, rfl, h1, r1⟩ := vrp_lst sub hw
    obtain ⟨u, eu, rx⟩ := vals1 r
    subst eu
    cases rx
    exact top_list hK hc hu I sub (SqL.of h1) r1 pl e al dp fun d v hm rp e2 => kk v H Hf d (Grow.refl sub) rp (hk d e2 hm)
  · rename_i ds
    obtain ⟨x, rfl, hw⟩ := vrpL_1 hx
    obtain ⟨pl, al, dp, y, ys, e, hk⟩ := topOf_shape hr
    rw [e] at al dp
    obtain ⟨a, vs, rfl, h1, r1, _⟩ := vrp_tup sub hw
    obtain ⟨u, eu, rx⟩ := vals1 r
    subst eu
    cases rx
    exact top_tuple hK hc hu I sub (SqT.of h1) r1 pl e al dp fun d v hm rp e2 => kk v H Hf d (Grow.refl sub) rp (hk d e2 hm)
  · exact hr.elim
/-! ### a built-in with keywords -/
def liftCK (Z : Wz) (r : List D → CD) : List V → List V → Hp → VK → Prop := fun xs zs H Q => ∃ (Hf : Hp) (ds es : List D) (k : D → Prop), Same Hf H ∧ VRpL Z Hf H ds xs ∧ RpL Z Hf es zs ∧ r es ds k ∧ ∀ (z : V) (H' Hf' : Hp) (g : D), Grow Hf H Hf' H' → Rp Z Hf' g z → k g → Q z H'
@[simp] def tCallKD (r : List D → CD) (t u : TAD) : TED := fun env c W Q => t env c W fun ds c1 => u env c1 W fun es c2 => r es ds fun g => Q g c2
theorem BRpL.mono {Z : Wz} {Hf Hf' : Hp} {σ : L2.St} {env : EnvD} (s : Same Hf Hf') : ∀ {ds : List D} {vs : List V}, BRpL Z Hf σ env ds vs → BRpL Z Hf' σ env ds vs
  | [], _, h => h
  | _ :: _, _, ⟨v, r, e, h1, h2⟩ => ⟨v, r, e, BRp.mono s h1, BRpL.mono s h2⟩
theorem de_bltK {X : Cx} {F : Fd} {e : Expr} {es : List Expr} {pos : Pos} {id : String} {ks : List Str} {x : Str} {p : Pos} {kws : List Keyword} {r : List D → CD} {t u : TAD} (hc : CallRK X (.builtin id) ks (liftCK F.Z.toWz r)) (hm : X.mg x = none) (hv : bootBuiltins x = some (.builtin id)) (ha : DAB X F (e :: es) t) (hk : DK X F kws u) (hg : Gl X x := by rfl) (hn : x ≠ "__name__" := by decide)
    (hdb : (x == ("__debug__" : Str)) = false := by decide) (he : backTo pos (starEach (e :: es) X.env) = (false, eval e X.env) :: backTo pos (starEach es X.env) := by rfl) (hpl : (backTo pos (starEach (e :: es) X.env)).any (·.1) = false := by rfl)
    (hall : (backToKw pos (keywordEach kws X.env)).all (·.1.isSome) = true := by rfl) (hnone : (backToKw pos (keywordEach kws X.env)).any (·.1.isNone) = false := by rfl) (hks : (backToKw pos (keywordEach kws X.env)).filterMap (·.1) = ks := by rfl) :
    DE X F (.Call (.Name x p) (e :: es) kws pos) (tCallKD r t u) := PE.imp (pe_callBK hc hg hm hv ha hk hn hdb he hpl hall hnone hks) fun σ H Q ⟨Hf, env, c, Wd, Qd, S, x, ht, k⟩ => by
  refine ⟨Hf, env, c, Wd, _, S, x, ht, fun vs H1 Hf1 c1 ds S1 s1 k1 r1 q1 => ?_⟩
  refine ⟨Hf1, env, c1, Wd, _, S1, x, q1, fun zs H2 Hf2 c2 es S2 s2 k2 r2 q2 => ?_⟩
  refine ⟨Hf2, ds, es, _, S2.sub, (r1.mono s2).at S2, r2, q2, fun z H' Hf' g gr rp q3 => ?_⟩
  exact k z H' Hf' c2 g (S2.grow gr) ((s1.trans s2).trans gr.hf) ((k1.trans k2).trans (Keep.of gr.h)) rp q3
/-- max(l, default=d) -/
@[simp] def topDfD : List D → CD
  | [z], [.lst ds], k => (ds = [] ∧ k z) ∨ topOf ds k
  | _, _, _ => False
theorem call_topDfD {X : Cx} {Z : Wz} (hc : X.calm = true) (hu : X.A.units + 65 < cLine) (hK : Z.K = X.K := by rfl) : CallRK X (.builtin "max") [Str.ofString "default"] (liftCK Z topDfD) := by
  intro pins s σ H xs zs us ws Q I r rz h
  obtain ⟨Hf, ds, es, k, sub, hx, hz, hr, kk⟩ := h
  unfold topDfD at hr
  split at hr
  · rename_i z ds
    obtain ⟨x, rfl, hw⟩ := vrpL_1 hx
    obtain ⟨z0, rfl, rpz⟩ : ∃ z0, zs = [z0] ∧ Rp Z Hf z z0 := by
      obtain ⟨v, q, e, h1, h2⟩ := rpL_cons.mp hz
      rw [rpL_nil] at h2
      subst h2
      exact ⟨v, e, h1⟩
    obtain ⟨u, eu, rx⟩ := vals1 r
    subst eu
    obtain ⟨w1, ew, rw1⟩ := vals1 rz
    subst ew
    obtain ⟨a, vs, rfl, h1, r1⟩ := vrp_lst sub hw
    cases rx
    have sh : plainL ds = true ∧ AlikeAll (toPyL ds) ∧ PyData.depthAll (toPyL ds) ≤ 1 := by
      rcases hr with ⟨rfl, _⟩ | hr
      · exact ⟨rfl, by rw [toPyL]; exact ⟨fun _ h => absurd h List.not_mem_nil, fun _ h => absurd h List.not_mem_nil⟩, by rw [toPyL, PyData.depthAll]; omega⟩
      · obtain ⟨a1, a2, a3, _⟩ := topOf_shape hr
        exact ⟨a1, a2, a3⟩
    refine top_listD hK hc hu I sub (SqL.of h1) r1 sh.1 sh.2.1 sh.2.2 rw1 (fun e => ?_) fun y ys d v e hm rp e2 => ?_
    · rcases hr with ⟨_, hr⟩ | hr
      · exact kk _ H Hf _ (Grow.refl sub) rpz hr
      · obtain ⟨_, _, _, y, ys, e3, _⟩ := topOf_shape hr
        rw [e, toPyL] at e3
        cases e3
    · rcases hr with ⟨e0, _⟩ | hr
      · rw [e0] at hm; cases hm
      · obtain ⟨_, _, _, y', ys', e3, hk⟩ := topOf_shape hr
        rw [e] at e3
        cases e3
        exact kk v H Hf d (Grow.refl sub) rp (hk d e2 hm)
  · exact hr.elim
end DL
set_option Elab.async false
set_option linter.all false
set_option maxRecDepth 100000
set_option maxHeartbeats 1000000
/-! DL45: defs whose last parameter has an int as its default. -/
namespace DL
open PySem PySem.Spec PyProof.Rows L2
structure DfD (K : PySem.W.Frag) (mg : Str → Option Value) (x : Str) (st : Stmt) (ps : List Str) (i : Int) : Prop where
  ex : ∃ (f : Addr) (fd : FuncData), FunD K x x (defArgs st) (defBody st) (defScope st) [V.int i] [] f fd ∧ mg x = some (.ref f) ∧ Binds K fd ps [] ∧ ∃ ds, Vals [V.int i] ds ∧ Binds K fd ps ds
structure HasD (P : Program) (w : World) (K : PySem.W.Frag) (mg : Str → Option Value) (base : Heap) (k : Nat) (x : Str) (ps : List Str) (sp : Sp) (i : Int) : Prop where
  ex : ∃ (f : Addr) (fd : FuncData), FnOk P w K mg base (L2.CX P w) k f fd ps sp ∧ mg x = some (.ref f) ∧ PySem.W.keepIn K (.ref f) = true ∧ Binds K fd ps [] ∧ ∃ ds, Vals [V.int i] ds ∧ Binds K fd ps ds
section
variable {P : Program} {w : World} {K : PySem.W.Frag} {mg : Str → Option Value} {base : Heap} {k : Nat} {x : Str} {ps : List Str} {sp : Sp} {i : Int}
theorem hasD_of {st : Stmt} (D0 : DfD K mg x st ps i) (h : ∀ (f : Addr) (fd : FuncData), FunD K x x (defArgs st) (defBody st) (defScope st) [V.int i] [] f fd → FnOk P w K mg base (L2.CX P w) k f fd ps sp) : HasD P w K mg base k x ps sp i := by
  obtain ⟨f, fd, F, m, b, ds, r, b2⟩ := D0.ex
  exact ⟨f, fd, h f fd F, m, F.kp, b, ds, r, b2⟩
theorem HasD.has (h : HasD P w K mg base k x ps sp i) : Has P w K mg base k x ps sp := by
  obtain ⟨f, fd, F, m, kp, b, _⟩ := h.ex
  exact ⟨f, fd, F, m, kp, b⟩
theorem ok_PD {st : Stmt} {N : List Str} {t : TSD} {f : Addr} {fd : FuncData} {pf : PF} (Fn : FunD K x x (defArgs st) (defBody st) (defScope st) [V.int i] [] f fd) (S : FnScope N ps (defScope st)) (len : ∀ ds W R, pf ds W R → ds.length = ps.length)
    (hd : ∀ (X : Cx) (F : Fd) (f : Addr) (cdv : Value) (A : Around) (outer : List Env) (s : Shared) (H G : Hp) (sa sl sc : Addr) (E : XK), X = cxOf (L2.CX P w) P w K mg base N x (defScope st) f cdv A outer s H E → F = fdP K mg sa sl sc H G (fun cls d _ H => E cls d H) →
      Takes X F.W → Room k X.A → DSs X F (defBody st) t) (hq : ∀ (ds : List D) (W R : D → Prop), pf ds W R → t (endP W R) (envAt N.length ds) 0) : FnOk P w K mg base (L2.CX P w) (k + 1) f fd ps (spP K mg pf) := by
  refine FunD.ok (CX := L2.CX P w) Fn S (fun vs H Q E h => ?_) fun cdv A outer s H vs Q E hr h => ?_
  · obtain ⟨Z, ds, G, W, R, _, _, _, r, hp, _⟩ := h
    rw [← r.length]
    exact len _ _ _ hp
  · obtain ⟨⟨K', mg', sa, sl, sc⟩, ds, G, W, R, e1, e2, g, r, hp, kq, kx⟩ := h
    cases e1
    cases e2
    have ht := hd _ (fdP K' mg' sa sl sc H G (fun cls d _ H => E cls d H)) f cdv A outer s H G sa sl sc E rfl rfl (takes_of rfl rfl rfl rfl) hr
    refine ⟨_, ht, G, envAt N.length ds, 0, _, Sim.begin (Z := ⟨⟨K', mg', sa, sl, sc⟩, false, []⟩) g r (fun z => absurd z Bool.false_ne_true) (fun b s => absurd s.1 Bool.false_ne_true) (fun _ z => absurd z List.not_mem_nil), ?_, hq ds W R hp⟩
    refine ⟨fun σ' H' Hf' env' c' S' _ q => ?_, fun σ' H' Hf' env' c' d v S' _ r' q => ?_, fun σ' H' Hf' env' c' S' _ q => q.elim, fun σ' H' Hf' env' c' S' _ q => q.elim, fun σ' H' Hf' env' c' cls dx d S' x' q => ?_⟩
    · exact kq .non H' Hf' .non (S'.back rfl) (rp_non.mpr rfl) q
    · exact kq v H' Hf' d (S'.back rfl) r' q
    · exact kx cls dx H' Hf' d (S'.back rfl) x' q
theorem dfd_mk {st : Stmt} {f T : Addr} {h : Heap} {oc cT kV doc pm cdv ct : Value} {od dT an : Option Addr} {osl sT : Array (Option Value)} {its : Array Value} {n : Nat} (X : K.In h) (G : h.Ns mainGlobals mg) (a : PySem.W.nsIn K mainGlobals x = some (some (.ref f)))
    (l : K.lookup f = some ⟨oc, od, .func (PySem.W.fnOf x x (defArgs st) (defBody st) (defScope st) (.ref T) kV doc pm an cdv ct), osl⟩) (lT : K.lookup T = some ⟨cT, dT, .seq its n, sT⟩) (hi : ∃ t, its = #[.int i t]) (c : PySem.W.codeIn K cdv x = true) (kp : PySem.W.keepIn K (.ref f) = true) {m : Nat} (hm : m + 1 = ps.length)
    (b3 : ∀ (T : Addr) (kV doc pm : Value) (an : Option Addr) (cdv ct : Value) (us its : List Value), us.length = m → its.length = 1 →
      ∃ k, bindArgs (PySem.W.fnOf x x (defArgs st) (defBody st) (defScope st) (.ref T) kV doc pm an cdv ct) ⟨us, []⟩ = seqItems? (.ref T) >>= k ∧ k (some its.toArray) = pure (ps.zip (us ++ its.drop 0)))
    (b4 : ∀ (T : Addr) (kV doc pm : Value) (an : Option Addr) (cdv ct : Value) (us its : List Value), us.length = m + 1 → its.length = 1 →
      ∃ k, bindArgs (PySem.W.fnOf x x (defArgs st) (defBody st) (defScope st) (.ref T) kV doc pm an cdv ct) ⟨us, []⟩ = seqItems? (.ref T) >>= k ∧ k (some its.toArray) = pure (ps.zip (us ++ its.drop 1))) : DfD K mg x st ps i := by
  obtain ⟨t, rfl⟩ := hi
  have F : FunD K x x (defArgs st) (defBody st) (defScope st) [V.int i] [] f (PySem.W.fnOf x x (defArgs st) (defBody st) (defScope st) (.ref T) kV doc pm an cdv ct) :=
    ⟨⟨oc, od, .ref T, kV, doc, pm, an, cdv, ct, osl, rfl, l, c, .inr ⟨nofun, T, _, [.int i t], n, rfl, lT, rfl, .cons ⟨t, rfl⟩ .nil⟩, .inl rfl⟩, kp⟩
  obtain ⟨ds0, r0, B0⟩ := F.binds1 (ps := ps) (m + 1) 1 nofun (by simpa using hm) b4
  obtain ⟨ds1, r1, B1⟩ := F.binds1 (ps := ps) m 0 nofun (by simpa using hm) b3
  have e0 : ds0 = [] := by cases r0; rfl
  subst e0
  exact ⟨f, _, F, PySem.W.mg_of X G a, B0, ds1, r1, B1⟩
end
/-- f(e, ..) without the last one -/
@[simp] def tCallPD (f : PF) (z : D) (t : TAD) : TED := fun env c W Q => t env c W fun ds c1 => f (ds ++ [z]) (fun d => W d c1) fun d => Q d c1
theorem de_PD {X : Cx} {F : Fd} {k : Nat} {ps : List Str} {x : Str} {p pos : Pos} {e : Expr} {es : List Expr} {t : TAD} {pf : PF} {i : Int} (h : HasD X.prog X.w X.K X.mg X.base k x ps (spP X.K X.mg pf) i) (hr : Room k X.A) (tk : Takes X F.W) (ha : DA X F (e :: es) t) (hg : Gl X x := by rfl) (hK : F.Z.K = X.K := by rfl) (hM : F.Z.mg = X.mg := by rfl)
    (hdb : (x == ("__debug__" : Str)) = false := by decide) (he : starEach (e :: es) X.env = (false, eval e X.env) :: starEach es X.env := by rfl) (hpl : (backTo pos (starEach es X.env)).any (·.1) = false := by rfl) :
    DE X F (.Call (.Name x p) (e :: es) [] pos) (tCallPD pf (.int i) t) := by
  obtain ⟨f, fd, Fk, hm, hk, _, ds, r, hb⟩ := h.ex
  refine PE.imp (pe_callSD Fk hr hg hm hk hb r (fun σ => passAt tk σ) ha hdb he hpl) fun σ H Q ⟨Hf, env, c, Wd, Qd, S, x, ht, k⟩ => ?_
  refine ⟨Hf, env, c, Wd, _, S, x, ht, fun vs H1 Hf1 c1 ds S1 s1 k1 r1 q1 => ?_⟩
  refine ⟨F.Z.toWz, ds ++ [.int i], Hf1, _, _, hK, hM, S1.sub, r1.append (RpL.cons (rp_int.mpr rfl) RpL.nil), q1, fun v H' G' d g r q => ?_, fun cls dx H' G' d g i q => ?_⟩
  · exact k v H' G' c1 d (S1.grow g) (s1.trans g.hf) (k1.trans (Keep.of g.h)) r q
  · exact x cls dx H' G' c1 d (S1.grow g) i q
end DL
set_option Elab.async false
set_option linter.all false
set_option maxRecDepth 100000
set_option maxHeartbeats 1000000
/-! DL46: what is never reached; a docstring; d.pop(k, x); {(i, j): v}; (x,) * n. -/
namespace DL
open PySem PySem.Spec PyProof.Rows L2
section
variable {X : Cx} {F : Fd} {e : Expr} {st : Stmt} {rest : List Stmt} {t : TSD}
/-- never reached -/
@[simp] def tNoE : TED := fun _ _ _ _ => False
@[simp] def tNoS : TSD := fun _ _ _ => False
theorem de_never : DE X F e tNoE := ⟨fun pins s σ H Q I ⟨_, _, _, _, _, _, _, ht, _⟩ => ht.elim⟩
theorem ds_never : DS X F st tNoS := ⟨fun pins s σ H D I ⟨_, _, _, _, _, _, ht⟩ => ht.elim⟩
theorem dss_never : DSs X F rest tNoS := ⟨fun pins s σ H D I ⟨_, _, _, _, _, _, ht⟩ => ht.elim⟩
/-- a docstring is passed over -/
theorem dss_doc {x : Str} {j : Nat} {p pos : Pos} (h : DSs X F rest t) : DSs X F (.Expr (.Constant (.str x) j p) pos :: rest) t :=
  PSs.imp (pss_cons ps_doc h) fun D σ H ⟨Hf, env, c, Dd, S, L, q⟩ => ⟨Hf, env, c, Dd, S, L, q⟩
end
/-! ### d.pop(k, x) -/
open Classical in
noncomputable def dropVs : List D → List D → D → List D
  | k :: ks, v :: vs, d => if k = d then dropVs ks vs d else v :: dropVs ks vs d
  | _, _, _ => []
open Classical in
noncomputable def dropKs (ks : List D) (k : D) : List D := ks.filter fun k' => k' ≠ k
section
variable {Z : Wz} {H : Hp}
theorem drop_ks {κ : Type} [DecidableEq κ] {f : κ → D} (hf : ∀ a b, f a = f b → a = b) (k : κ) (kvs : List (κ × V)) : (dropK kvs k).map (fun p => f p.1) = dropKs (kvs.map fun p => f p.1) (f k) := by
  unfold dropK dropKs
  induction kvs with
  | nil => rfl
  | cons p r ih =>
    rw [List.map_cons]
    by_cases h : p.1 = k
    · rw [List.filter_cons_of_neg (by simpa using h), List.filter_cons_of_neg (by simpa using congrArg f h)]
      exact ih
    · rw [List.filter_cons_of_pos (by simpa using h), List.filter_cons_of_pos (by simpa using fun z => h (hf _ _ z)), List.map_cons, ih]
theorem drop_vs {κ : Type} [DecidableEq κ] {f : κ → D} (hf : ∀ a b, f a = f b → a = b) (k : κ) : ∀ {kvs : List (κ × V)} {vs : List D}, RpL Z H vs (kvs.map (fun p => p.2)) → RpL Z H (dropVs (kvs.map fun p => f p.1) vs (f k)) ((dropK kvs k).map (fun p => p.2))
  | [], vs, r => by
    rw [List.map_nil, dropVs.eq_def]
    exact RpL.nil
  | p :: t, vs, r => by
    cases vs with
    | nil => have z := rpL_nil.mp r; cases z
    | cons d ds =>
      obtain ⟨x, y, e, h1, h2⟩ := rpL_cons.mp r
      cases e
      have ih := drop_vs hf k h2
      rw [List.map_cons, dropVs]
      by_cases h : p.1 = k
      · rw [if_pos (congrArg f h)]
        have e2 : dropK (p :: t) k = dropK t k := List.filter_cons_of_neg (by simpa using h)
        rw [e2]
        exact ih
      · rw [if_neg fun z => h (hf _ _ z)]
        have e2 : dropK (p :: t) k = p :: dropK t k := List.filter_cons_of_pos (by simpa using h)
        rw [e2, List.map_cons]
        exact RpL.cons h1 ih
end
section
variable {X : Cx} {F : Fd} {e f : Expr} {tk tx te : TED} {pos : Pos}
@[simp] def tDPopD (j : Nat) (tk tx : TED) : TPD := fun env c W Q => match env[j]? with
  | some (.own (.dic true ks vs)) => tk env c W fun k c1 => tx env c1 W fun x c2 => keyFits true k ∧ match lookD ks vs k with
    | some v => Q v (env.set j (.own (.dic true (dropKs ks k) (dropVs ks vs k)))) c2
    | none => Q x env c2
  | _ => False
theorem dp_dpop (j : Nat) {x : Str} {p apos cpos : Pos} (hu : X.A.units + 1 < cLine) (he : DE X F e tk) (hf : DE X F f tx) (hx : PE X (.Name x p) (tVar j) := by exact pv _)
    (hbase : attributeBase (.Name x p) "pop" X.env (eval (.Name x p) X.env) = eval (.Name x p) X.env := by rfl)
    (hfew : ((backTo cpos (starEach (e :: [f]) X.env)).all (fun x => !x.1) && (backToKw cpos (keywordEach [] X.env)).all (fun x => x.1.isSome)
      && decide ((e :: [f]).length + ([] : List Keyword).length + (if ([] : List Keyword).isEmpty then 0 else 1) < 30)) = true := by rfl)
    (hline : (apos.endLine == cpos.line) = true := by rfl) (he2 : starEach (e :: [f]) X.env = (false, eval e X.env) :: starEach [f] X.env := by rfl) (hf2 : starEach (f :: []) X.env = (false, eval f X.env) :: starEach [] X.env := by rfl) (hplain : (backTo cpos (starEach [f] X.env)).any (·.1) = false := by rfl) :
    DP X F (.Call (.Attribute (.Name x p) "pop" apos) [e, f] [] cpos) (tDPopD j tk tx) :=
  PE.imp (pe_bm PySem.F.plainAttrs_dict PySem.F.slot_dict_pop PySem.F.type_dict_pop (DX.mt_popT hu) hx (pa_cons he (pa_cons hf pa_nil hf2) he2) hbase hfew hline he2 hplain) fun σ H Q ⟨Hf, env, c, Wd, Qd, S, xl, h, k⟩ => by
  unfold tDPopD at h
  split at h
  · rename_i ks vs e0
    obtain ⟨a, e1, h2, h3, h4, kvs, e5, r5⟩ := S.own j _ e0
    refine ⟨.ref a, e1, .inr (.inr (.inl ⟨rfl, .inr ⟨kvs, e5⟩⟩)), Hf, env, c, _, _, S, xl, h, fun v H' Hf' c' d S' s1 k1 r q => ?_⟩
    refine ⟨Hf', env, c', _, _, S', xl, q, fun v2 H2 Hf2 c2 d2 S2 s2 k2 r2 ⟨hf, q2⟩ => ?_⟩
    obtain ⟨a', g1, g2, g3, g4, o2⟩ := S2.own j _ e0
    rw [e1] at g1
    cases g1
    obtain ⟨kvs2, g5, rfl, q5⟩ := id o2
    cases d with
    | tup es =>
      obtain ⟨kk, hk⟩ := hf
      obtain rfl := kDs_of hk
      obtain ⟨b, ws, rfl, w1, w2⟩ := rp_tup.mp (Rp.mono s2 _ _ r)
      obtain rfl := rpL_kD w2
      have lv := look_val (fun k => D.tup (k.map kD)) kT_inj kk q5
      refine ⟨a, kvs2, kk, b, v2, rfl, rfl, g5, S2.sub _ _ w1, fun v3 hv => ?_, fun hv => ?_⟩
      · cases hl : lookD (kvs2.map fun p => D.tup (p.1.map kD)) vs (D.tup (kk.map kD)) with
        | some v4 =>
          rw [hl] at lv q2
          obtain ⟨v5, l1, l2⟩ := lv
          rw [hv] at l1
          cases l1
          exact k v3 _ Hf2 c2 v4 _ (S2.change (d' := .dic true (dropKs (kvs2.map fun p => D.tup (p.1.map kD)) (D.tup (kk.map kD))) (dropVs (kvs2.map fun p => D.tup (p.1.map kD)) vs (D.tup (kk.map kD)))) e0 e1 ⟨dropK kvs2 kk, upd_same, (drop_ks (f := fun k => D.tup (k.map kD)) kT_inj kk kvs2).symm, drop_vs (f := fun k => D.tup (k.map kD)) kT_inj kk q5⟩) (s1.trans s2) l2 q2
        | none =>
          rw [hl] at lv
          rw [hv] at lv
          cases lv
      · cases hl : lookD (kvs2.map fun p => D.tup (p.1.map kD)) vs (D.tup (kk.map kD)) with
        | some v4 =>
          rw [hl] at lv
          obtain ⟨v5, l1, l2⟩ := lv
          rw [hv] at l1
          cases l1
        | none =>
          rw [hl] at q2
          exact k v2 _ Hf2 c2 d2 _ S2 (s1.trans s2) r2 q2
    | _ => exact hf.elim
  · exact h.elim
end
/-! ### (x,) * n -/
@[simp] def repTD : RD
  | .tup ds, .int n, k => ds ≠ [] ∧ 2 ≤ n ∧ n ≤ 1000 ∧ ds.length ≤ 1000 ∧ k (.tup (List.replicate n.toNat ds).flatten)
  | .int i, .int j, k => mulD (.int i) (.int j) k
  | _, _, _ => False
theorem RpL.rep {Z : Wz} {H : Hp} {ds : List D} {vs : List V} (r : RpL Z H ds vs) : ∀ n : Nat, RpL Z H (List.replicate n ds).flatten (List.replicate n vs).flatten
  | 0 => RpL.nil
  | n + 1 => by
    rw [List.replicate_succ, List.replicate_succ, List.flatten_cons, List.flatten_cons]
    exact r.append (RpL.rep r n)
theorem op_repTD {X : Cx} {Z : Wz} (hK : Z.K = X.K := by rfl) : OpD X Z (binaryOp .Mult) repTD := by
  intro pins s σ H x y v u Q I rx ry h
  obtain ⟨Hf, d, e, k, sub, hx, hy, hr, kk⟩ := h
  unfold repTD at hr
  split at hr
  · obtain ⟨h1, h2, h3, h4, hr⟩ := hr
    rename_i ds n
    cases vrp_int hy
    obtain ⟨a, vs, rfl, t1, r1, _⟩ := vrp_tup sub hx
    refine op_repT pins s σ H _ _ v u Q I rx ry ⟨a, n, vs, rfl, rfl, SqT.of t1, fun z => ?_, h2, h3, by rw [← r1.length]; exact h4, fun p hp => ?_⟩
    · subst z
      have l := r1.length
      exact h1 (List.length_eq_zero_iff.mp l)
    · obtain ⟨g, r⟩ := new_tup sub hp (r1.rep n.toNat)
      exact kk _ _ _ _ g r hr
  · exact op_mulD pins s σ H x y v u Q I rx ry ⟨Hf, _, _, k, sub, hx, hy, hr, kk⟩
  · exact hr.elim
/-! ### {(i, j): v} -/
section
variable {X : Cx} {F : Fd} {ke ve : Expr} {tk tv : TED} {pos : Pos}
def tDispT1 (tk tv : TE) : TE := fun σ H Q => ∀ p, H p = none → tk σ (upd H p (.dT [])) fun x H1 => tv σ H1 fun y H2 => H2 p = some (.dT []) ∧ ∃ (k : List Key) (b : Addr), x = .ref b ∧ H2 b = some (.tup (k.map kV)) ∧ Q (.ref p) (upd H2 p (.dT [(k, y)]))
theorem disp_aux {tk tv : TE} {σ : L2.St} {H : Hp} {Q : VK} {p : Addr} (q : tk σ H fun x H1 => tv σ H1 fun y H2 => H2 p = some (.dT []) ∧ ∃ (k : List Key) (b : Addr), x = .ref b ∧ H2 b = some (.tup (k.map kV)) ∧ Q (.ref p) (upd H2 p (.dT [(k, y)])))
    (mk : ∀ σ H (Q Q' : VK), (∀ v H', Q v H' → Q' v H') → tk σ H Q → tk σ H Q') (mv : ∀ σ H (Q Q' : VK), (∀ v H', Q v H' → Q' v H') → tv σ H Q → tv σ H Q') :
    tPairs [(tk, tv)] σ H (fun ps H2 => ∃ x y, ps = [(x, y)] ∧ H2 p = some (.dT []) ∧ ∃ (k : List Key) (b : Addr), x = .ref b ∧ H2 b = some (.tup (k.map kV)) ∧ Q (.ref p) (upd H2 p (.dT [(k, y)]))) :=
  mk _ _ _ _ (fun x H1 q1 => mv _ _ _ _ (fun y H2 q2 => ⟨x, y, rfl, q2⟩) q1) q
theorem pe_dispT1 {tk tv : TE} (hu : X.A.units + 1 < cLine) (hk : PE X ke tk) (hv : PE X ve tv) (mk : ∀ σ H (Q Q' : VK), (∀ v H', Q v H' → Q' v H') → tk σ H Q → tk σ H Q') (mv : ∀ σ H (Q Q' : VK), (∀ v H', Q v H' → Q' v H') → tv σ H Q → tv σ H Q') :
    PE X (.Dict [some ke] [ve] pos) (tDispT1 tk tv) := by
  refine ⟨fun pins s σ H Q I q => ?_⟩
  have hn := I.hok.fresh (Nat.le_refl s.heap.objs.size)
  have I1 := I.laid (a := s.heap.objs.size) (o := .dT []) (h' := s.heap.push { cls := .type "dict", data := .dict #[] }) (t' := s.toks) (fun _ _ q => Heap.get?_push_of_some _ q) (Nat.le_refl _) (dt_empty s.heap I.big)
  have hl : (pairTrees [some ke] [ve] X.env pos).length = 1 := pairTrees_length _ _ _ _ rfl rfl
  have go := PPs.run (pps_cons (pos := pos) hk hv pps_nil) pins _ σ _ _ I1 (disp_aux (q _ hn) mk mv)
  rw [arm_eval_Dict, zip_pairTrees _ _ _ _ rfl rfl, dictDisplay_pairs _ (fun z => by rw [z] at hl; cases hl) (by omega)]
  refine wpAny_bind (wpAny_standAt (wpAny_bind (wpAny_subDictH (knd := tupleKind (mixKind X.prog X.w)) (Q := fun d s' => wpAny (model X.prog X.w) X.A (pure (Value.ref d)) (EP X pins σ Q) X.xe s') (show X.A.units < cLine by omega) (by omega) (thn go ?_))))
  rintro ws s2 ⟨ps, H2, I2, rel, x, y, ep, e, k, b, ex, hb, q2⟩
  subst ep ex
  cases rel with
  | @cons _ w _ wr h t =>
    cases t
    obtain ⟨w1, w2⟩ := w
    obtain ⟨h1, h2⟩ := h
    obtain rfl : w1 = Value.ref b := h1
    obtain ⟨z, hd, xs0, r0, dd⟩ := dt_of I2.hok e
    cases r0
    refine ⟨[(k, b, w2)], ⟨rfl, rfl, key_of I2.hok hb, trivial⟩, dd, fun h' tk dd' hs => wpAny_pure ?_⟩
    obtain ⟨o, es, ep, ho, hc, hdat, hes, his, hnd⟩ := dd'
    have hnb : b ≠ s.heap.objs.size := fun z => by rw [z, e] at hb; cases hb
    refine ⟨.ref s.heap.objs.size, _, d_write (t' := tk) (ob := .dT [(k, y)]) I2 (by rw [e]; exact True.intro) hs ⟨o, ho⟩ ⟨?_, hd, [(k, b, w2)], .cons ⟨rfl, by rw [upd_ne hnb]; exact hb, h2⟩ .nil, o, es, ep, ho, hc, hdat, hes, hnd⟩, rfl, q2⟩
    rw [sizeLine_eq, List.length_singleton]
    decide
theorem lift_mono {F : Fd} {t : TED} : ∀ σ H (Q Q' : VK), (∀ v H', Q v H' → Q' v H') → liftE F t σ H Q → liftE F t σ H Q' := fun σ H Q Q' i ⟨Hf, env, c, Wd, Qd, S, x, ht, k⟩ =>
  ⟨Hf, env, c, Wd, Qd, S, x, ht, fun v H' Hf' c' d S' s1 k1 r q => i v H' (k v H' Hf' c' d S' s1 k1 r q)⟩
/-- {k: v}, k a tuple -/
@[simp] def tDisp1 (tk tv : TED) : TED := fun env c W Q => tk env c W fun k c1 => tv env c1 W fun v c2 => keyFits true k ∧ Q (.dic true [k] [v]) c2
theorem do_dispT1 (hu : X.A.units + 1 < cLine) (hk : ∀ H0 G0 : Hp, DE X ⟨F.Z, H0, G0, F.W⟩ ke tk) (hv : ∀ H0 G0 : Hp, DE X ⟨F.Z, H0, G0, F.W⟩ ve tv) : DO X F (.Dict [some ke] [ve] pos) (tDisp1 tk tv) := by
  refine PE.imp (pe_dispT1 (tk := fun σ H Q => ∃ H0 G0 : Hp, liftE ⟨F.Z, H0, G0, F.W⟩ tk σ H Q) (tv := fun σ H Q => ∃ H0 G0 : Hp, liftE ⟨F.Z, H0, G0, F.W⟩ tv σ H Q) hu ⟨fun pins s σ H Q I ⟨H0, G0, q⟩ => (hk H0 G0).run pins s σ H Q I q⟩ ⟨fun pins s σ H Q I ⟨H0, G0, q⟩ => (hv H0 G0).run pins s σ H Q I q⟩
    (fun σ H Q Q' i ⟨H0, G0, q⟩ => ⟨H0, G0, lift_mono σ H Q Q' i q⟩) (fun σ H Q Q' i ⟨H0, G0, q⟩ => ⟨H0, G0, lift_mono σ H Q Q' i q⟩)) fun σ H Q ⟨Hf, env, c, Wd, Qd, S, x, ht, k⟩ p hp => ?_
  have f := S.fresh hp
  have S0 := S.laid hp (.dT [])
  have nf : ∀ {G : Hp} {Gf Gf' G' : Hp} {c' : Nat}, G p = some (.dT []) → Gf p = none → Sim F.Z (mask G σ env) Gf σ G' Gf' env c' → G' p = some (.dT []) ∧ Gf' p = none := fun {G Gf Gf' G' c'} e1 e2 B => by
    have m : mask G σ env p = some (.dT []) := by rw [mask_out f.ns]; exact e1
    refine ⟨B.keep p _ m fun z => f.nt z.t, ?_⟩
    cases q : Gf' p with
    | none => rfl
    | some o =>
      have z := B.new p (by rw [q]; exact fun z => by cases z) e2
      rw [m] at z
      rcases z with z | ⟨xs, z⟩ <;> cases z
  refine ⟨mask (upd H p (.dT [])) σ env, Hf, Hf, env, c, _, _, S0.enter, xl_enter S0 x, ht, fun y H1 Hf1 c1 kd S1 s1 k1 r1 q1 => ?_⟩
  obtain ⟨a1, b1⟩ := nf upd_same f.hf S1
  have J1 := S0.join (vs := []) S1 (fun _ _ => rfl) fun _ _ => rfl
  refine ⟨mask H1 σ env, Hf1, Hf1, env, c1, _, _, J1.enter, xl_enter J1 x, q1, fun z H2 Hf2 c2 vd S2 s2 k2 r2 ⟨hf, q2⟩ => ?_⟩
  obtain ⟨a2, b2⟩ := nf a1 b1 S2
  have J2 := J1.join (vs := []) S2 (fun _ _ => rfl) fun _ _ => rfl
  cases kd with
  | tup es =>
    obtain ⟨kk, hkk⟩ := hf
    obtain rfl := kDs_of hkk
    obtain ⟨b, ws, rfl, w1, w2⟩ := rp_tup.mp (Rp.mono s2 _ _ r1)
    obtain rfl := rpL_kD w2
    refine ⟨a2, kk, b, rfl, J2.sub _ _ w1, ?_⟩
    have f2 : Fresh F.Z F.H0 σ Hf2 env p := ⟨f.h0, b2, f.nt, f.ns⟩
    have J3 := J2.touch f2 (.dT [(kk, z)]) (fun u hu => by rw [a2] at hu; cases hu; exact ntab_dT)
    have kp : Keep F.Z H H2 := ((Keep.of (same_upd hp)).trans k1).trans k2
    exact k p _ Hf2 c2 (.dic true [D.tup (kk.map kD)] [vd]) J3 (s1.trans s2) (Keep.refl.upd hp kp _) f2 (fun o => Keep.refl.upd hp (Keep.refl.upd hp kp _) o) ⟨[(kk, z)], upd_same, rfl, RpL.cons r2 RpL.nil⟩ q2
  | _ => exact hf.elim
end
end DL
set_option Elab.async false
set_option linter.all false
set_option maxRecDepth 100000
set_option maxHeartbeats 1000000
/-! DL47: repr of trees of numbers: how long it is at most. -/
namespace DL
open PySem PySem.Spec PyProof.Rows L2
/-- a text of at most n signs, all of them code points -/
def fitS (x : Str) (n : Nat) : Prop := x.length ≤ n ∧ PyData.strOk x = true
theorem fitS.mono {x : Str} {n m : Nat} (h : fitS x n) (l : n ≤ m) : fitS x m := ⟨Nat.le_trans h.1 l, h.2⟩
theorem fitS.append {x y : Str} {n m : Nat} (h : fitS x n) (k : fitS y m) : fitS (x ++ y) (n + m) := by
  refine ⟨by rw [strLen_append]; exact Nat.add_le_add h.1 k.1, ?_⟩
  have h2 := h.2
  have k2 := k.2
  unfold PyData.strOk at h2 k2 ⊢
  show (x.cps ++ y.cps).all _ = true
  rw [Array.all_append, h2, k2]
  rfl
theorem fitS_lit (s : String) : fitS (Str.ofString s) s.length := by
  rw [Str.ofString_eq_toList]
  constructor
  · show (s.toList.map Char.toNat).toArray.size ≤ _
    rw [List.size_toArray, List.length_map]
    first | exact Nat.le_of_eq String.length_toList | exact Nat.le_refl _
  · unfold PyData.strOk
    rw [List.all_toArray, List.all_eq_true]
    intro c hc
    obtain ⟨d, _, rfl⟩ := List.mem_map.mp hc
    have := d.valid
    rw [decide_eq_true_eq]
    rcases this with h | h
    · exact Nat.lt_trans h (by decide)
    · exact h.2
theorem fitS_int {i : Int} (h : i.natAbs < 10 ^ 18) : fitS (Str.ofString (toString i)) 19 := by
  have dg : ∀ n : Nat, n < 10 ^ 18 → n.repr.length ≤ 18 := fun n hn => by
    rw [Nat.repr_eq_ofList_toDigits, String.length_ofList]
    exact (Nat.length_toDigits_le_iff (by omega) (by omega)).mpr hn
  refine (fitS_lit _).mono ?_
  cases i with
  | ofNat m => exact Nat.le_trans (dg m h) (by omega)
  | negSucc m =>
    show ("-" ++ m.succ.repr).length ≤ 19
    rw [String.length_append]
    have := dg m.succ h
    have e : "-".length = 1 := rfl
    omega
mutual
/-- signs at most -/
def wid : D → Nat
  | .int _ => 19
  | .bl _ => 5
  | .non => 4
  | .tup ds => 3 + widL ds
  | .lst ds => 2 + widL ds
  | _ => 0
def widL : List D → Nat
  | [] => 0
  | d :: ds => wid d + 2 + widL ds
end
mutual
/-- numbers, in tuples and lists -/
def numD : D → Bool
  | .int i => decide (i.natAbs < 10 ^ 18)
  | .bl _ => true
  | .non => true
  | .tup ds => numL ds
  | .lst ds => numL ds
  | _ => false
def numL : List D → Bool
  | [] => true
  | d :: ds => numD d && numL ds
end
def widS : List Str → Nat := fun ts => (ts.map fun t => t.length + 2).sum
theorem fitS_from : ∀ (ts : List Str) (k n : Nat) (acc : Str), fitS acc n → (∀ t ∈ ts, PyData.strOk t = true) → fitS (textFrom k acc ts) (n + widS ts)
  | [], k, n, acc, h, _ => h
  | t :: ts, k, n, acc, h, a => by
    have ht : fitS t t.length := ⟨Nat.le_refl _, a t (List.mem_cons_self ..)⟩
    have hs : fitS ((if k > 0 then ", " else "" : String) : Str) 2 := by
      split
      · exact fitS_lit _
      · exact (fitS_lit _).mono (by decide)
    have z := fitS_from ts (k + 1) _ _ ((h.append hs).append ht) fun u hu => a u (List.mem_cons_of_mem _ hu)
    refine fitS.mono z ?_
    show _ ≤ n + ((t.length + 2) + widS ts)
    omega
theorem fitS_join : ∀ (ts : List Str), (∀ t ∈ ts, PyData.strOk t = true) → fitS (Str.join ", " ts) (widS ts)
  | [], _ => (fitS_lit "").mono (Nat.zero_le _)
  | [t], a => ⟨by show t.length ≤ (t.length + 2) + 0; omega, a t (List.mem_cons_self ..)⟩
  | t :: u :: ts, a => by
    have z := fitS_join (u :: ts) fun u hu => a u (List.mem_cons_of_mem _ hu)
    have ht : fitS t t.length := ⟨Nat.le_refl _, a t (List.mem_cons_self ..)⟩
    have hs : fitS (", " : Str) 2 := fitS_lit _
    refine fitS.mono ((ht.append hs).append z) ?_
    show _ ≤ (t.length + 2) + widS (u :: ts)
    omega
mutual
theorem shown_num : ∀ d : D, numD d = true → fitS (toPy d).shown (wid d) ∧ (toPy d).showable = true ∧ (toPy d).hasDict = false ∧ plain d = true
  | .int i, h => by
    rw [numD, decide_eq_true_eq] at h
    rw [toPy, plain, PyData.shown, PyData.showable, PyData.hasDict, wid]
    refine ⟨fitS_int h, ?_, rfl, rfl⟩
    rw [decide_eq_true_eq]
    have e : i.natAbs < 2 ^ 60 := Nat.lt_trans h (by decide)
    by_cases z : i.natAbs = 0
    · rw [z]; decide
    · have := (Nat.log2_lt z).mpr e
      omega
  | .bl b, _ => by
    rw [toPy, plain, PyData.shown, PyData.showable, PyData.hasDict, wid]
    refine ⟨?_, rfl, rfl, rfl⟩
    cases b
    · exact fitS_lit "False"
    · exact (fitS_lit "True").mono (by decide)
  | .non, _ => by
    rw [toPy, plain, PyData.shown, PyData.showable, PyData.hasDict, wid]
    exact ⟨fitS_lit "None", rfl, rfl, rfl⟩
  | .tup ds, h => by
    rw [numD] at h
    obtain ⟨h1, h2, h3, h4, h5⟩ := shown_numL ds h
    rw [toPy, plain, PyData.shown, PyData.showable, PyData.hasDict, wid]
    refine ⟨?_, h3, h4, h5⟩
    unfold tupleText
    have a : fitS ("(" : Str) 1 := fitS_lit _
    have b : fitS ((if (PyData.shownAll (toPyL ds)).length == 1 then ",)" else ")" : String) : Str) 2 := by
      split
      · exact fitS_lit _
      · exact (fitS_lit _).mono (by decide)
    exact fitS.mono ((a.append (fitS_join _ h2)).append b) (by omega)
  | .lst ds, h => by
    rw [numD] at h
    obtain ⟨h1, h2, h3, h4, h5⟩ := shown_numL ds h
    rw [toPy, plain, PyData.shown, PyData.showable, PyData.hasDict, wid]
    refine ⟨?_, h3, h4, h5⟩
    unfold listText
    have a : fitS ("[" : Str) 1 := fitS_lit _
    have b : fitS ("]" : Str) 1 := fitS_lit _
    exact fitS.mono ((fitS_from _ 0 1 _ a h2).append b) (by omega)
theorem shown_numL : ∀ ds : List D, numL ds = true → widS (PyData.shownAll (toPyL ds)) ≤ widL ds ∧ (∀ t ∈ PyData.shownAll (toPyL ds), PyData.strOk t = true) ∧ PyData.showableAll (toPyL ds) = true ∧ PyData.hasDictAll (toPyL ds) = false ∧ plainL ds = true
  | [], _ => by
    rw [toPyL, PyData.shownAll, plainL, PyData.showableAll, PyData.hasDictAll]
    exact ⟨Nat.zero_le _, fun _ h => absurd h List.not_mem_nil, rfl, rfl, rfl⟩
  | d :: ds, h => by
    rw [numL, Bool.and_eq_true] at h
    obtain ⟨a1, a2, a3, a4⟩ := shown_num d h.1
    obtain ⟨b1, b2, b3, b4, b5⟩ := shown_numL ds h.2
    rw [toPyL, PyData.shownAll, plainL, PyData.showableAll, PyData.hasDictAll, widL, a2, a3, a4, b3, b4, b5]
    refine ⟨?_, fun t ht => ?_, rfl, rfl, rfl⟩
    · show ((toPy d).shown.length + 2) + widS _ ≤ _
      have := a1.1
      omega
    · rcases List.mem_cons.mp ht with rfl | ht
      · exact a1.2
      · exact b2 t ht
end
theorem show_num {d : D} (h : numD d = true) (hd : (toPy d).depth ≤ 60) (hw : wid d ≤ 16777216) : showD d = true ∧ PyData.strOk (textD d) = true := by
  obtain ⟨h1, h2, h3, h4⟩ := shown_num d h
  refine ⟨?_, h1.2⟩
  unfold showD
  rw [h2, h3, h4, decide_eq_true hd, decide_eq_true (by rw [sizeLine_eq]; exact Nat.le_trans h1.1 hw)]
  rfl
end DL
set_option Elab.async false
set_option linter.all false
set_option maxRecDepth 100000
set_option maxHeartbeats 1000000
/-! DL48: == and != of dicts: with an empty one; with keys that are tuples and values that are ints. -/
namespace DL
open PySem PySem.Calls PySem.Spec PyProof.Rows PyProof.V L2
section
variable {prog : Program} {w : World} {κ : Type} [DecidableEq κ] {knd : HeapKind prog w κ} {A : Around} {E : Value → Shared → Prop} {s : Shared}
inductive HitsH (prog : Program) (w : World) (A : Around) (s : Shared) (xb : List (κ × Addr × Value)) : List (κ × Addr × Value) → Bool → Prop
  | nil : HitsH prog w A s xb [] true
  | miss {k : κ} {a : Addr} {v : Value} {r : List (κ × Addr × Value)} : (∀ (j : Nat) (p : Addr × Value), xb[j]? ≠ some (k, p)) → HitsH prog w A s xb ((k, a, v) :: r) false
  | hit {k : κ} {a b : Addr} {v y : Value} {j : Nat} {r : List (κ × Addr × Value)} {e c : Bool} : xb[j]? = some (k, b, y) → SeqAt.EqP prog w A s v y e → HitsH prog w A s xb r c → HitsH prog w A s xb ((k, a, v) :: r) (e && c)
/-- the dicts' entries are compared -/
theorem samePairsH {nm : String} {a b : Addr} {xa xb : List (κ × Addr × Value)} {r : Bool} {Q : Bool → Shared → Prop} (hu : knd.room A) (ha : (a == sysModules) = false) (hb : (b == sysModules) = false)
    (da : s.heap.DictOfH knd a xa) (db : s.heap.DictOfH knd b xb) (hits : xa.length = xb.length → HitsH prog w A s xb xa r) (h : Q (xa.length == xb.length && r) s) :
    wpAny (model prog w) A (Builtin.Dict.samePairs nm a b) Q E s := by
  obtain ⟨oa, es, ep, hoa, _, hda, hea, hia, hna⟩ := da
  obtain ⟨ob, es', ep', hob, _, hdb, heb, hib, hnb⟩ := db
  have hla : xa.length = es.size := (size_of_entries hea).symm
  have hlb : xb.length = es'.size := (size_of_entries heb).symm
  rw [hla, hlb] at h
  unfold Builtin.Dict.samePairs Builtin.Dict.showsAll
  rw [if_neg (show ¬ (a == sysModules) = true by rw [ha]; exact Bool.false_ne_true), if_neg (show ¬ (b == sysModules) = true by rw [hb]; exact Bool.false_ne_true)]
  refine wpAny_bind (wpAny_pure (wpAny_bind (wpAny_pure ?_)))
  refine wpAny_bind (wpAny_dictEntries hoa hda ?_)
  dsimp only
  refine wpAny_bind (wpAny_dictEntries hob hdb ?_)
  by_cases hsz : es.size = es'.size
  case neg =>
    rw [if_pos (by simpa using hsz)]
    have hbf : (es.size == es'.size) = false := by simpa using hsz
    rw [hbf, Bool.false_and] at h
    exact wpAny_bind (wpAny_rule (wpAny_pure h))
  case pos =>
    have h' : Q r s := by simpa [hsz] using h
    have hits' := hits (by rw [hla, hlb]; exact hsz)
    rw [if_neg (by rw [hsz]; simp)]
    refine wpAny_bind (wpAny_dictEpoch hoa hda ?_)
    refine wpAny_bind ?_
    rw [Std.Legacy.Range.forIn_eq_forIn_range']
    simp only [Std.Legacy.Range.size, Nat.sub_zero, Nat.add_sub_cancel, Nat.div_one]
    refine wpAny_forIn_list _
      (fun rest q s' => s' = s ∧ q = (none, ()) ∧ ∃ i, rest = List.range' i (es.size - i) ∧ i ≤ es.size ∧ HitsH prog w A s xb (xa.drop i) r)
      _ ?_ ?_ _ _ ⟨rfl, rfl, 0, by simp, Nat.zero_le _, hits'⟩
    · rintro x rest q s' ⟨rfl, rfl, i, hr, hi, hpre⟩
      have hlt : i < es.size := by
        rcases Nat.lt_or_ge i es.size with h | h
        · exact h
        · rw [Nat.sub_eq_zero_of_le h] at hr; simp at hr
      obtain ⟨rfl, hrest⟩ : x = i ∧ rest = List.range' (i + 1) (es.size - (i + 1)) := by
        have e : es.size - i = (es.size - (i + 1)) + 1 := by omega
        rw [e, List.range'_succ] at hr
        injection hr with h1 h2
        exact ⟨h1, h2⟩
      refine wpAny_bind (wpAny_dictEntries hoa hda ?_)
      have hlt' : x < xa.length := by rw [hla]; exact hlt
      obtain ⟨k, ka, v, hkv⟩ : ∃ k ka v, xa[x] = (k, ka, v) := ⟨_, _, _, rfl⟩
      have hkv' : xa[x]? = some (k, ka, v) := by rw [List.getElem?_eq_getElem hlt', hkv]
      have hex : es[x]? = some ⟨knd.hash k, .ref ka, v⟩ := by rw [entry_at hea x, hkv']; rfl
      have hdrop : xa.drop x = (k, ka, v) :: xa.drop (x + 1) := by rw [← hkv]; exact List.drop_eq_getElem_cons hlt'
      have hkey : knd.is s'.heap k ka := hia _ (List.mem_of_getElem? hkv')
      rw [hdrop] at hpre
      rw [hex]
      dsimp only
      refine wpAny_bind (wpAny_holding (wpAny_bind (wpAny_dictFind_heap hu hkey hob hdb heb hib hnb (fun hn => ?_) fun j p hj => ?_)))
      · cases hpre with
        | miss _ =>
          refine wpAny_pure ?_
          show wpAny _ _ (if (!false) = true then _ else _) _ _ _
          rw [if_pos (by decide)]
          exact wpAny_pure (wpAny_pure h')
        | hit hj _ _ => exact absurd hj (hn _ _)
      · refine wpAny_bind (wpAny_dictEntries hob hdb ?_)
        rw [entry_at heb j, hj]
        cases hpre with
        | miss hn => exact absurd hj (hn _ _)
        | @hit _ _ b' _ y j' _ e c hj' he hrr =>
          have ejj : j' = j := idxH_unique hnb hj' hj
          subst ejj
          rw [hj] at hj'
          cases hj'
          refine wpAny_holding (he _ _ ?_)
          cases e with
          | false =>
            rw [Bool.false_and] at h'
            show wpAny _ _ (if (!false) = true then _ else _) _ _ _
            rw [if_pos (by decide)]
            exact wpAny_pure (wpAny_pure h')
          | true =>
            rw [Bool.true_and]
            show wpAny _ _ (if (!true) = true then _ else _) _ _ _
            rw [if_neg (by decide)]
            refine wpAny_bind (wpAny_dictEpoch hoa hda ?_)
            rw [if_neg (by simp)]
            exact wpAny_pure ⟨rfl, rfl, x + 1, hrest, hlt, hrr⟩
    · rintro q s' ⟨rfl, rfl, i, hr, hi, hpre⟩
      have hin : i = es.size := by
        rcases Nat.lt_or_ge i es.size with h | h
        · have e : es.size - i = (es.size - (i + 1)) + 1 := by omega
          rw [e, List.range'_succ] at hr; exact nomatch hr
        · exact Nat.le_antisymm hi h
      refine wpAny_pure ?_
      rw [hin, ← hla, List.drop_length] at hpre
      cases hpre
      exact h'
/-- the second one is empty -/
theorem samePairs0 {nm : String} {a b : Addr} {es : Array DictEntry} {ep ep' : Nat} {Q : Bool → Shared → Prop} (ha : (a == sysModules) = false) (hb : (b == sysModules) = false)
    (da : DT.Raw s.heap a es ep) (db : DT.Raw s.heap b #[] ep') (h : Q es.isEmpty s) :
    wpAny (model prog w) A (Builtin.Dict.samePairs nm a b) Q E s := by
  obtain ⟨oa, hoa, _, hda⟩ := da
  obtain ⟨ob, hob, _, hdb⟩ := db
  unfold Builtin.Dict.samePairs Builtin.Dict.showsAll
  rw [if_neg (show ¬ (a == sysModules) = true by rw [ha]; exact Bool.false_ne_true), if_neg (show ¬ (b == sysModules) = true by rw [hb]; exact Bool.false_ne_true)]
  refine wpAny_bind (wpAny_pure (wpAny_bind (wpAny_pure ?_)))
  refine wpAny_bind (wpAny_dictEntries hoa hda ?_)
  dsimp only
  refine wpAny_bind (wpAny_dictEntries hob hdb ?_)
  by_cases hz : es.size = 0
  · have e : es = #[] := Array.eq_empty_of_size_eq_zero hz
    subst e
    rw [if_neg (by simp)]
    refine wpAny_bind (wpAny_dictEpoch hoa hda ?_)
    refine wpAny_bind ?_
    rw [Std.Legacy.Range.forIn_eq_forIn_range']
    simp only [Std.Legacy.Range.size, List.size_toArray, List.length_nil, Nat.sub_zero, Nat.add_sub_cancel, Nat.div_one, List.range'_zero, List.forIn_nil]
    exact wpAny_pure (wpAny_pure h)
  · rw [if_pos (by simpa using hz)]
    have e : es.isEmpty = false := by rw [Array.isEmpty_eq_false_iff]; intro z; rw [z] at hz; exact hz rfl
    rw [e] at h
    exact wpAny_bind (wpAny_rule (wpAny_pure h))
end
section
variable {prog : Program} {w : World} {A : Around} {E : Value → Shared → Prop} {s : Shared} {a b : Addr} {r : Bool} {Q : Value → Shared → Prop}
theorem rc_dictEq (ta : s.TypeIs (.ref a) "dict") (tb : s.TypeIs (.ref b) "dict") (hu : A.units < cLine) (sp : ∀ (nm : String) (Q : Bool → Shared → Prop) (E : Value → Shared → Prop), Q r s → wpAny (model prog w) A.in1 (Builtin.Dict.samePairs nm a b) Q E s) (h : Q (.bool r) s) :
    wpAny (model prog w) A (compareOp .Eq (.ref a) (.ref b)) Q E s := by
  refine wpAny_richCompare_same_room (op := .Eq) ta tb PySem.F.slot_dict_eq (wpAny_call_entry PySem.F.slot_dict_eq ta PySem.F.entry_dict_eq ?_ (PySem.F.args_dict_eq_2 _ _)) hu
  show wpAny _ _ (Builtin.Dict.dictSlotArgs "__eq__" ⟨[.ref a, .ref b], []⟩ >>= _) _ _ s
  refine wpAny_bind ?_
  unfold Builtin.Dict.dictSlotArgs
  refine wpAny_bind (wpAny_notOrdered_dict ta ?_)
  show wpAny _ _ (pure (Value.ref a, Value.ref b)) _ _ s
  refine wpAny_pure ?_
  refine wpAny_bind (wpAny_isInstance (T := "dict") tb PySem.F.sub_dict_dict ?_)
  simp only [Bool.not_true, Bool.false_eq_true, if_false]
  refine wpAny_bind (wpAny_pure (wpAny_bind (wpAny_pure ?_)))
  refine wpAny_bind (sp _ _ _ ?_)
  refine wpAny_pure ⟨_, rfl, ?_, ?_⟩
  · exact fun x => nomatch x
  · simpa using h
theorem rc_dictNe (ta : s.TypeIs (.ref a) "dict") (tb : s.TypeIs (.ref b) "dict") (hu : A.units < cLine) (sp : ∀ (nm : String) (Q : Bool → Shared → Prop) (E : Value → Shared → Prop), Q r s → wpAny (model prog w) A.in1 (Builtin.Dict.samePairs nm a b) Q E s) (h : Q (.bool (!r)) s) :
    wpAny (model prog w) A (compareOp .NotEq (.ref a) (.ref b)) Q E s := by
  refine wpAny_richCompare_same_room (op := .NotEq) ta tb PySem.F.slot_dict_ne (wpAny_call_entry PySem.F.slot_dict_ne ta PySem.F.entry_dict_ne ?_ (PySem.F.args_dict_ne_2 _ _)) hu
  show wpAny _ _ (Builtin.Dict.dictSlotArgs "__ne__" ⟨[.ref a, .ref b], []⟩ >>= _) _ _ s
  refine wpAny_bind ?_
  unfold Builtin.Dict.dictSlotArgs
  refine wpAny_bind (wpAny_notOrdered_dict ta ?_)
  show wpAny _ _ (pure (Value.ref a, Value.ref b)) _ _ s
  refine wpAny_pure ?_
  refine wpAny_bind (wpAny_isInstance (T := "dict") tb PySem.F.sub_dict_dict ?_)
  simp only [Bool.not_true, Bool.false_eq_true, if_false]
  refine wpAny_bind (wpAny_pure (wpAny_bind (wpAny_pure ?_)))
  refine wpAny_bind (sp _ _ _ ?_)
  refine wpAny_pure ⟨_, rfl, ?_, ?_⟩
  · exact fun x => nomatch x
  · simpa using h
end
/-! ### over trees -/
def numsD (vs : List D) : Prop := ∀ v ∈ vs, ∃ i : Int, v = .int i
/-- each entry stands in the second one too -/
def hitD : Option D → D → Bool
  | some (.int j), .int i => i == j
  | _, _ => false
noncomputable def withinD : List D → List D → List D → List D → Bool
  | k :: ks, v :: vs, ks', vs' => hitD (lookD ks' vs' k) v && withinD ks vs ks' vs'
  | _, _, _, _ => true
theorem look_mem : ∀ {ks vs : List D} {k d : D}, lookD ks vs k = some d → d ∈ vs
  | [], vs, k, d, q => by rw [lookD.eq_def] at q; cases q
  | _ :: _, [], k, d, q => by rw [lookD.eq_def] at q; cases q
  | k0 :: ks, v0 :: vs, k, d, q => by
    rw [lookD] at q
    split at q
    · cases q; exact List.mem_cons_self ..
    · exact List.mem_cons_of_mem _ (look_mem q)
noncomputable def alikeD (ks vs ks' vs' : List D) : Bool := ks.length == ks'.length && withinD ks vs ks' vs'
section
variable {X : Cx} {pns : List (Addr × Obj)} {σ : L2.St} {H : Hp} {s : Shared}
theorem atKey_cases {κ : Type} [DecidableEq κ] {xs : List (κ × Addr × Value)} (hn : (xs.map (·.1)).Nodup) (k : κ) : (atKey xs k = none ∧ ∀ (j : Nat) (p : Addr × Value), xs[j]? ≠ some (k, p)) ∨ ∃ (j : Nat) (p : Addr × Value), xs[j]? = some (k, p) ∧ atKey xs k = some p := by
  by_cases h : ∃ (j : Nat) (p : Addr × Value), xs[j]? = some (k, p)
  · obtain ⟨j, p, hj⟩ := h
    exact .inr ⟨j, p, hj, atKey_of_get hn hj⟩
  · have hno : ∀ (j : Nat) (p : Addr × Value), xs[j]? ≠ some (k, p) := fun j p e => h ⟨j, p, e⟩
    exact .inl ⟨atKey_none_of_get hno, hno⟩
theorem hits_of {A : Around} {kvB : List (List Key × V)} {xb : List (List Key × Addr × Value)} {ZW : Wz} {Hf : Hp} {vB : List D} (rB : KT H kvB xb) (hn : (xb.map (·.1)).Nodup) (rv : RpL ZW Hf vB (kvB.map (fun p => p.2))) (iB : numsD vB) :
    ∀ {l : List (List Key × V)} {m : List (List Key × Addr × Value)} {vs : List D}, KT H l m → RpL ZW Hf vs (l.map (fun p => p.2)) → numsD vs →
      HitsH X.prog X.w A s xb m (withinD (l.map fun p => D.tup (p.1.map kD)) vs (kvB.map fun p => D.tup (p.1.map kD)) vB)
  | [], m, vs, r, rp, _ => by
    cases r
    rw [List.map_nil, withinD.eq_def]
    exact .nil
  | p :: l, m, vs, r, rp, iv => by
    cases r with
    | @cons _ q _ qs hq t =>
      obtain ⟨k, ka, v⟩ := q
      obtain ⟨hk, hb, hv⟩ := hq
      simp only at hk hb hv
      cases vs with
      | nil => have z := rpL_nil.mp rp; cases z
      | cons d ds =>
        obtain ⟨x, y, e, h1, h2⟩ := rpL_cons.mp rp
        cases e
        obtain ⟨i, rfl⟩ := iv d (List.mem_cons_self ..)
        have ih : HitsH X.prog X.w A s xb qs (withinD (l.map fun p => D.tup (p.1.map kD)) ds (kvB.map fun p => D.tup (p.1.map kD)) vB) := hits_of rB hn rv iB t h2 fun z hz => iv z (List.mem_cons_of_mem _ hz)
        have ex : p.2 = V.int i := rp_int.mp h1
        rw [ex] at hv
        obtain ⟨tk, rfl⟩ := hv
        have lv := look_val (fun k : List Key => D.tup (k.map kD)) kT_inj p.1 rv
        have vl := rB.val p.1
        rw [List.map_cons, withinD]
        rw [← hk]
        rcases atKey_cases hn p.1 with ⟨h0, hno⟩ | ⟨j, pq, hj, hs⟩
        · rw [h0] at vl
          have e0 : valV kvB p.1 = none := by
            cases q : valV kvB p.1 with
            | none => rfl
            | some z => rw [q] at vl; exact vl.elim
          cases q : lookD (kvB.map fun p => D.tup (p.1.map kD)) vB (D.tup (p.1.map kD)) with
          | none =>
            show HitsH _ _ _ _ _ _ (false && _)
            rw [Bool.false_and]
            exact .miss hno
          | some d =>
            rw [q] at lv
            obtain ⟨z, lz, _⟩ := lv
            rw [e0] at lz
            cases lz
        · rw [hs] at vl
          obtain ⟨b', u⟩ := pq
          cases q : lookD (kvB.map fun p => D.tup (p.1.map kD)) vB (D.tup (p.1.map kD)) with
          | none =>
            rw [q] at lv
            rw [lv] at vl
            exact vl.elim
          | some d =>
            rw [q] at lv
            obtain ⟨z, lz, rz⟩ := lv
            have dm : d ∈ vB := look_mem q
            obtain ⟨i2, rfl⟩ := iB d dm
            have ez := rp_int.mp rz
            rw [lz, ez] at vl
            obtain ⟨t2, hu⟩ : ∃ t2, u = .int i2 t2 := vl
            subst hu
            show HitsH _ _ _ _ _ _ ((i == i2) && _)
            exact .hit hj (SeqAt.EqAt.eqP (SeqAt.EqAt.int_int i tk i2 t2)) ih
end
/-- d == e, dicts -/
@[simp] def eqBD : RD
  | .dic t ks vs, .dic t' ks' vs', k => (ks' = [] ∧ vs' = [] ∧ k (.bl ks.isEmpty)) ∨ (t = true ∧ t' = true ∧ numsD vs ∧ numsD vs' ∧ k (.bl (alikeD ks vs ks' vs')))
  | _, _, _ => False
@[simp] def neBD : RD := fun d e k => eqBD d e fun g => match g with
  | .bl b => k (.bl (!b))
  | _ => False
section
variable {X : Cx} {Z : Wz} {pns : List (Addr × Obj)} {σ : L2.St} {H Hf : Hp} {s : Shared} {x y : V} {v u : Value} {Q : VK} {t t' : Bool} {ks vs ks' vs' : List D}
theorem dict_raw {t : Bool} {ks vs : List D} {x : V} (I : Inv X pns σ H s) (sub : Same Hf H) (hx : VRp Z Hf H (.dic t ks vs) x) : ∃ (a : Addr) (es : Array DictEntry) (ep : Nat), x = .ref a ∧ (a == sysModules) = false ∧ s.TypeIs (.ref a) "dict" ∧ DT.Raw s.heap a es ep ∧ es.size = ks.length := by
  cases t with
  | false =>
    obtain ⟨a, kvs, rfl, h1, rfl, h3⟩ := vrp_dicK sub hx
    obtain ⟨z, hd, xs, rel, dd⟩ := dk_rd I.hok h1
    have ty := dd.typeIs
    obtain ⟨o, es, ep, ho, hc, hda, hka, hpa, _⟩ := dd
    refine ⟨a, es, ep, rfl, hd, ty, ⟨o, ho, hc, hda⟩, ?_⟩
    rw [List.length_map, Paired.length rel, ← hpa.length, Array.length_toList]
  | true =>
    obtain ⟨a, kvs, rfl, h1, rfl, h3⟩ := vrp_dicT sub hx
    obtain ⟨z, hd, xs, rel, dd⟩ := dt_rd I.hok h1
    have ty := dd.typeIs
    obtain ⟨o, es, ep, ho, hc, hda, hea, _⟩ := dd
    refine ⟨a, es, ep, rfl, hd, ty, ⟨o, ho, hc, hda⟩, ?_⟩
    rw [List.length_map, Paired.length rel, size_of_entries hea]
theorem dict_same (hu : X.A.units + 1 < cLine) (I : Inv X pns σ H s) (sub : Same Hf H) (hx : VRp Z Hf H (.dic t ks vs) x) (hy : VRp Z Hf H (.dic t' ks' vs') y) {k : D → Prop} (hr : eqBD (.dic t ks vs) (.dic t' ks' vs') k) :
    ∃ (a b : Addr) (r : Bool), x = .ref a ∧ y = .ref b ∧ s.TypeIs (.ref a) "dict" ∧ s.TypeIs (.ref b) "dict" ∧ (∀ (nm : String) (Q : Bool → Shared → Prop) (E : Value → Shared → Prop), Q r s → wpAny (model X.prog X.w) X.A.in1 (Builtin.Dict.samePairs nm a b) Q E s) ∧ k (.bl r) := by
  rcases hr with ⟨rfl, rfl, hr⟩ | ⟨rfl, rfl, i1, i2, hr⟩
  · obtain ⟨a, es, ep, rfl, ha, ta, ra, la⟩ := dict_raw I sub hx
    obtain ⟨b, es', ep', rfl, hb, tb, rb, lb⟩ := dict_raw I sub hy
    have e' : es' = #[] := Array.eq_empty_of_size_eq_zero lb
    subst e'
    have e : es.isEmpty = ks.isEmpty := by
      rw [Bool.eq_iff_iff, Array.isEmpty_iff_size_eq_zero, la, List.isEmpty_iff_length_eq_zero]
    exact ⟨a, b, _, rfl, rfl, ta, tb, fun nm Q E h => samePairs0 ha hb ra rb (by rw [e]; exact h), hr⟩
  · obtain ⟨a, kvs, rfl, h1, rfl, h3⟩ := vrp_dicT sub hx
    obtain ⟨b, kvs', rfl, g1, rfl, g3⟩ := vrp_dicT sub hy
    obtain ⟨z, hd, xs, rel, dd⟩ := dt_rd I.hok h1
    obtain ⟨z', hd', xs', rel', dd'⟩ := dt_rd I.hok g1
    refine ⟨a, b, _, rfl, rfl, dd.typeIs, dd'.typeIs, fun nm Q E h => samePairsH (tupleKind_room_in1 hu) hd hd' dd dd' (r := withinD (kvs.map fun p => D.tup (p.1.map kD)) vs (kvs'.map fun p => D.tup (p.1.map kD)) vs') (fun _ => hits_of rel' dd'.nodup g3 i2 rel h3 i1) ?_, hr⟩
    unfold alikeD at h
    rw [List.length_map, List.length_map, Paired.length rel, Paired.length rel'] at h
    exact h
end
theorem op_eqBD {X : Cx} {Z : Wz} (hu : X.A.units + 1 < cLine) : OpD X Z (compareOp .Eq) eqBD := by
  intro pins s σ H x y v u Q I rx ry h
  obtain ⟨Hf, d, e, k, sub, hx, hy, hr, kk⟩ := h
  cases d with
  | dic t ks vs =>
    cases e with
    | dic t' ks' vs' =>
      obtain ⟨a, b, r, rfl, rfl, ta, tb, sp, q⟩ := dict_same hu I sub hx hy hr
      cases rx
      cases ry
      exact rc_dictEq ta tb (by omega) sp ⟨.bl _, H, I, rfl, kk _ H Hf _ (Grow.refl sub) (rp_bl.mpr rfl) q⟩
    | _ => exact hr.elim
  | _ => cases e <;> exact hr.elim
theorem op_neBD {X : Cx} {Z : Wz} (hu : X.A.units + 1 < cLine) : OpD X Z (compareOp .NotEq) neBD := by
  intro pins s σ H x y v u Q I rx ry h
  obtain ⟨Hf, d, e, k, sub, hx, hy, hr, kk⟩ := h
  unfold neBD at hr
  cases d with
  | dic t ks vs =>
    cases e with
    | dic t' ks' vs' =>
      obtain ⟨a, b, r, rfl, rfl, ta, tb, sp, q⟩ := dict_same hu I sub hx hy hr
      cases rx
      cases ry
      exact rc_dictNe ta tb (by omega) sp ⟨.bl _, H, I, rfl, kk _ H Hf _ (Grow.refl sub) (rp_bl.mpr rfl) q⟩
    | _ => exact hr.elim
  | _ => cases e <;> exact hr.elim
end DL
set_option Elab.async false
set_option linter.all false
set_option maxRecDepth 100000
set_option maxHeartbeats 1000000
namespace KC
open PySem PySem.Spec PyProof.Rows L2 DL
/-! ### is_between -/
def t_is_between : TSD :=
  (tRetD (tAndVD (tIsD .int (tVarB 0)) (tAndVD (tNotVD (tIsD .bool (tVarB 0))) (tChainD leD leD (tVarB 1) (tVarB 0) (tVarB 2)))))
structure pf_is_between (ds : List D) (W R : D → Prop) : Prop where
  len : ds.length = 3
  run : t_is_between (endP W R) (envAt 3 ds) 0
theorem l_is_between (ds : List D) (W R : D → Prop) (h : pf_is_between ds W R) : ds.length = 3 := h.1
theorem q_is_between (ds : List D) (W R : D → Prop) (h : pf_is_between ds W R) : t_is_between (endP W R) (envAt 3 ds) 0 := h.2
/-! ### need_prime -/
def t_need_prime : TSD :=
  (tIfSD (tOrD (tNotD (tTruD (tCallP pf_is_between (tConsD (tVarD 0) (tConsD (tCD (.int 2)) (tConsD (tCD (.int 7)) tNilD)))))) (tTestD (tOpD notInD (tVarB 0) (tLstD (tConsD (tCD (.int 2)) (tConsD (tCD (.int 3)) (tConsD (tCD (.int 5)) (tConsD (tCD (.int 7)) tNilD))))))))
  (tRaiseD "BadPrime")
  tNextD)
structure pf_need_prime (ds : List D) (W R : D → Prop) : Prop where
  len : ds.length = 1
  run : t_need_prime (endP W R) (envAt 1 ds) 0
theorem l_need_prime (ds : List D) (W R : D → Prop) (h : pf_need_prime ds W R) : ds.length = 1 := h.1
theorem q_need_prime (ds : List D) (W R : D → Prop) (h : pf_need_prime ds W R) : t_need_prime (endP W R) (envAt 1 ds) 0 := h.2
/-! ### is_term -/
def t_is_term : TSD :=
  (tSeqD (tIfSD (tOrD (tNotD (tTruD (tIsD .tup (tVarB 1)))) (tOrD (tTestD (tOpD neD (tCallD lenD (tConsD (tVarB 1) tNilD)) (tCD (.int 3)))) (tNotD (tTruD (tCallP pf_is_between (tConsD (tOpD ixD (tVarB 1) (tCD (.int 2))) (tConsD (tCD (.int 1)) (tConsD (tOpD subD (tVarB 0) (tCD (.int 1))) tNilD))))))))
  (tRetD (tCD (.bl false)))
  tNextD)
  (tRetD (tAndVD (tCallP pf_is_between (tConsD (tOpD ixD (tVarB 1) (tCD (.int 0))) (tConsD (tCD (.int 0)) (tConsD (tCD (.int 999)) tNilD)))) (tCallP pf_is_between (tConsD (tOpD ixD (tVarB 1) (tCD (.int 1))) (tConsD (tCD (.int 0)) (tConsD (tCD (.int 999)) tNilD)))))))
structure pf_is_term (ds : List D) (W R : D → Prop) : Prop where
  len : ds.length = 2
  run : t_is_term (endP W R) (envAt 2 ds) 0
theorem l_is_term (ds : List D) (W R : D → Prop) (h : pf_is_term ds W R) : ds.length = 2 := h.1
theorem q_is_term (ds : List D) (W R : D → Prop) (h : pf_is_term ds W R) : t_is_term (endP W R) (envAt 2 ds) 0 := h.2
/-! ### polys_right -/
def t_polys_right : TSD :=
  (tSeqD (tIfSD (tOrD (tNotD (tTruD (tIsD .tup (tVarB 1)))) (tNotD (tTruD (tCallD allD (tConsD (tLcDD (.one 4) [4] (tItD (tVarD 1)) tYesD (tCallP pf_is_term (tConsD (tVarD 0) (tConsD (tVarD 4) tNilD)))) tNilD)))))
  (tRetD (tCD (.bl false)))
  tNextD)
  (tRetD (tCallD allD (tConsD (tLcDD (.tup [2, 3]) [2, 3] (tZipD (tConsD (tVarD 1) (tConsD (tSlD (tVarB 1) (tPartD (tCD (.int 1))) tNoPartD) tNilD))) tYesD (tOpD ltD (tSlD (tVarB 2) tNoPartD (tPartD (tCD (.int 2)))) (tSlD (tVarB 3) tNoPartD (tPartD (tCD (.int 2)))))) tNilD))))
structure pf_polys_right (ds : List D) (W R : D → Prop) : Prop where
  len : ds.length = 2
  run : t_polys_right (endP W R) (envAt 5 ds) 0
theorem l_polys_right (ds : List D) (W R : D → Prop) (h : pf_polys_right ds W R) : ds.length = 2 := h.1
theorem q_polys_right (ds : List D) (W R : D → Prop) (h : pf_polys_right ds W R) : t_polys_right (endP W R) (envAt 5 ds) 0 := h.2
/-! ### is_poly -/
def t_is_poly : TSD :=
  (tSeqD (tDropD (tCallP pf_need_prime (tConsD (tVarD 0) tNilD)))
  (tRetD (tCallP pf_polys_right (tConsD (tVarD 0) (tConsD (tVarD 1) tNilD)))))
structure pf_is_poly (ds : List D) (W R : D → Prop) : Prop where
  len : ds.length = 2
  run : t_is_poly (endP W R) (envAt 2 ds) 0
theorem l_is_poly (ds : List D) (W R : D → Prop) (h : pf_is_poly ds W R) : ds.length = 2 := h.1
theorem q_is_poly (ds : List D) (W R : D → Prop) (h : pf_is_poly ds W R) : t_is_poly (endP W R) (envAt 2 ds) 0 := h.2
abbrev pf__law_draw : PFS := drawPF
/-! ### _law_pick -/
def t__law_pick : TSD :=
  (tRetD (tOpD ixD (tVarB 1) (tDrawn pf__law_draw (tConsD (tVarD 0) (tConsD (tCallD lenD (tConsD (tVarB 1) tNilD)) tNilD)))))
structure pf__law_pick (ds : List D) (c : Nat) (W : WD) (R : D → Nat → Prop) : Prop where
  len : ds.length = 2
  run : t__law_pick (endS W R) (envAt 2 ds) c
theorem l__law_pick (ds : List D) (c : Nat) (W : WD) (R : D → Nat → Prop) (h : pf__law_pick ds c W R) : ds.length = 2 := h.1
theorem q__law_pick (ds : List D) (c : Nat) (W : WD) (R : D → Nat → Prop) (h : pf__law_pick ds c W R) : t__law_pick (endS W R) (envAt 2 ds) c := h.2
/-! ### _law_mixed -/
def t__law_mixed : TSD :=
  (tSeqD (tParD [2, 3] (tConsO (tCallD listD (tConsD (tVarB 1) tNilD)) (tConsO (tLstD tNilD) tNilI)))
  (tSeqD (tWhileD (tTestD (tOpD neD (tVarB 2) (tLstD tNilD)))
  (tAppP 3 (tPopAtD 2 (tDrawn pf__law_draw (tConsD (tVarD 0) (tConsD (tCallD lenD (tConsD (tVarB 2) tNilD)) tNilD))))))
  (tFrzD 3 (tRetD (tVarD 3)))))
structure pf__law_mixed (ds : List D) (c : Nat) (W : WD) (R : D → Nat → Prop) : Prop where
  len : ds.length = 2
  run : t__law_mixed (endS W R) (envAt 4 ds) c
theorem l__law_mixed (ds : List D) (c : Nat) (W : WD) (R : D → Nat → Prop) (h : pf__law_mixed ds c W R) : ds.length = 2 := h.1
theorem q__law_mixed (ds : List D) (c : Nat) (W : WD) (R : D → Nat → Prop) (h : pf__law_mixed ds c W R) : t__law_mixed (endS W R) (envAt 4 ds) c := h.2
/-! ### _law_is_whole -/
def t__law_is_whole : TSD :=
  (tRetD (tAndVD (tIsD .int (tVarB 0)) (tNotVD (tIsD .bool (tVarB 0)))))
structure pf__law_is_whole (ds : List D) (W R : D → Prop) : Prop where
  len : ds.length = 1
  run : t__law_is_whole (endP W R) (envAt 1 ds) 0
theorem l__law_is_whole (ds : List D) (W R : D → Prop) (h : pf__law_is_whole ds W R) : ds.length = 1 := h.1
theorem q__law_is_whole (ds : List D) (W R : D → Prop) (h : pf__law_is_whole ds W R) : t__law_is_whole (endP W R) (envAt 1 ds) 0 := h.2
/-! ### _law_odd -/
def t__law_odd : TSD :=
  (tRetD (tDrawn pf__law_pick (tConsD (tVarD 0) (tConsD (tLstD (tConsD (tCD .non) (tConsD (tCD (.bl true)) (tConsD (tCD (.bl false)) (tConsD (tCD (.str "0")) (tConsD (tCD (.str "")) (tConsD (tLstD tNilD) (tConsD (tCD (.dic false [] [])) (tConsD (tTupD (tConsD (tCD .non) tNilD)) (tConsD (tTupD (tConsD (tCD (.str "a")) (tConsD (tCD (.int 1)) tNilD))) (tConsD (tLstD (tConsD (tLstD (tConsD (tCD (.int 0)) tNilD)) tNilD)) (tConsD (tCD (.dic false [.int 0] [.int 0])) (tConsD (tTupD (tConsD (tCD (.bl true)) tNilD)) (tConsD (tCD (.int 5)) (tConsD (tUnD negD (tCD (.int 1))) tNilD))))))))))))))) tNilD))))
structure pf__law_odd (ds : List D) (c : Nat) (W : WD) (R : D → Nat → Prop) : Prop where
  len : ds.length = 1
  run : t__law_odd (endS W R) (envAt 1 ds) c
theorem l__law_odd (ds : List D) (c : Nat) (W : WD) (R : D → Nat → Prop) (h : pf__law_odd ds c W R) : ds.length = 1 := h.1
theorem q__law_odd (ds : List D) (c : Nat) (W : WD) (R : D → Nat → Prop) (h : pf__law_odd ds c W R) : t__law_odd (endS W R) (envAt 1 ds) c := h.2
/-! ### _law_is_from -/
def t__law_is_from : TSD :=
  (tRetD (tAndVD (tCallP pf__law_is_whole (tConsD (tVarD 0) tNilD)) (tChainD leD leD (tVarB 1) (tVarB 0) (tVarB 2))))
structure pf__law_is_from (ds : List D) (W R : D → Prop) : Prop where
  len : ds.length = 3
  run : t__law_is_from (endP W R) (envAt 3 ds) 0
theorem l__law_is_from (ds : List D) (W R : D → Prop) (h : pf__law_is_from ds W R) : ds.length = 3 := h.1
theorem q__law_is_from (ds : List D) (W R : D → Prop) (h : pf__law_is_from ds W R) : t__law_is_from (endP W R) (envAt 3 ds) 0 := h.2
/-! ### _law_prime -/
def t__law_prime : TSD :=
  (tRetD (tDrawn pf__law_pick (tConsD (tVarD 0) (tConsD (tLstD (tConsD (tCD (.int 2)) (tConsD (tCD (.int 3)) (tConsD (tCD (.int 5)) (tConsD (tCD (.int 7)) tNilD))))) tNilD))))
structure pf__law_prime (ds : List D) (c : Nat) (W : WD) (R : D → Nat → Prop) : Prop where
  len : ds.length = 1
  run : t__law_prime (endS W R) (envAt 1 ds) c
theorem l__law_prime (ds : List D) (c : Nat) (W : WD) (R : D → Nat → Prop) (h : pf__law_prime ds c W R) : ds.length = 1 := h.1
theorem q__law_prime (ds : List D) (c : Nat) (W : WD) (R : D → Nat → Prop) (h : pf__law_prime ds c W R) : t__law_prime (endS W R) (envAt 1 ds) c := h.2
/-! ### _law_no_prime -/
def t__law_no_prime : TSD :=
  (tRetD (tDrawn pf__law_pick (tConsD (tVarD 0) (tConsD (tLstD (tConsD (tCD .non) (tConsD (tCD (.int 0)) (tConsD (tCD (.int 1)) (tConsD (tCD (.int 4)) (tConsD (tCD (.int 6)) (tConsD (tCD (.int 8)) (tConsD (tCD (.int 9)) (tConsD (tCD (.int 11)) (tConsD (tUnD negD (tCD (.int 2))) (tConsD (tCD (.bl true)) (tConsD (tCD (.str "2")) (tConsD (tTupD (tConsD (tCD (.int 2)) tNilD)) (tConsD (tLstD (tConsD (tCD (.int 3)) tNilD)) (tConsD (tCD (.dic false [] [])) (tConsD (tCD (.int 999999937)) tNilD)))))))))))))))) tNilD))))
structure pf__law_no_prime (ds : List D) (c : Nat) (W : WD) (R : D → Nat → Prop) : Prop where
  len : ds.length = 1
  run : t__law_no_prime (endS W R) (envAt 1 ds) c
theorem l__law_no_prime (ds : List D) (c : Nat) (W : WD) (R : D → Nat → Prop) (h : pf__law_no_prime ds c W R) : ds.length = 1 := h.1
theorem q__law_no_prime (ds : List D) (c : Nat) (W : WD) (R : D → Nat → Prop) (h : pf__law_no_prime ds c W R) : t__law_no_prime (endS W R) (envAt 1 ds) c := h.2
/-! ### _law_is_poly -/
def t__law_is_poly : TSD :=
  (tSeqD (tIfSD (tNotD (tTruD (tIsD .tup (tVarB 1))))
  (tRetD (tCD (.bl false)))
  tNextD)
  (tSeqD (tForD (.one 2) (tItD (tVarD 1))
  (tSeqD (tIfSD (tOrD (tNotD (tTruD (tIsD .tup (tVarB 2)))) (tOrD (tTestD (tOpD neD (tCallD lenD (tConsD (tVarB 2) tNilD)) (tCD (.int 3)))) (tNotD (tTruD (tCallP pf__law_is_from (tConsD (tOpD ixD (tVarB 2) (tCD (.int 2))) (tConsD (tCD (.int 1)) (tConsD (tOpD subD (tVarB 0) (tCD (.int 1))) tNilD))))))))
  (tRetD (tCD (.bl false)))
  tNextD)
  (tIfSD (tOrD (tNotD (tTruD (tCallP pf__law_is_from (tConsD (tOpD ixD (tVarB 2) (tCD (.int 0))) (tConsD (tCD (.int 0)) (tConsD (tCD (.int 999)) tNilD)))))) (tNotD (tTruD (tCallP pf__law_is_from (tConsD (tOpD ixD (tVarB 2) (tCD (.int 1))) (tConsD (tCD (.int 0)) (tConsD (tCD (.int 999)) tNilD)))))))
  (tRetD (tCD (.bl false)))
  tNextD)))
  (tRetD (tOpD eqD (tLcDD (.tup [3, 4]) [3, 4] (tZipD (tConsD (tVarD 1) (tConsD (tSlD (tVarB 1) (tPartD (tCD (.int 1))) tNoPartD) tNilD))) (tTestD (tOpD geD (tSlD (tVarB 3) tNoPartD (tPartD (tCD (.int 2)))) (tSlD (tVarB 4) tNoPartD (tPartD (tCD (.int 2)))))) (tCD (.int 1))) (tLstD tNilD)))))
structure pf__law_is_poly (ds : List D) (W R : D → Prop) : Prop where
  len : ds.length = 2
  run : t__law_is_poly (endP W R) (envAt 5 ds) 0
theorem l__law_is_poly (ds : List D) (W R : D → Prop) (h : pf__law_is_poly ds W R) : ds.length = 2 := h.1
theorem q__law_is_poly (ds : List D) (W R : D → Prop) (h : pf__law_is_poly ds W R) : t__law_is_poly (endP W R) (envAt 5 ds) 0 := h.2
/-! ### _law_poly -/
def t__law_poly : TSD :=
  (tSeqD (tSetD 4 (tDrawn pf__law_draw (tConsD (tVarD 0) (tConsD (tCD (.int 8)) tNilD))))
  (tSeqD (tIfSD (tTestD (tOpD eqD (tVarB 4) (tCD (.int 0))))
  (tRetD (tDrawn pf__law_pick (tConsD (tVarD 0) (tConsD (tLstD (tConsD (tTupD tNilD) (tConsD (tTupD (tConsD (tTupD (tConsD (tCD (.int 0)) (tConsD (tCD (.int 0)) (tConsD (tCD (.int 1)) tNilD)))) tNilD)) (tConsD (tTupD (tConsD (tTupD (tConsD (tCD (.int 0)) (tConsD (tCD (.int 0)) (tConsD (tOpD subD (tVarB 1) (tCD (.int 1))) tNilD)))) tNilD)) (tConsD (tTupD (tConsD (tTupD (tConsD (tVarD 2) (tConsD (tVarD 3) (tConsD (tCD (.int 1)) tNilD)))) tNilD)) tNilD))))) tNilD))))
  tNextD)
  (tSeqD (tSetD 5 (tLstD tNilD))
  (tSeqD (tForD (.one 6) (tRng1D (tConsD (tOpD addD (tVarB 2) (tCD (.int 1))) tNilD))
  (tSetD 5 (tOpD addD (tVarB 5) (tLcDD (.one 8) [8] (tRng1D (tConsD (tOpD addD (tVarB 3) (tCD (.int 1))) tNilD)) tYesD (tTupD (tConsD (tVarD 6) (tConsD (tVarD 8) tNilD)))))))
  (tSeqD (tIfSD (tTestD (tOpD ltD (tVarB 4) (tCD (.int 5))))
  (tSetD 5 (tSlD (tDrawn pf__law_mixed (tConsD (tVarD 0) (tConsD (tVarD 5) tNilD))) tNoPartD (tPartD (tOpD addD (tCD (.int 1)) (tDrawn pf__law_draw (tConsD (tVarD 0) (tConsD (tCD (.int 4)) tNilD)))))))
  tNextD)
  (tSeqD (tSetO 7 (tLcDD (.tup [6, 8]) [6, 8] (tItD (tCallD sort2D (tConsD (tVarB 5) tNilD))) tYesD (tTupD (tConsD (tVarD 6) (tConsD (tVarD 8) (tConsD (tDrawn pf__law_draw (tConsD (tVarD 0) (tConsD (tVarD 1) tNilD))) tNilD))))))
  (tFrzD 7 (tRetD (tCallD tupleD (tConsD (tLcDD (.one 9) [9] (tItD (tVarD 7)) (tTestD (tOpD neD (tOpD ixD (tVarB 9) (tCD (.int 2))) (tCD (.int 0)))) (tVarD 9)) tNilD))))))))))
structure pf__law_poly (ds : List D) (c : Nat) (W : WD) (R : D → Nat → Prop) : Prop where
  len : ds.length = 4
  run : t__law_poly (endS W R) (envAt 10 ds) c
theorem l__law_poly (ds : List D) (c : Nat) (W : WD) (R : D → Nat → Prop) (h : pf__law_poly ds c W R) : ds.length = 4 := h.1
theorem q__law_poly (ds : List D) (c : Nat) (W : WD) (R : D → Nat → Prop) (h : pf__law_poly ds c W R) : t__law_poly (endS W R) (envAt 10 ds) c := h.2
/-! ### _law_some -/
def t__law_some : TSD :=
  (tSeqD (tSetD 4 (tDrawn pf__law_poly (tConsD (tVarD 0) (tConsD (tVarD 1) (tConsD (tVarD 2) (tConsD (tVarD 3) tNilD))))))
  (tRetD (tIfD (tTestD (tOpD neD (tVarB 4) (tTupD tNilD))) (tVarD 4) (tTupD (tConsD (tTupD (tConsD (tDrawn pf__law_draw (tConsD (tVarD 0) (tConsD (tOpD addD (tVarB 2) (tCD (.int 1))) tNilD))) (tConsD (tDrawn pf__law_draw (tConsD (tVarD 0) (tConsD (tOpD addD (tVarB 3) (tCD (.int 1))) tNilD))) (tConsD (tOpD addD (tCD (.int 1)) (tDrawn pf__law_draw (tConsD (tVarD 0) (tConsD (tOpD subD (tVarB 1) (tCD (.int 1))) tNilD)))) tNilD)))) tNilD)))))
structure pf__law_some (ds : List D) (c : Nat) (W : WD) (R : D → Nat → Prop) : Prop where
  len : ds.length = 4
  run : t__law_some (endS W R) (envAt 5 ds) c
theorem l__law_some (ds : List D) (c : Nat) (W : WD) (R : D → Nat → Prop) (h : pf__law_some ds c W R) : ds.length = 4 := h.1
theorem q__law_some (ds : List D) (c : Nat) (W : WD) (R : D → Nat → Prop) (h : pf__law_some ds c W R) : t__law_some (endS W R) (envAt 5 ds) c := h.2
/-! ### _law_no_poly -/
def t__law_no_poly : TSD :=
  (tSeqD (tSetD 2 (tDrawn pf__law_some (tConsD (tVarD 0) (tConsD (tVarD 1) (tConsD (tCD (.int 3)) (tConsD (tCD (.int 3)) tNilD))))))
  (tSeqD (tSetD 3 (tDrawn pf__law_draw (tConsD (tVarD 0) (tConsD (tCallD lenD (tConsD (tVarB 2) tNilD)) tNilD))))
  (tSeqD (tTgD (.tup [4, 5, 6]) (tOpD ixD (tVarB 2) (tVarB 3)))
  (tSeqD (tSetO 7 (tLstD (tConsD (tTupD (tConsD (tVarD 4) (tConsD (tVarD 5) (tConsD (tCD (.int 0)) tNilD)))) (tConsD (tTupD (tConsD (tVarD 4) (tConsD (tVarD 5) (tConsD (tVarD 1) tNilD)))) (tConsD (tTupD (tConsD (tVarD 4) (tConsD (tVarD 5) (tConsD (tUnD negD (tCD (.int 1))) tNilD)))) (tConsD (tTupD (tConsD (tUnD negD (tCD (.int 1))) (tConsD (tVarD 5) (tConsD (tVarD 6) tNilD)))) (tConsD (tTupD (tConsD (tCD (.int 1000)) (tConsD (tVarD 5) (tConsD (tVarD 6) tNilD)))) (tConsD (tTupD (tConsD (tVarD 4) (tConsD (tCD (.int 1000)) (tConsD (tVarD 6) tNilD)))) (tConsD (tTupD (tConsD (tVarD 4) (tConsD (tVarD 5) tNilD))) (tConsD (tTupD (tConsD (tVarD 4) (tConsD (tVarD 5) (tConsD (tVarD 6) (tConsD (tCD (.int 0)) tNilD))))) tNilD))))))))))
  (tSeqD (tSetO 7 (tLcDD (.one 8) [8] (tItD (tOpD addD (tVarB 7) (tLstD (tConsD (tLstD (tConsD (tVarD 4) (tConsD (tVarD 5) (tConsD (tVarD 6) tNilD)))) (tConsD (tCD .non) (tConsD (tTupD (tConsD (tVarD 4) (tConsD (tVarD 5) (tConsD (tCD (.bl true)) tNilD)))) (tConsD (tTupD (tConsD (tVarD 4) (tConsD (tVarD 5) (tConsD (tCD (.str "1")) tNilD)))) (tConsD (tTupD (tConsD (tCD .non) (tConsD (tVarD 5) (tConsD (tVarD 6) tNilD)))) tNilD)))))))) tYesD (tOpD addD (tOpD addD (tSlD (tVarB 2) tNoPartD (tPartD (tVarD 3))) (tTupD (tConsD (tVarD 8) tNilD))) (tSlD (tVarB 2) (tPartD (tOpD addD (tVarB 3) (tCD (.int 1)))) tNoPartD))))
  (tSeqD (tIfSD (tTestD (tOpD ltD (tVarB 4) (tCD (.int 2))))
  (tAppD 7 (tOpD addD (tOpD addD (tSlD (tVarB 2) tNoPartD (tPartD (tVarD 3))) (tTupD (tConsD (tTupD (tConsD (tOpD eqD (tVarB 4) (tCD (.int 1))) (tConsD (tVarD 5) (tConsD (tVarD 6) tNilD)))) tNilD))) (tSlD (tVarB 2) (tPartD (tOpD addD (tVarB 3) (tCD (.int 1)))) tNoPartD)))
  tNextD)
  (tSeqD (tSetD 7 (tOpD addD (tVarB 7) (tLstD (tConsD (tCallD listD (tConsD (tVarB 2) tNilD)) (tConsD (tOpD addD (tVarB 2) (tSlD (tVarB 2) (tPartD (tUnD negD (tCD (.int 1)))) tNoPartD)) (tConsD (tIfD (tTestD (tOpD eqD (tCallD lenD (tConsD (tVarB 2) tNilD)) (tCD (.int 1)))) (tOpD addD (tTupD (tConsD (tOpD ixD (tVarB 2) (tUnD negD (tCD (.int 1)))) tNilD)) (tSlD (tVarB 2) tNoPartD (tPartD (tCD (.int 1))))) (tRevT (tVarB 2))) (tConsD (tCD .non) (tConsD (tCD (.int 0)) (tConsD (tCD (.str "x")) (tConsD (tCD (.dic false [] [])) (tConsD (tTupD (tConsD (tCD (.int 0)) tNilD)) tNilD)))))))))))
  (tRetD (tDrawn pf__law_pick (tConsD (tVarD 0) (tConsD (tLcDD (.one 9) [9] (tItD (tVarD 7)) (tNotD (tTruD (tCallP pf__law_is_poly (tConsD (tVarD 1) (tConsD (tVarD 9) tNilD))))) (tVarD 9)) tNilD)))))))))))
structure pf__law_no_poly (ds : List D) (c : Nat) (W : WD) (R : D → Nat → Prop) : Prop where
  len : ds.length = 2
  run : t__law_no_poly (endS W R) (envAt 10 ds) c
theorem l__law_no_poly (ds : List D) (c : Nat) (W : WD) (R : D → Nat → Prop) (h : pf__law_no_poly ds c W R) : ds.length = 2 := h.1
theorem q__law_no_poly (ds : List D) (c : Nat) (W : WD) (R : D → Nat → Prop) (h : pf__law_no_poly ds c W R) : t__law_no_poly (endS W R) (envAt 10 ds) c := h.2
end KC
set_option Elab.async false
set_option linter.all false
set_option maxRecDepth 100000
set_option maxHeartbeats 1000000
namespace KC
open PySem PySem.Spec L2 DL
/-! ### is_between, need_prime, is_term -/
def between (d : D) (lo hi : Int) : Bool := match d with
  | .int i => decide (lo ≤ i) && decide (i ≤ hi)
  | _ => false
theorem between_int (i lo hi : Int) : between (.int i) lo hi = (decide (lo ≤ i) && decide (i ≤ hi)) := rfl
theorem between_of {d : D} {lo hi : Int} (h : between d lo hi = true) : ∃ i, d = .int i ∧ lo ≤ i ∧ i ≤ hi := by
  cases d with
  | int i => rw [between_int, Bool.and_eq_true, decide_eq_true_eq, decide_eq_true_eq] at h; exact ⟨i, rfl, h⟩
  | _ => cases h
theorem s_is_between {d : D} {lo hi : Int} {W R : D → Prop} (ht : tyd d = true) (hR : R (.bl (between d lo hi))) : pf_is_between [d, .int lo, .int hi] W R := by
  refine ⟨rfl, ?_⟩
  cases d with
  | int i =>
    by_cases h : lo ≤ i
    · simpa [t_is_between, isTy, tyN_some, between, h] using hR
    · simpa [t_is_between, isTy, tyN_some, between, h] using hR
  | _ => first | (simp [tyd, tyN] at ht; done) | simpa [t_is_between, isTy, tyN_some, between] using hR
def isPrm (d : D) : Bool := match d with
  | .int i => decide (i = 2) || decide (i = 3) || decide (i = 5) || decide (i = 7)
  | _ => false
theorem s_need_prime {d : D} {W R : D → Prop} (ht : tyd d = true) (hR : if isPrm d = true then R .non else W (.exc "BadPrime" [])) : pf_need_prime [d] W R := by
  refine ⟨rfl, ?_⟩
  simp [t_need_prime]
  refine s_is_between ht ?_
  by_cases hb : between d 2 7 = true
  · simp [hb]
    cases d with
    | int i =>
      rw [between, Bool.and_eq_true, decide_eq_true_eq, decide_eq_true_eq] at hb
      simp
      by_cases e2 : i = 2
      · subst e2; simpa [isPrm] using hR
      · by_cases e3 : i = 3
        · subst e3; simpa [isPrm] using hR
        · by_cases e5 : i = 5
          · subst e5; simpa [isPrm] using hR
          · by_cases e7 : i = 7
            · subst e7; simpa [isPrm] using hR
            · rw [if_pos ⟨Ne.symm e2, Ne.symm e3, Ne.symm e5, Ne.symm e7⟩]
              simpa [isPrm, e2, e3, e5, e7] using hR
    | _ => simp [between] at hb
  · simp [hb]
    cases d with
    | int i =>
      have n2 : i ≠ 2 := fun e => by subst e; simp [between] at hb
      have n3 : i ≠ 3 := fun e => by subst e; simp [between] at hb
      have n5 : i ≠ 5 := fun e => by subst e; simp [between] at hb
      have n7 : i ≠ 7 := fun e => by subst e; simp [between] at hb
      simpa [isPrm, n2, n3, n5, n7] using hR
    | _ => simpa [isPrm] using hR
def isTerm (p : Int) (d : D) : Bool := match d with
  | .tup [i, j, c] => between c 1 (p - 1) && between i 0 999 && between j 0 999
  | _ => false
theorem isTerm_of {p : Int} {d : D} (h : isTerm p d = true) : ∃ i j c : Int, d = .tup [.int i, .int j, .int c] ∧ 0 ≤ i ∧ i ≤ 999 ∧ 0 ≤ j ∧ j ≤ 999 ∧ 1 ≤ c ∧ c ≤ p - 1 := by
  unfold isTerm at h
  split at h
  · rw [Bool.and_eq_true, Bool.and_eq_true] at h
    obtain ⟨⟨h1, h2⟩, h3⟩ := h
    obtain ⟨c, rfl, c1, c2⟩ := between_of h1
    obtain ⟨i, rfl, i1, i2⟩ := between_of h2
    obtain ⟨j, rfl, j1, j2⟩ := between_of h3
    exact ⟨i, j, c, rfl, i1, i2, j1, j2, c1, c2⟩
  · cases h
/-- isinstance tells the type, and in a tuple the items' types -/
def tyd1 (d : D) : Bool := tyd d && match d with
  | .tup ds => ds.all tyd
  | _ => true
theorem tyd1_tyd {d : D} (h : tyd1 d = true) : tyd d = true := by
  unfold tyd1 at h; rw [Bool.and_eq_true] at h; exact h.1
theorem s_is_term {p : Int} {d : D} {W R : D → Prop} (ht : tyd1 d = true) (hR : R (.bl (isTerm p d))) : pf_is_term [.int p, d] W R := by
  refine ⟨rfl, ?_⟩
  have ht1 := tyd1_tyd ht
  cases d with
  | tup ds =>
    have ha : ds.all tyd = true := by simpa [tyd1] using ht
    match ds, ha, hR with
    | [a, b, e], ha, hR =>
      simp at ha
      simp [t_is_term, tyN_some]
      refine s_is_between ha.2.2 ?_
      simp only [isTerm] at hR
      by_cases h1 : between e 1 (p - 1) = true
      · simp [h1]
        refine s_is_between ha.1 ?_
        by_cases h2 : between a 0 999 = true
        · simp [h2]
          refine s_is_between ha.2.1 ?_
          simpa [h1, h2] using hR
        · simpa [h1, h2] using hR
      · simpa [h1] using hR
    | [], _, hR => simpa [t_is_term, tyN_some, isTerm] using hR
    | [_], _, hR => simpa [t_is_term, tyN_some, isTerm] using hR
    | [_, _], _, hR => simpa [t_is_term, tyN_some, isTerm] using hR
    | a :: b :: e :: f :: r, _, hR =>
      have n3 : ¬ (r.length : Int) + 1 + 1 + 1 + 1 = 3 := by omega
      simpa [t_is_term, tyN_some, n3, isTerm] using hR
  | _ => first | (simp [tyd, tyN] at ht1; done) | simpa [t_is_term, isTy, tyN_some, isTerm] using hR
/-! ### polys -/
/-- the first of a pair is below the second, both terms -/
def lowP (a b : D) : Bool := match a, b with
  | .tup (.int i :: .int j :: _), .tup (.int k :: .int l :: _) => HT.lexLt [i, j] [k, l]
  | _, _ => false
def risingP : List D → Bool
  | a :: b :: r => lowP a b && risingP (b :: r)
  | _ => true
def isPolyD (p : Int) (d : D) : Bool := match d with
  | .tup ds => ds.all (isTerm p) && risingP ds
  | _ => false
/-- isinstance tells the types, to the second level -/
def tyd2 (d : D) : Bool := tyd d && match d with
  | .tup ds => ds.all tyd1
  | _ => true
theorem tyd2_tyd {d : D} (h : tyd2 d = true) : tyd d = true := by
  unfold tyd2 at h; rw [Bool.and_eq_true] at h; exact h.1
/-- a value that is judged: types told, not too long -/
def judge (d : D) : Prop := tyd2 d = true ∧ ∀ ds, d = .tup ds → ds.length ≤ 1000000
theorem blsD_bl (f : D → Bool) (ds : List D) : blsD (ds.map fun d => D.bl (f d)) = some (ds.map f) := by
  have := blsD_map (ds.map f)
  rwa [List.map_map] at this
/-- neighbours -/
def nbs (ds : List D) : List D := List.zipWith pairD ds (ds.drop 1)
def lowN (d : D) : Bool := match d with
  | .tup [a, b] => lowP a b
  | _ => false
theorem nbs_low : ∀ ds : List D, (nbs ds).all lowN = risingP ds
  | [] => rfl
  | [_] => rfl
  | a :: b :: r => by
    have ih := nbs_low (b :: r)
    simp only [nbs, List.drop_succ_cons, List.drop_zero, List.zipWith_cons_cons, List.all_cons, risingP, pairD, lowN] at ih ⊢
    rw [← ih]
theorem nbs_mem {ds : List D} {d : D} (h : d ∈ nbs ds) : ∃ a b, d = .tup [a, b] ∧ a ∈ ds ∧ b ∈ ds := by
  unfold nbs at h
  obtain ⟨i, hi⟩ := List.getElem?_of_mem h
  rw [List.getElem?_zipWith_eq_some] at hi
  obtain ⟨a, b, h1, h2, h3⟩ := hi
  exact ⟨a, b, h3.symm, List.mem_of_getElem? h1, List.mem_of_mem_drop (List.mem_of_getElem? h2)⟩
theorem cut1 (ds : List D) : cutD ds (some 1) none = ds.drop 1 := by
  cases ds with
  | nil => rfl
  | cons a r => simp [cutD, HT.sIx]
theorem s_polys_right {p : Int} {d : D} {W R : D → Prop} (hj : judge d) (hR : R (.bl (isPolyD p d))) : pf_polys_right [.int p, d] W R := by
  refine ⟨rfl, ?_⟩
  obtain ⟨ht, hl⟩ := hj
  have ht1 := tyd2_tyd ht
  cases d with
  | tup ds =>
    have hd := hl ds rfl
    have ha : ∀ x ∈ ds, tyd1 x = true := by simpa [tyd2] using ht
    simp [t_polys_right, tyN_some]
    refine lc_map (fun x => .bl (isTerm p x)) ds [] (by rw [sizeLine_eq]; simp; omega) (fun x hx k1 hk => ?_) ?_
    · simp
      exact s_is_term (ha x hx) hk
    · simp [blsD_bl]
      by_cases h1 : ∀ x ∈ ds, isTerm p x = true
      · rw [if_pos h1, cut1]
        refine lc_map (fun x => .bl (lowN x)) (nbs ds) [] (by rw [sizeLine_eq]; simp [nbs]; omega) (fun x hx k1 hk => ?_) ?_
        · obtain ⟨a, b, rfl, ha1, hb1⟩ := nbs_mem hx
          obtain ⟨i, j, e, rfl, _⟩ := isTerm_of (h1 _ ha1)
          obtain ⟨k, l, e2, rfl, _⟩ := isTerm_of (h1 _ hb1)
          simpa [DL.cutD, HT.sIx, lowN, lowP] using hk
        · simp [blsD_bl]
          have e : isPolyD p (.tup ds) = true ↔ ∀ x ∈ nbs ds, lowN x = true := by
            simp only [isPolyD, Bool.and_eq_true, List.all_eq_true, ← nbs_low]
            exact ⟨fun z => z.2, fun z => ⟨h1, z⟩⟩
          have e2 : isPolyD p (.tup ds) = (nbs ds).all lowN := by
            rw [Bool.eq_iff_iff, e, List.all_eq_true]
          rwa [e2] at hR
      · rw [if_neg h1]
        have e : isPolyD p (.tup ds) = false := by
          rw [Bool.eq_false_iff]
          intro z
          simp only [isPolyD, Bool.and_eq_true, List.all_eq_true] at z
          exact h1 z.1
        rwa [e] at hR
  | _ => first | (simp [tyd, tyN] at ht1; done) | simpa [t_polys_right, isTy, tyN_some, isPolyD] using hR
theorem s_is_poly {q d : D} {W R : D → Prop} (hq : tyd q = true) (hj : judge d) (hR : if isPrm q = true then (match q with | .int p => R (.bl (isPolyD p d)) | _ => True) else W (.exc "BadPrime" [])) : pf_is_poly [q, d] W R := by
  refine ⟨rfl, ?_⟩
  simp [t_is_poly]
  refine s_need_prime hq ?_
  by_cases h : isPrm q = true
  · rw [if_pos h] at hR ⊢
    cases q with
    | int p => exact s_polys_right hj hR
    | _ => cases h
  · rw [if_neg h] at hR ⊢
    exact hR
/-! ### draws -/
theorem s__law_pick {ds : List D} {c : Nat} {W : WD} {R : D → Nat → Prop} (hc : c < cap) (h0 : ds ≠ []) (h1 : ds.length < 1073741824) (h : ∀ d ∈ ds, R d (c + 1)) : pf__law_pick [.st, .lst ds] c W R := by
  refine ⟨rfl, ?_⟩
  have hp : 0 < ds.length := List.length_pos_iff.mpr h0
  simp [t__law_pick]
  refine draw_ok hc hp h1 fun v hv => ?_
  have e := atI_nat (List.getElem?_eq_getElem hv)
  simp [e]
  exact h _ (List.getElem_mem hv)
theorem s__law_pickT {ds : List D} {c : Nat} {W : WD} {R : D → Nat → Prop} (hc : c < cap) (h0 : ds ≠ []) (h1 : ds.length < 1073741824) (h : ∀ d ∈ ds, R d (c + 1)) : pf__law_pick [.st, .tup ds] c W R := by
  refine ⟨rfl, ?_⟩
  have hp : 0 < ds.length := List.length_pos_iff.mpr h0
  simp [t__law_pick]
  refine draw_ok hc hp h1 fun v hv => ?_
  have e := atI_nat (List.getElem?_eq_getElem hv)
  simp [e]
  exact h _ (List.getElem_mem hv)
theorem s__law_odd {c : Nat} {W : WD} {R : D → Nat → Prop} (hc : c < cap) (h : ∀ d ∈ ([.non, .bl true, .bl false, .str "0", .str "", .lst [], .dic false [] [], .tup [.non], .tup [.str "a", .int 1], .lst [.lst [.int 0]], .dic false [.int 0] [.int 0], .tup [.bl true], .int 5, .int (-1)] : List D), R d (c + 1)) : pf__law_odd [.st] c W R := by
  refine ⟨rfl, ?_⟩
  simp [t__law_odd]
  exact s__law_pick hc (by simp) (by simp) h
theorem s__law_prime {c : Nat} {W : WD} {R : D → Nat → Prop} (hc : c < cap) (h : ∀ p : Int, (p = 2 ∨ p = 3 ∨ p = 5 ∨ p = 7) → R (.int p) (c + 1)) : pf__law_prime [.st] c W R := by
  refine ⟨rfl, ?_⟩
  simp [t__law_prime]
  refine s__law_pick hc (by simp) (by simp) fun d hd => ?_
  simp at hd
  rcases hd with rfl | rfl | rfl | rfl
  · exact h 2 (by simp)
  · exact h 3 (by simp)
  · exact h 5 (by simp)
  · exact h 7 (by simp)
def noPrimes : List D := [.non, .int 0, .int 1, .int 4, .int 6, .int 8, .int 9, .int 11, .int (-2), .bl true, .str "2", .tup [.int 2], .lst [.int 3], .dic false [] [], .int 999999937]
theorem s__law_no_prime {c : Nat} {W : WD} {R : D → Nat → Prop} (hc : c < cap) (h : ∀ d ∈ noPrimes, R d (c + 1)) : pf__law_no_prime [.st] c W R := by
  refine ⟨rfl, ?_⟩
  exact (show 1 ≤ 1000 ∧ 1 ≤ 1000 ∧ 15 ≤ 1000 ∧ pf__law_pick [.st, .lst noPrimes] c (fun d c1 => W d c1) (fun d c1 => R d c1) from ⟨by decide, by decide, by decide, s__law_pick hc (by unfold noPrimes; exact List.cons_ne_nil _ _) (by decide) h⟩)
theorem noPrimes_ok {d : D} (h : d ∈ noPrimes) : tyd d = true ∧ isPrm d = false := by
  simp [noPrimes] at h
  rcases h with rfl | rfl | rfl | rfl | rfl | rfl | rfl | rfl | rfl | rfl | rfl | rfl | rfl | rfl | rfl <;> exact ⟨rfl, by simp [isPrm]⟩
theorem s__law_is_whole {d : D} {W R : D → Prop} (ht : tyd d = true) (hR : R (.bl (match d with | .int _ => true | _ => false))) : pf__law_is_whole [d] W R := by
  refine ⟨rfl, ?_⟩
  cases d with
  | _ => first | (simp [tyd, tyN] at ht; done) | simpa [t__law_is_whole, isTy, tyN_some] using hR
theorem s__law_is_from {d : D} {lo hi : Int} {W R : D → Prop} (ht : tyd d = true) (hR : R (.bl (between d lo hi))) : pf__law_is_from [d, .int lo, .int hi] W R := by
  refine ⟨rfl, ?_⟩
  simp [t__law_is_from]
  refine s__law_is_whole ht ?_
  cases d with
  | int i =>
    by_cases h : lo ≤ i
    · simpa [between, h] using hR
    · simpa [between, h] using hR
  | _ => simpa [between] using hR
theorem s__law_mixed {ds : List D} {c : Nat} {W : WD} {R : D → Nat → Prop} (hc : c + ds.length < cap) (hl : ds.length < 1000000) (hd : ds.all (deepD 63) = true) (h : ∀ es : List D, es.Perm ds → R (.lst es) (c + ds.length)) : pf__law_mixed [.st, .lst ds] c W R := by
  refine ⟨rfl, ?_⟩
  simp [t__law_mixed]
  refine ⟨fun m env c' => ∃ left found : List D, env = [.val .st, .val (.lst ds), .own (.lst left), .own (.lst found)] ∧ (found ++ left).Perm ds ∧ c' = c + found.length ∧ m = left.length, ⟨_, ds, [], rfl, by simp, by simp, rfl⟩, ?_⟩
  rintro m env c' ⟨left, found, rfl, hp, rfl, rfl⟩
  have hlen : found.length + left.length = ds.length := by rw [← hp.length_eq, List.length_append]
  have hall : ∀ x ∈ left, deepD 63 x = true := fun x hx => List.all_eq_true.mp hd x (hp.subset (List.mem_append_right _ hx))
  simp
  refine ⟨hall, ?_⟩
  rw [eqvL_nil]
  by_cases he : left = []
  · subst he
    simp
    have z := h found (by simpa using hp)
    have e : found.length = ds.length := by simpa using hlen
    rw [e]
    exact z
  · have hpos : 0 < left.length := List.length_pos_iff.mpr he
    simp [he]
    refine draw_ok (by omega) hpos (by omega) fun v hv => ?_
    simp
    refine ⟨by omega, v, by unfold seqIndex?; simp; omega, left[v], List.getElem?_eq_getElem hv, by rw [sizeLine_eq]; omega, left.length - 1, by omega, left.eraseIdx v, found ++ [left[v]], ⟨rfl, rfl⟩, ?_, by simp; omega, by rw [List.length_eraseIdx_of_lt hv]⟩
    refine List.Perm.trans ?_ hp
    rw [List.append_assoc]
    refine List.Perm.append_left found ?_
    have e : ∀ (l : List D) (i : Nat) (hi : i < l.length), (l.eraseIdx i ++ [l[i]]).Perm l ∧ (l[i] :: l.eraseIdx i).Perm l := by
      intro l
      induction l with
      | nil => intro i hi; simp at hi
      | cons a r ih =>
        intro i hi
        cases i with
        | zero => exact ⟨List.perm_append_comm, List.Perm.refl _⟩
        | succ i =>
          have z := (ih i (by simpa using hi)).2
          have z2 : ((a :: r)[i + 1] :: (a :: r).eraseIdx (i + 1)).Perm (a :: r) := (List.Perm.swap _ _ _).trans (List.Perm.cons a z)
          exact ⟨List.perm_append_comm.trans z2, z2⟩
    exact (e left v hv).2
theorem isPolyD_not {p : Int} {ds : List D} {x : D} (hx : x ∈ ds) (h : isTerm p x = false) : isPolyD p (.tup ds) = false := by
  rw [Bool.eq_false_iff]
  intro z
  simp only [isPolyD, Bool.and_eq_true, List.all_eq_true] at z
  rw [z.1 x hx] at h
  cases h
theorem isPolyD_all {p : Int} {ds : List D} (h : ∀ x ∈ ds, isTerm p x = true) : isPolyD p (.tup ds) = (nbs ds).all lowN := by
  have e : ds.all (isTerm p) = true := List.all_eq_true.mpr h
  simp only [isPolyD, e, nbs_low, Bool.true_and]
theorem filter_one {α : Type} (q : α → Bool) (ds : List α) : (eqvL ((ds.filter q).map fun _ => D.int 1) []) = ds.all fun x => !q x := by
  rw [eqvL_nil]
  induction ds with
  | nil => rfl
  | cons a r ih =>
    by_cases h : q a = true
    · rw [List.filter_cons_of_pos h]; simp [h]
    · rw [List.filter_cons_of_neg h, ih]; simp [h]
theorem s__law_is_poly {p : Int} {d : D} {W R : D → Prop} (hj : judge d) (hR : R (.bl (isPolyD p d))) : pf__law_is_poly [.int p, d] W R := by
  refine ⟨rfl, ?_⟩
  obtain ⟨ht, hl⟩ := hj
  have ht1 := tyd2_tyd ht
  cases d with
  | tup ds =>
    have hd := hl ds rfl
    have ha : ∀ x ∈ ds, tyd1 x = true := by simpa [tyd2] using ht
    simp [t__law_is_poly, tyN_some]
    refine loop_inv (fun rest env c => c = 0 ∧ ∃ s2 pre, env = [.val (.int p), .val (.tup ds), s2, .un, .un] ∧ ds = pre ++ rest ∧ ∀ x ∈ pre, isTerm p x = true) ?_ ?_ ds _ 0 ⟨rfl, .un, [], rfl, rfl, by simp⟩
    · rintro x rest N hN env c ⟨rfl, s2, pre, rfl, e, hp⟩
      have hx : x ∈ ds := by rw [e]; simp
      have hax := ha x hx
      have hax1 := tyd1_tyd hax
      have bad : isTerm p x = false → R (.bl false) := fun hb => by rwa [isPolyD_not hx hb] at hR
      have good : isTerm p x = true → N [.val (.int p), .val (.tup ds), .val x, .un, .un] 0 := fun hb => hN _ _ ⟨rfl, .val x, pre ++ [x], rfl, by simp [e], fun y hy => by
        rw [List.mem_append, List.mem_singleton] at hy
        rcases hy with hy | rfl
        · exact hp y hy
        · exact hb⟩
      cases x with
      | tup ts =>
        have hts : ts.all tyd = true := by simpa [tyd1] using hax
        match ts, hts, bad, good with
        | [a, b, e], hts, bad, good =>
          simp at hts
          simp [tyN_some]
          refine s__law_is_from hts.2.2 ?_
          simp only [isTerm] at bad good
          by_cases h1 : between e 1 (p - 1) = true
          · simp [h1]
            refine s__law_is_from hts.1 ?_
            by_cases h2 : between a 0 999 = true
            · simp [h2]
              refine s__law_is_from hts.2.1 ?_
              by_cases h3 : between b 0 999 = true
              · simpa [h1, h2, h3] using good
              · simpa [h1, h2, h3] using bad
            · simpa [h1, h2] using bad
          · simpa [h1] using bad
        | [], _, bad, _ => simpa [tyN_some, isTerm] using bad
        | [_], _, bad, _ => simpa [tyN_some, isTerm] using bad
        | [_, _], _, bad, _ => simpa [tyN_some, isTerm] using bad
        | a :: b :: e :: f :: r, _, bad, _ =>
          have n3 : ¬ (r.length : Int) + 1 + 1 + 1 + 1 = 3 := by omega
          simpa [tyN_some, n3, isTerm] using bad
      | _ => first | (simp [tyd, tyN] at hax1; done) | simpa [isTy, tyN_some, isTerm] using bad
    · rintro env c ⟨rfl, s2, pre, rfl, e, hp⟩
      rw [List.append_nil] at e
      subst e
      simp [cut1]
      rw [← List.drop_one]
      refine lc_pure (fun x => !lowN x) (fun _ => .int 1) (nbs ds) [] (by rw [sizeLine_eq]; simp [nbs]; omega) (fun x hx k0 k1 hk => ?_) ?_
      · obtain ⟨a, b, rfl, ha1, hb1⟩ := nbs_mem hx
        obtain ⟨i, j, e, rfl, _⟩ := isTerm_of (hp _ ha1)
        obtain ⟨k, l, e2, rfl, _⟩ := isTerm_of (hp _ hb1)
        simpa [DL.cutD, HT.sIx, lowN, lowP] using hk
      · simp
        rw [filter_one]
        rw [isPolyD_all hp] at hR
        simpa using hR
  | _ => first | (simp [tyd, tyN] at ht1; done) | simpa [t__law_is_poly, isTy, tyN_some, isPolyD] using hR
/-! ### polys as lists of triples -/
abbrev T3 := Int × Int × Int
def encT (t : T3) : D := .tup [.int t.1, .int t.2.1, .int t.2.2]
def encP (ts : List T3) : D := .tup (ts.map encT)
def ltT (a b : T3) : Prop := a.1 < b.1 ∨ (a.1 = b.1 ∧ a.2.1 < b.2.1)
/-- a term with powers up to mx, my -/
def okT (p mx my : Int) (t : T3) : Prop := 0 ≤ t.1 ∧ t.1 ≤ mx ∧ 0 ≤ t.2.1 ∧ t.2.1 ≤ my ∧ 1 ≤ t.2.2 ∧ t.2.2 ≤ p - 1
def GoodP (p mx my : Int) (ts : List T3) : Prop := (∀ t ∈ ts, okT p mx my t) ∧ ts.Pairwise ltT
theorem ltT_trans {a b c : T3} (h : ltT a b) (k : ltT b c) : ltT a c := by
  unfold ltT at *; omega
theorem isTerm_enc {p : Int} {t : T3} : isTerm p (encT t) = true ↔ okT p 999 999 t := by
  simp [isTerm, encT, between, okT]; omega
theorem lowP_enc {a b : T3} : lowP (encT a) (encT b) = true ↔ ltT a b := by
  obtain ⟨a1, a2, a3⟩ := a
  obtain ⟨b1, b2, b3⟩ := b
  simp only [lowP, encT, HT.lexLt, ltT]
  by_cases h : a1 = b1
  · simp [h]; omega
  · simp [h]
theorem rising_enc : ∀ {ts : List T3}, risingP (ts.map encT) = true ↔ ts.Pairwise ltT
  | [] => by simp [risingP]
  | [_] => by simp [risingP]
  | a :: b :: r => by
    have ih := rising_enc (ts := b :: r)
    simp only [List.map_cons, risingP, Bool.and_eq_true, lowP_enc] at ih ⊢
    rw [ih, List.pairwise_cons (l := b :: r)]
    constructor
    · rintro ⟨h1, h2⟩
      refine ⟨fun c hc => ?_, h2⟩
      rcases List.mem_cons.mp hc with rfl | hc
      · exact h1
      · exact ltT_trans h1 ((List.pairwise_cons.mp h2).1 c hc)
    · rintro ⟨h1, h2⟩
      exact ⟨h1 b (List.mem_cons_self ..), h2⟩
theorem isPoly_enc {p : Int} {ts : List T3} : isPolyD p (encP ts) = true ↔ GoodP p 999 999 ts := by
  unfold encP isPolyD GoodP
  rw [Bool.and_eq_true, rising_enc, List.all_eq_true]
  simp only [List.mem_map, forall_exists_index, and_imp, forall_apply_eq_imp_iff₂, isTerm_enc]
theorem poly_of_is {p : Int} {d : D} (h : isPolyD p d = true) : ∃ ts, d = encP ts ∧ GoodP p 999 999 ts := by
  cases d with
  | tup ds =>
    have h0 := h
    simp only [isPolyD, Bool.and_eq_true, List.all_eq_true] at h
    have : ∃ ts : List T3, ds = ts.map encT := by
      clear h0
      obtain ⟨h, -⟩ := h
      induction ds with
      | nil => exact ⟨[], rfl⟩
      | cons a r ih =>
        obtain ⟨ts, rfl⟩ := ih fun x hx => h x (List.mem_cons_of_mem _ hx)
        obtain ⟨i, j, c, rfl, _⟩ := isTerm_of (h a (List.mem_cons_self ..))
        exact ⟨(i, j, c) :: ts, rfl⟩
    obtain ⟨ts, rfl⟩ := this
    exact ⟨ts, rfl, isPoly_enc.mp h0⟩
  | _ => cases h
theorem GoodP.mono {p mx my nx ny : Int} {ts : List T3} (h : GoodP p mx my ts) (hx : mx ≤ nx) (hy : my ≤ ny) : GoodP p nx ny ts :=
  ⟨fun t ht => by have z := h.1 t ht; unfold okT at *; omega, h.2⟩
theorem GoodP.nil {p mx my : Int} : GoodP p mx my [] := ⟨by simp, .nil⟩
theorem GoodP.sub {p mx my : Int} {ts us : List T3} (h : GoodP p mx my ts) (s : us.Sublist ts) : GoodP p mx my us := ⟨fun t ht => h.1 t (s.subset ht), h.2.sublist s⟩
theorem tyd1_enc (t : T3) : tyd1 (encT t) = true := rfl
theorem judge_enc {ts : List T3} (h : ts.length ≤ 1000000) : judge (encP ts) := by
  refine ⟨?_, fun ds e => ?_⟩
  · simp [tyd2, encP, tyd1_enc]
  · unfold encP at e; cases e; rwa [List.length_map]
/-- the length of a poly is bounded by its powers -/
theorem deep_enc (n : Nat) (t : T3) : deepD (n + 1) (encT t) = true := by simp [encT]
theorem shaped_encP (ts : List T3) : shapedD (encP ts) = true := by
  simp [encP, deep_enc]
theorem deep_encP (n : Nat) (ts : List T3) : deepD (n + 2) (encP ts) = true := by
  simp [encP, deep_enc]
/-! ### drawn polys -/
def colL (i : Int) (n : Nat) : List (Int × Int) := (List.range n).map fun (j : Nat) => (i, (j : Int))
def gridL (m n : Nat) : List (Int × Int) := (List.range m).flatMap fun (i : Nat) => colL i n
theorem colL_nodup (i : Int) (n : Nat) : (colL i n).Nodup := by
  unfold colL
  rw [List.nodup_iff_pairwise_ne, List.pairwise_map]
  exact List.nodup_range.imp fun {a b} h e => h (by have z : (a : Int) = b := (Prod.mk.inj e).2; omega)
theorem mem_gridL {m n : Nat} {q : Int × Int} : q ∈ gridL m n ↔ 0 ≤ q.1 ∧ q.1 < m ∧ 0 ≤ q.2 ∧ q.2 < n := by
  simp only [gridL, colL, List.mem_flatMap, List.mem_range, List.mem_map]
  constructor
  · rintro ⟨i, hi, j, hj, rfl⟩
    simp; omega
  · rintro ⟨h1, h2, h3, h4⟩
    refine ⟨q.1.toNat, by omega, q.2.toNat, by omega, ?_⟩
    ext <;> simp <;> omega
theorem gridL_succ (m n : Nat) : gridL (m + 1) n = gridL m n ++ colL m n := by
  simp [gridL, List.range_succ]
theorem gridL_nodup (m n : Nat) : (gridL m n).Nodup := by
  induction m with
  | zero => simp [gridL]
  | succ m ih =>
    rw [gridL_succ, List.nodup_append]
    refine ⟨ih, colL_nodup _ _, fun a ha b hb e => ?_⟩
    subst e
    have z := mem_gridL.mp ha
    simp only [colL, List.mem_map, List.mem_range] at hb
    obtain ⟨j, _, rfl⟩ := hb
    simp at z
theorem gridL_length (m n : Nat) : (gridL m n).length = m * n := by
  induction m with
  | zero => simp [gridL]
  | succ m ih => rw [gridL_succ, List.length_append, ih]; simp [colL, Nat.succ_mul]
theorem pD_deep (q : Int × Int) (n : Nat) : deepD (n + 1) (pD q) = true := by simp [pD]
theorem col_eq (k : Int) (n : Nat) : ((rngD 0 1 n).map fun y => D.tup [.int k, y]) = (colL k n).map pD := by
  rw [rng_eq]
  simp [colL, pD]
def unpD : D → Int × Int
  | .tup [.int a, .int b] => (a, b)
  | _ => (0, 0)
theorem perm_pD {es : List D} {ps : List (Int × Int)} (h : es.Perm (ps.map pD)) : ∃ qs : List (Int × Int), es = qs.map pD ∧ qs.Perm ps := by
  refine ⟨es.map unpD, ?_, ?_⟩
  · rw [List.map_map]
    refine (List.map_id es).symm.trans (List.map_congr_left fun d hd => ?_)
    obtain ⟨q, _, rfl⟩ := List.mem_map.mp (h.subset hd)
    rfl
  · have z := h.map unpD
    rw [List.map_map] at z
    have e : (unpD ∘ pD) = id := by funext q; rfl
    rwa [e, List.map_id] at z
theorem cut_take (ds : List D) (n : Nat) : cutD ds none (some (n : Int)) = ds.take n := by
  simp only [cutD, HT.sIx_nat, HT.sIx_none, List.drop_zero, Nat.sub_zero]
  rw [Nat.min_comm, List.take_eq_take_iff]
  omega
theorem nodup_pairwise {qs ps : List (Int × Int)} (hp : qs.Perm ps) (hn : ps.Nodup) (hs : qs.Pairwise fun a b => SrtO.lexB b a = false) : qs.Pairwise fun a b => SrtO.lexB a b = true := by
  have hn' : qs.Nodup := (hp.nodup_iff).mpr hn
  rw [List.nodup_iff_pairwise_ne] at hn'
  refine (hs.and hn').imp fun {a b} ⟨h1, h2⟩ => ?_
  have h1 : ¬ SrtO.lexB b a = true := by rw [h1]; exact Bool.false_ne_true
  rw [SrtO.lexB_iff] at h1 ⊢
  have : ¬ (a.1 = b.1 ∧ a.2 = b.2) := fun z => h2 (Prod.ext z.1 z.2)
  omega
/-- the rest of _law_poly: coefficients are drawn for sorted pairs -/
theorem poly_rest {p : Int} {mx my : Nat} {c c0 : Nat} {W : WD} {R : D → Nat → Prop} {way : Int} {s6 : Slot} {ps : List (Int × Int)} (hp : 2 ≤ p) (hp2 : p ≤ 7) (hn : ps.Nodup) (hr : ∀ q ∈ ps, 0 ≤ q.1 ∧ q.1 ≤ mx ∧ 0 ≤ q.2 ∧ q.2 ≤ my) (hl : ps.length ≤ 10000) (hc : c + 10000 ≤ c0 + 30000) (h00 : c0 ≤ c) (hcap : c0 + 30000 ≤ cap)
    (h : ∀ ts c', GoodP p mx my ts → c0 ≤ c' → c' ≤ c0 + 30000 → R (encP ts) c') :
    (tSeqD (tSetO 7 (tLcDD (.tup [6, 8]) [6, 8] (tItD (tCallD sortD (tConsD (tVarB 5) tNilD))) tYesD (tTupD (tConsD (tVarD 6) (tConsD (tVarD 8) (tConsD (tDrawn pf__law_draw (tConsD (tVarD 0) (tConsD (tVarD 1) tNilD))) tNilD))))))
      (tFrzD 7 (tRetD (tCallD tupleD (tConsD (tLcDD (.one 9) [9] (tItD (tVarD 7)) (tTestD (tOpD neD (tOpD ixD (tVarB 9) (tCD (.int 2))) (tCD (.int 0)))) (tVarD 9)) tNilD))))) (endS W R)
      [.val .st, .val (.int p), .val (.int mx), .val (.int my), .val (.int way), .val (.lst (ps.map pD)), s6, .un, .un, .un] c := by
  simp
  refine .inl ⟨ps, rfl, fun qs hq hs => ?_⟩
  have hs' := nodup_pairwise hq hn hs
  have hr' : ∀ q ∈ qs, 0 ≤ q.1 ∧ q.1 ≤ mx ∧ 0 ≤ q.2 ∧ q.2 ≤ my := fun q m => hr q (hq.subset m)
  have hl' : qs.length ≤ 10000 := by rw [hq.length_eq]; exact hl
  refine lc_inv (fun rest acc c' => ∃ (done todo : List (Int × Int)) (ts : List T3), qs = done ++ todo ∧ rest = todo.map pD ∧ acc = ts.map encT ∧ ts.map (fun t => (t.1, t.2.1)) = done ∧ (∀ t ∈ ts, 0 ≤ t.2.2 ∧ t.2.2 ≤ p - 1) ∧ c' = c + done.length) ?_ ?_ ?_ _ [] c ⟨[], qs, [], rfl, rfl, rfl, rfl, by simp, by simp⟩
  · rintro d ds acc c' ⟨done, todo, ts, e1, e2, rfl, e4, ht, rfl⟩ k0 k1 h0 h1
    cases todo with
    | nil => cases e2
    | cons q todo =>
      rw [List.map_cons] at e2
      cases e2
      have hlen : done.length + (todo.length + 1) = qs.length := by rw [e1]; simp
      simp [pD]
      refine draw_okI (by omega) (by omega) (by omega) fun v hv0 hv1 => ?_
      refine h1 _ _ ⟨done ++ [q], todo, ts ++ [(q.1, q.2, v)], by simp [e1], rfl, by simp [encT], by simp [e4], ?_, by simp; omega⟩
      intro t ht'
      rw [List.mem_append, List.mem_singleton] at ht'
      rcases ht' with ht' | rfl
      · exact ht t ht'
      · simp; omega
  · rintro ds acc c' y ⟨done, todo, ts, e1, e2, e3, e4, _⟩
    have : ts.length ≤ qs.length := by rw [e1, ← e4]; simp
    have h3 := congrArg List.length e3
    simp at h3
    rw [sizeLine_eq]
    omega
  · rintro acc c' ⟨done, todo, ts, e1, e2, rfl, e4, ht, rfl⟩
    have e5 : todo = [] := by cases todo with
      | nil => rfl
      | cons _ _ => cases e2
    subst e5
    rw [List.append_nil] at e1
    subst e1
    have hlt : ts.length = qs.length := by rw [← e4, List.length_map]
    simp
    refine lc_pure (fun d => match d with | .tup [_, _, .int k] => k != 0 | _ => false) (fun d => d) (ts.map encT) [] (by rw [sizeLine_eq]; simp; omega) (fun x hx k0 k1 hk => ?_) ?_
    · rw [List.mem_map] at hx
      obtain ⟨t, _, rfl⟩ := hx
      simpa [encT] using hk
    · have e6 : ((ts.map encT).filter fun d => match d with | .tup [_, _, .int k] => k != 0 | _ => false) = (ts.filter fun t => t.2.2 != 0).map encT := by
        rw [List.filter_map]
        rfl
      simp only [List.nil_append, List.map_id_fun', id_eq, List.map_id', e6]
      refine h _ _ ⟨fun t ht' => ?_, ?_⟩ (by omega) (by omega)
      · rw [List.mem_filter] at ht'
        have z := ht t ht'.1
        have z2 : (t.1, t.2.1) ∈ qs := by rw [← e4]; exact List.mem_map_of_mem ht'.1
        have z3 := hr' _ z2
        have z4 : t.2.2 ≠ 0 := by simpa using ht'.2
        unfold okT
        omega
      · refine List.Pairwise.filter _ ?_
        rw [← e4, List.pairwise_map] at hs'
        refine hs'.imp fun {a b} z => ?_
        rw [SrtO.lexB_iff] at z
        exact z
theorem s__law_poly {p : Int} {mx my : Nat} {c : Nat} {W : WD} {R : D → Nat → Prop} (hc : c + 30000 ≤ cap) (hp : 2 ≤ p) (hp2 : p ≤ 7) (hx : mx ≤ 99) (hy : my ≤ 99) (h : ∀ ts c', GoodP p mx my ts → c ≤ c' → c' ≤ c + 30000 → R (encP ts) c') : pf__law_poly [.st, .int p, .int mx, .int my] c W R := by
  refine ⟨rfl, ?_⟩
  have hM : (mx + 1) * (my + 1) ≤ 10000 := Nat.mul_le_mul (by omega : mx + 1 ≤ 100) (by omega : my + 1 ≤ 100)
  simp [t__law_poly]
  refine draw_ok (n := 8) (by omega) (by omega) (by omega) fun way hw => ?_
  by_cases h0 : way = 0
  · subst h0
    simp
    refine s__law_pick (by omega) (by simp) (by simp) fun d hd => ?_
    simp at hd
    rcases hd with rfl | rfl | rfl | rfl
    · exact h [] _ GoodP.nil (by omega) (by omega)
    · exact h [(0, 0, 1)] _ ⟨by simp [okT]; omega, by simp⟩ (by omega) (by omega)
    · exact h [(0, 0, p - 1)] _ ⟨by simp [okT]; omega, by simp⟩ (by omega) (by omega)
    · exact h [((mx : Int), (my : Int), 1)] _ ⟨by simp [okT]; omega, by simp⟩ (by omega) (by omega)
  · simp [h0]
    refine ⟨by unfold smallI; omega, ?_⟩
    refine loop_rng (fun k env c' => c' = c + 1 ∧ ∃ s6, env = [.val .st, .val (.int p), .val (.int mx), .val (.int my), .val (.int way), .val (.lst ((gridL k (my + 1)).map pD)), s6, .un, .un, .un]) 0 (mx + 1) ?_ ?_ _ _ ⟨rfl, .un, by simp [gridL]⟩
    · rintro k hk N hN env c' ⟨rfl, s6, rfl⟩
      have hk2 : k * (my + 1) ≤ (mx + 1) * (my + 1) := Nat.mul_le_mul_right _ (by omega)
      simp
      refine ⟨by unfold smallI; omega, ?_⟩
      refine lc_map (fun y => .tup [.int k, y]) _ [] (by rw [sizeLine_eq, rngD_length]; simp; omega) (fun x hx k1 hk1 => ?_) ?_
      · simpa using hk1
      · simp [rngD_length, gridL_length]
        refine ⟨by rw [sizeLine_eq]; omega, ?_⟩
        refine hN _ _ ⟨rfl, .val (.int k), ?_⟩
        rw [gridL_succ, List.map_append, ← col_eq]
    · rintro env c' ⟨rfl, s6, rfl⟩
      have hg := gridL_length (mx + 1) (my + 1)
      have hin : ∀ q ∈ gridL (mx + 1) (my + 1), 0 ≤ q.1 ∧ q.1 ≤ mx ∧ 0 ≤ q.2 ∧ q.2 ≤ my := fun q hq => by
        have z := mem_gridL.mp hq
        omega
      by_cases h5 : (way : Int) < 5
      · simp [h5]
        refine s__law_mixed (by simp [hg]; omega) (by simp [hg]; omega) (by simp [pD_deep]) fun es he => ?_
        obtain ⟨qs, rfl, hq⟩ := perm_pD he
        have hql := hq.length_eq
        refine draw_ok (n := 4) (by simp [hg]; omega) (by omega) (by omega) fun v hv => ?_
        have hsub := List.take_sublist (1 + v) qs
        have z := poly_rest (p := p) (mx := mx) (my := my) (c := c + 1 + (List.map pD (gridL (mx + 1) (my + 1))).length + 1) (c0 := c) (W := W) (R := R) (way := way) (s6 := s6) (ps := qs.take (1 + v)) hp hp2 (hsub.nodup ((hq.nodup_iff).mpr (gridL_nodup _ _))) (fun q m => hin q (hq.subset (hsub.subset m))) (by rw [List.length_take]; omega) (by simp [hg]; omega) (by omega) hc h
        rw [List.map_take, ← cut_take] at z
        exact z
      · simp [h5]
        exact poly_rest (W := W) hp hp2 (gridL_nodup _ _) hin (by omega) (by omega) (by omega) hc h
theorem incr_len : ∀ (l : List Int) (lo hi : Int), (∀ x ∈ l, lo ≤ x ∧ x < hi) → l.Pairwise (· < ·) → (l.length : Int) ≤ max 0 (hi - lo)
  | [], lo, hi, _, _ => by simp; omega
  | a :: r, lo, hi, h, hp => by
    have ha := h a (List.mem_cons_self ..)
    have hp' := List.pairwise_cons.mp hp
    have z := incr_len r (a + 1) hi (fun x hx => ⟨hp'.1 x hx, (h x (List.mem_cons_of_mem _ hx)).2⟩) hp'.2
    rw [List.length_cons]
    omega
theorem GoodP.length {p : Int} {mx my : Nat} {ts : List T3} (h : GoodP p mx my ts) : ts.length ≤ (mx + 1) * (my + 1) := by
  have z := incr_len (ts.map fun t => t.1 * (my + 1) + t.2.1) 0 ((mx + 1) * (my + 1)) (fun x hx => by
    obtain ⟨t, ht, rfl⟩ := List.mem_map.mp hx
    have ho := h.1 t ht
    unfold okT at ho
    have h1 : t.1 * ((my : Int) + 1) ≤ mx * ((my : Int) + 1) := Int.mul_le_mul_of_nonneg_right ho.2.1 (by omega)
    have h2 : 0 ≤ t.1 * ((my : Int) + 1) := Int.mul_nonneg ho.1 (by omega)
    have h3 : ((mx : Int) + 1) * ((my : Int) + 1) = mx * ((my : Int) + 1) + (my + 1) := by rw [Int.add_mul, Int.one_mul]
    omega) (by
    rw [List.pairwise_map]
    refine List.Pairwise.imp_of_mem (fun {a b} ha hb hab => ?_) h.2
    have oa := h.1 a ha
    have ob := h.1 b hb
    unfold okT at oa ob
    rcases hab with hlt | ⟨he, hlt⟩
    · have h1 : (a.1 + 1) * ((my : Int) + 1) ≤ b.1 * ((my : Int) + 1) := Int.mul_le_mul_of_nonneg_right (by omega) (by omega)
      rw [Int.add_mul, Int.one_mul] at h1
      omega
    · rw [he]; omega)
  have h4 : (0 : Int) ≤ ((mx : Int) + 1) * ((my : Int) + 1) := Int.mul_nonneg (by omega) (by omega)
  rw [List.length_map] at z
  have h5 : (((mx + 1) * (my + 1) : Nat) : Int) = ((mx : Int) + 1) * ((my : Int) + 1) := by simp
  omega
theorem GoodP.short {p mx my : Int} {ts : List T3} (h : GoodP p mx my ts) (hx : mx ≤ 999) (hy : my ≤ 999) : ts.length ≤ 1000000 := by
  have z := GoodP.length (p := p) (mx := 999) (my := 999) (ts := ts) (h.mono (by simpa using hx) (by simpa using hy))
  simpa using z
theorem s__law_some {p : Int} {mx my : Nat} {c : Nat} {W : WD} {R : D → Nat → Prop} (hc : c + 30010 ≤ cap) (hp : 2 ≤ p) (hp2 : p ≤ 7) (hx : mx ≤ 99) (hy : my ≤ 99) (h : ∀ ts c', ts ≠ [] → GoodP p mx my ts → c ≤ c' → c' ≤ c + 30010 → R (encP ts) c') : pf__law_some [.st, .int p, .int mx, .int my] c W R := by
  refine ⟨rfl, ?_⟩
  simp [t__law_some]
  refine s__law_poly (by omega) hp hp2 hx hy fun ts c' hg h1 h2 => ?_
  simp [shaped_encP]
  by_cases he : ts = []
  · subst he
    simp [encP]
    refine draw_okI (by omega) (by omega) (by omega) fun v hv0 hv1 => ?_
    refine draw_okI (by omega) (by omega) (by omega) fun u hu0 hu1 => ?_
    refine draw_okI (by omega) (by omega) (by omega) fun w hw0 hw1 => ?_
    simp
    exact h [(v, u, 1 + w)] _ (by simp) ⟨by simp [okT]; omega, by simp⟩ (by omega) (by omega)
  · have e : eqvD (encP ts) (.tup []) = false := by
      cases ts with
      | nil => exact absurd rfl he
      | cons a r => simp [encP]
    simp [e]
    exact h ts c' he hg (by omega) (by omega)
theorem cut_drop (ds : List D) (n : Nat) : cutD ds (some (n : Int)) none = ds.drop n := by
  simp only [cutD, HT.sIx_nat, HT.sIx_none]
  by_cases h : n ≤ ds.length
  · rw [Nat.min_eq_left h, List.take_of_length_le (by rw [List.length_drop]; exact Nat.le_refl _)]
  · rw [Nat.min_eq_right (by omega), List.drop_length, List.drop_eq_nil_of_le (by omega)]
    exact List.take_nil
theorem cut_mem {ds : List D} {lo hi : Option Int} {x : D} (h : x ∈ cutD ds lo hi) : x ∈ ds := List.mem_of_mem_drop (List.mem_of_mem_take h)
theorem cut_len (ds : List D) (lo hi : Option Int) : (cutD ds lo hi).length ≤ ds.length := by
  unfold DL.cutD
  rw [List.length_take, List.length_drop]
  omega
theorem at_last {ds : List D} (h : ds ≠ []) : ∃ d, atI ds (-1) = some d ∧ d ∈ ds := by
  have hp : 0 < ds.length := List.length_pos_iff.mpr h
  refine ⟨ds[ds.length - 1], ?_, List.getElem_mem _⟩
  have e : ixN ds.length (-1) = some (ds.length - 1) := by
    unfold ixN
    rw [if_neg (by omega), if_pos (by omega)]
    congr 1
    omega
  unfold atI
  rw [e]
  exact List.getElem?_eq_getElem _
theorem judge_tup {ds : List D} (h : ∀ x ∈ ds, tyd1 x = true) (hl : ds.length ≤ 1000000) : judge (.tup ds) := by
  refine ⟨?_, fun es e => by cases e; exact hl⟩
  simpa [tyd2] using h
theorem judge_other {d : D} (h : tyd d = true) (n : ∀ ds, d ≠ .tup ds) : judge d := by
  refine ⟨?_, fun ds e => absurd e (n ds)⟩
  cases d with
  | tup ds => exact absurd rfl (n ds)
  | _ => simpa [tyd2] using h
theorem pick_rest {p : Int} {c : Nat} {W : WD} {R : D → Nat → Prop} {L : List D} {s2 s3 s4 s5 s6 s7 s8 s9 : Slot} (hc : c < cap) (hj : ∀ d ∈ L, judge d) (hl : L.length ≤ 1000) (hn : D.non ∈ L) (h : ∀ d, judge d → isPolyD p d = false → R d (c + 1)) :
    lcD (.one 9) [9] (tNotD (tTruD (tCallP pf__law_is_poly (tConsD (tVarD 1) (tConsD (tVarD 9) tNilD))))) (tVarD 9) [.val .st, .val (.int p), s2, s3, s4, s5, s6, s7, s8, s9] (fun d c1 => pf__law_pick [.st, d] c1 (fun d c1 => W d c1) fun d c1 => R d c1) L [] c := by
  refine lc_pure (fun d => !isPolyD p d) (fun d => d) L [] (by rw [sizeLine_eq]; simp; omega) (fun x hx k0 k1 hk => ?_) ?_
  · simp
    refine s__law_is_poly (hj x hx) ?_
    simpa using hk
  · have hm : D.non ∈ L.filter fun d => !isPolyD p d := List.mem_filter.mpr ⟨hn, rfl⟩
    have hll : (L.filter fun d => !isPolyD p d).length ≤ L.length := List.length_filter_le _ _
    simp only [List.nil_append, List.map_id']
    refine s__law_pick hc (fun z => by rw [z] at hm; cases hm) (by omega) fun d hd => ?_
    rw [List.mem_filter] at hd
    exact h d (hj d hd.1) (by simpa using hd.2)
theorem s__law_no_poly {p : Int} {c : Nat} {W : WD} {R : D → Nat → Prop} (hc : c + 30020 ≤ cap) (hp : 2 ≤ p) (hp2 : p ≤ 7) (h : ∀ d c', judge d → isPolyD p d = false → c ≤ c' → c' ≤ c + 30020 → R d c') : pf__law_no_poly [.st, .int p] c W R := by
  refine ⟨rfl, ?_⟩
  simp [t__law_no_poly]
  refine s__law_some (mx := 3) (my := 3) (by omega) hp hp2 (by omega) (by omega) fun ts c' hne hg h1 h2 => ?_
  have hl : ts.length ≤ 16 := hg.length
  have hpos : 0 < ts.length := List.length_pos_iff.mpr hne
  simp [encP]
  refine draw_ok (n := ts.length) (by omega) hpos (by omega) fun v hv => ?_
  have e1 : atI (ts.map encT) (v : Int) = some (encT ts[v]) := atI_nat (by rw [List.getElem?_map, List.getElem?_eq_getElem hv]; rfl)
  simp [e1, encT, -lcD]
  generalize hT : ts.map encT = told
  have hTl : told.length = ts.length := by rw [← hT, List.length_map]
  have hT1 : ∀ x ∈ told, tyd1 x = true := fun x hx => by
    rw [← hT] at hx
    obtain ⟨t, _, rfl⟩ := List.mem_map.mp hx
    rfl
  have sl : sizeLine = 16777216 := by decide +kernel
  generalize ts[v].fst = i
  generalize ts[v].snd.fst = j
  generalize ts[v].snd.snd = k
  have tt : ∀ x ∈ told.take v, tyd1 x = true := fun x hx => hT1 x (List.mem_of_mem_take hx)
  have td : ∀ x ∈ told.drop (v + 1), tyd1 x = true := fun x hx => hT1 x (List.mem_of_mem_drop hx)
  have ltk : (told.take v).length ≤ 16 := by rw [List.length_take]; omega
  have ldk : (told.drop (v + 1)).length ≤ 16 := by rw [List.length_drop]; omega
  have ed : cutD told (some ((v : Int) + 1)) none = told.drop (v + 1) := by
    have z := cut_drop told (v + 1)
    rwa [Int.natCast_add] at z
  refine ⟨by omega, ?_⟩
  have jt : ∀ x, tyd1 x = true → judge (.tup (told.take v ++ x :: told.drop (v + 1))) := fun x hx => judge_tup (fun y hy => by
    rw [List.mem_append, List.mem_cons] at hy
    rcases hy with hy | rfl | hy
    · exact tt y hy
    · exact hx
    · exact td y hy) (by simp only [List.length_append, List.length_cons]; omega)
  refine lc_map (fun t => .tup (told.take v ++ t :: told.drop (v + 1))) _ [] (by rw [sl]; simp) (fun x hx k1 hk => ?_) ?_
  · simp [ed, cut_take]
    refine ⟨by omega, by omega, hk⟩
  · have lm := cut_len told (some (-1)) none
    have l1 := cut_len told none (some 1)
    obtain ⟨d, hd, hdm⟩ := at_last (ds := told) (fun z => by rw [z] at hTl; simp at hTl; omega)
    have j1 : judge (.tup (told ++ cutD told (some (-1)) none)) := judge_tup (fun y hy => by
      rw [List.mem_append] at hy
      exact hT1 y (hy.elim id cut_mem)) (by rw [List.length_append]; omega)
    have j2 : judge (.tup (d :: cutD told none (some 1))) := judge_tup (fun y hy => by
      rw [List.mem_cons] at hy
      rcases hy with rfl | hy
      · exact hT1 _ hdm
      · exact hT1 y (cut_mem hy)) (by rw [List.length_cons]; omega)
    have j3 : judge (.tup told.reverse) := judge_tup (fun y hy => hT1 y (List.mem_reverse.mp hy)) (by rw [List.length_reverse]; omega)
    have j4 : judge (.lst told) := judge_other rfl (fun _ z => by cases z)
    have j5 : ∀ x ∈ ([.non, .int 0, .str "x", .dic false [] [], .tup [.int 0]] : List D), judge x := fun x hx => by
      simp at hx
      rcases hx with rfl | rfl | rfl | rfl | rfl
      · exact judge_other rfl (fun _ z => by cases z)
      · exact judge_other rfl (fun _ z => by cases z)
      · exact judge_other rfl (fun _ z => by cases z)
      · exact judge_other rfl (fun _ z => by cases z)
      · exact judge_tup (by simp [tyd1]) (by simp)
    have jb : judge (.tup (told.take v ++ D.tup [D.bl (i == 1), D.int j, D.int k] :: told.drop (v + 1))) := jt _ rfl
    rw [List.nil_append]
    have hM : ∀ x ∈ List.map (fun t => D.tup (List.take v told ++ t :: List.drop (v + 1) told)) [D.tup [D.int i, D.int j, D.int 0], D.tup [D.int i, D.int j, D.int p], D.tup [D.int i, D.int j, D.int (-1)], D.tup [D.int (-1), D.int j, D.int k], D.tup [D.int 1000, D.int j, D.int k], D.tup [D.int i, D.int 1000, D.int k], D.tup [D.int i, D.int j], D.tup [D.int i, D.int j, D.int k, D.int 0], D.lst [D.int i, D.int j, D.int k], D.non, D.tup [D.int i, D.int j, D.bl true], D.tup [D.int i, D.int j, D.str (Str.ofString "1")], D.tup [D.non, D.int j, D.int k]], judge x := fun x hx => by
      obtain ⟨t, ht, rfl⟩ := List.mem_map.mp hx
      exact jt t (List.all_eq_true.mp (show List.all _ tyd1 = true from rfl) t ht)
    have hL := List.length_map (as := [D.tup [D.int i, D.int j, D.int 0], D.tup [D.int i, D.int j, D.int p], D.tup [D.int i, D.int j, D.int (-1)], D.tup [D.int (-1), D.int j, D.int k], D.tup [D.int 1000, D.int j, D.int k], D.tup [D.int i, D.int 1000, D.int k], D.tup [D.int i, D.int j], D.tup [D.int i, D.int j, D.int k, D.int 0], D.lst [D.int i, D.int j, D.int k], D.non, D.tup [D.int i, D.int j, D.bl true], D.tup [D.int i, D.int j, D.str (Str.ofString "1")], D.tup [D.non, D.int j, D.int k]]) (fun t => D.tup (List.take v told ++ t :: List.drop (v + 1) told))
    generalize List.map (fun t => D.tup (List.take v told ++ t :: List.drop (v + 1) told)) _ = M at hM hL ⊢
    have hL : M.length = 13 := hL
    have fin : ∀ L : List D, (∀ x ∈ L, judge x) → L.length ≤ 100 → D.non ∈ L → _ := fun L h1 h2 h3 => pick_rest (p := p) (c := c' + 1) (W := W) (R := R) (L := L) (s2 := .val (D.tup told)) (s3 := .val (D.int v)) (s4 := .val (D.int i)) (s5 := .val (D.int j)) (s6 := .val (D.int k)) (s7 := .val (.lst L)) (s8 := .un) (s9 := .un) (by omega) h1 (by omega) h3 (fun d hd hnp => h d _ hd hnp (by omega) (by omega))
    have tails : ∀ y, judge y → ∀ x ∈ ([.lst told, .tup (told ++ cutD told (some (-1)) none), y, .non, .int 0, .str "x", .dic false [] [], .tup [.int 0]] : List D), judge x := fun y hy x hx => by
      simp only [List.mem_cons, List.not_mem_nil, or_false] at hx
      rcases hx with rfl | rfl | rfl | hx
      · exact j4
      · exact j1
      · exact hy
      · exact j5 x (by simpa using hx)
    by_cases hi : i < 2
    · simp only [hi, if_true, ed, cut_take, hd]
      refine ⟨by omega, by omega, by omega, by omega, ?_⟩
      by_cases h1 : (ts.length : Int) = 1
      · rw [if_pos h1]
        refine ⟨by omega, by omega, fin _ (fun x hx => ?_) (by simp; omega) (by simp)⟩
        simp only [List.mem_append, List.mem_cons] at hx
        rcases hx with hx | rfl | hx
        · exact hM x hx
        · exact jb
        · exact tails _ j2 x (by simpa using hx)
      · rw [if_neg h1]
        refine ⟨by omega, fin _ (fun x hx => ?_) (by simp; omega) (by simp)⟩
        simp only [List.mem_append, List.mem_cons] at hx
        rcases hx with hx | rfl | hx
        · exact hM x hx
        · exact jb
        · exact tails _ j3 x (by simpa using hx)
    · simp only [hi, if_false, ed, cut_take, hd]
      refine ⟨by omega, ?_⟩
      by_cases h1 : (ts.length : Int) = 1
      · rw [if_pos h1]
        refine ⟨by omega, by simp; omega, fin _ (fun x hx => ?_) (by simp; omega) (by simp)⟩
        rw [List.mem_append] at hx
        rcases hx with hx | hx
        · exact hM x hx
        · exact tails _ j2 x hx
      · rw [if_neg h1]
        refine ⟨by simp; omega, fin _ (fun x hx => ?_) (by simp; omega) (by simp)⟩
        rw [List.mem_append] at hx
        rcases hx with hx | hx
        · exact hM x hx
        · exact tails _ j3 x hx
end KC
set_option Elab.async false
set_option linter.all false
set_option maxRecDepth 100000
set_option maxHeartbeats 1000000
namespace KC
open PySem PySem.Spec PyProof.Rows L2 DL
/-! ### need_poly -/
def t_need_poly : TSD :=
  (tIfSD (tNotD (tTruD (tCallP pf_polys_right (tConsD (tVarD 0) (tConsD (tVarD 1) tNilD)))))
  (tRaiseD "BadPoly")
  tNextD)
structure pf_need_poly (ds : List D) (W R : D → Prop) : Prop where
  len : ds.length = 2
  run : t_need_poly (endP W R) (envAt 2 ds) 0
theorem l_need_poly (ds : List D) (W R : D → Prop) (h : pf_need_poly ds W R) : ds.length = 2 := h.1
theorem q_need_poly (ds : List D) (W R : D → Prop) (h : pf_need_poly ds W R) : t_need_poly (endP W R) (envAt 2 ds) 0 := h.2
/-! ### book_of -/
def t_book_of : TSD :=
  (tRetD (tDcD true (.tup [1, 2, 3]) [1, 2, 3] (tItD (tVarD 0)) tYesD (tTupD (tConsD (tVarD 1) (tConsD (tVarD 2) tNilD))) (tVarD 3)))
structure pf_book_of (ds : List D) (W R : D → Prop) : Prop where
  len : ds.length = 1
  run : t_book_of (endP W R) (envAt 4 ds) 0
theorem l_book_of (ds : List D) (W R : D → Prop) (h : pf_book_of ds W R) : ds.length = 1 := h.1
theorem q_book_of (ds : List D) (W R : D → Prop) (h : pf_book_of ds W R) : t_book_of (endP W R) (envAt 4 ds) 0 := h.2
/-! ### poly_of -/
def t_poly_of : TSD :=
  (tRetD (tCallD tupleD (tConsD (tLcDD (.one 1) [1] (tItD (tCallD sort2D (tConsD (tVarB 0) tNilD))) tYesD (tTupD (tConsD (tOpD ixD (tVarB 1) (tCD (.int 0))) (tConsD (tOpD ixD (tVarB 1) (tCD (.int 1))) (tConsD (tOpD ixD (tVarB 0) (tVarB 1)) tNilD))))) tNilD)))
structure pf_poly_of (ds : List D) (W R : D → Prop) : Prop where
  len : ds.length = 1
  run : t_poly_of (endP W R) (envAt 2 ds) 0
theorem l_poly_of (ds : List D) (W R : D → Prop) (h : pf_poly_of ds W R) : ds.length = 1 := h.1
theorem q_poly_of (ds : List D) (W R : D → Prop) (h : pf_poly_of ds W R) : t_poly_of (endP W R) (envAt 2 ds) 0 := h.2
/-! ### highest -/
def t_highest : TSD :=
  (tRetD (tCallKD topDfD (tConsD (tLcDD (.one 2) [2] (tItD (tVarD 0)) tYesD (tOpD ixD (tVarB 2) (tVarB 1))) tNilD) (tConsD (tUnD negD (tCD (.int 1))) tNilD)))
structure pf_highest (ds : List D) (W R : D → Prop) : Prop where
  len : ds.length = 2
  run : t_highest (endP W R) (envAt 3 ds) 0
theorem l_highest (ds : List D) (W R : D → Prop) (h : pf_highest ds W R) : ds.length = 2 := h.1
theorem q_highest (ds : List D) (W R : D → Prop) (h : pf_highest ds W R) : t_highest (endP W R) (envAt 3 ds) 0 := h.2
/-! ### part_at -/
def t_part_at : TSD :=
  (tRetD (tDcD true (.one 2) [2] (tItD (tVarD 0)) (tTestD (tOpD eqD (tOpD ixD (tVarB 2) (tCD (.int 1))) (tVarB 1))) (tTupD (tConsD (tOpD ixD (tVarB 2) (tCD (.int 0))) (tConsD (tCD (.int 0)) tNilD))) (tOpD ixD (tVarB 0) (tVarB 2))))
structure pf_part_at (ds : List D) (W R : D → Prop) : Prop where
  len : ds.length = 2
  run : t_part_at (endP W R) (envAt 3 ds) 0
theorem l_part_at (ds : List D) (W R : D → Prop) (h : pf_part_at ds W R) : ds.length = 2 := h.1
theorem q_part_at (ds : List D) (W R : D → Prop) (h : pf_part_at ds W R) : t_part_at (endP W R) (envAt 3 ds) 0 := h.2
/-! ### high -/
def t_high : TSD :=
  (tSeqD (tDropD (tCallP pf_need_prime (tConsD (tVarD 0) tNilD)))
  (tSeqD (tDropD (tCallP pf_need_poly (tConsD (tVarD 0) (tConsD (tVarD 1) tNilD))))
  (tSeqD (tIfSD (tOrD (tNotD (tTruD (tIsD .str (tVarB 2)))) (tTestD (tOpD notInD (tVarB 2) (tLstD (tConsD (tCD (.str "x")) (tConsD (tCD (.str "y")) tNilD))))))
  (tRaiseD "BadLetter")
  tNextD)
  (tRetD (tCallP pf_highest (tConsD (tCallP pf_book_of (tConsD (tVarD 1) tNilD)) (tConsD (tIfD (tTestD (tOpD eqD (tVarB 2) (tCD (.str "x")))) (tCD (.int 0)) (tCD (.int 1))) tNilD)))))))
structure pf_high (ds : List D) (W R : D → Prop) : Prop where
  len : ds.length = 3
  run : t_high (endP W R) (envAt 3 ds) 0
theorem l_high (ds : List D) (W R : D → Prop) (h : pf_high ds W R) : ds.length = 3 := h.1
theorem q_high (ds : List D) (W R : D → Prop) (h : pf_high ds W R) : t_high (endP W R) (envAt 3 ds) 0 := h.2
/-! ### part -/
def t_part : TSD :=
  (tSeqD (tDropD (tCallP pf_need_prime (tConsD (tVarD 0) tNilD)))
  (tSeqD (tDropD (tCallP pf_need_poly (tConsD (tVarD 0) (tConsD (tVarD 1) tNilD))))
  (tSeqD (tIfSD (tNotD (tTruD (tCallP pf_is_between (tConsD (tVarD 2) (tConsD (tCD (.int 0)) (tConsD (tCD (.int 999)) tNilD))))))
  (tRaiseD "BadPower")
  tNextD)
  (tRetD (tCallP pf_poly_of (tConsD (tCallP pf_part_at (tConsD (tCallP pf_book_of (tConsD (tVarD 1) tNilD)) (tConsD (tVarD 2) tNilD))) tNilD))))))
structure pf_part (ds : List D) (W R : D → Prop) : Prop where
  len : ds.length = 3
  run : t_part (endP W R) (envAt 3 ds) 0
theorem l_part (ds : List D) (W R : D → Prop) (h : pf_part ds W R) : ds.length = 3 := h.1
theorem q_part (ds : List D) (W R : D → Prop) (h : pf_part ds W R) : t_part (endP W R) (envAt 3 ds) 0 := h.2
/-! ### lead_of -/
def t_lead_of : TSD :=
  (tRetD (tSlD (tCallD topD (tConsD (tLcDD (.one 1) [1] (tItD (tVarD 0)) tYesD (tTupD (tConsD (tOpD addD (tOpD ixD (tVarB 1) (tCD (.int 0))) (tOpD ixD (tVarB 1) (tCD (.int 1)))) (tConsD (tOpD ixD (tVarB 1) (tCD (.int 0))) (tConsD (tOpD ixD (tVarB 1) (tCD (.int 1))) tNilD))))) tNilD)) (tPartD (tCD (.int 1))) tNoPartD))
structure pf_lead_of (ds : List D) (W R : D → Prop) : Prop where
  len : ds.length = 1
  run : t_lead_of (endP W R) (envAt 2 ds) 0
theorem l_lead_of (ds : List D) (W R : D → Prop) (h : pf_lead_of ds W R) : ds.length = 1 := h.1
theorem q_lead_of (ds : List D) (W R : D → Prop) (h : pf_lead_of ds W R) : t_lead_of (endP W R) (envAt 2 ds) 0 := h.2
/-! ### lead -/
def t_lead : TSD :=
  (tSeqD (tDropD (tCallP pf_need_prime (tConsD (tVarD 0) tNilD)))
  (tSeqD (tDropD (tCallP pf_need_poly (tConsD (tVarD 0) (tConsD (tVarD 1) tNilD))))
  (tSeqD (tIfSD (tTestD (tOpD eqD (tVarB 1) (tTupD tNilD)))
  (tRaiseD "BadPoly")
  tNextD)
  (tSeqD (tSetD 2 (tCallP pf_lead_of (tConsD (tCallP pf_book_of (tConsD (tVarD 1) tNilD)) tNilD)))
  (tRetD (tTupD (tConsD (tOpD ixD (tVarB 2) (tCD (.int 0))) (tConsD (tOpD ixD (tVarB 2) (tCD (.int 1))) (tConsD (tOpD ixD (tCallP pf_book_of (tConsD (tVarD 1) tNilD)) (tVarB 2)) tNilD)))))))))
structure pf_lead (ds : List D) (W R : D → Prop) : Prop where
  len : ds.length = 2
  run : t_lead (endP W R) (envAt 3 ds) 0
theorem l_lead (ds : List D) (W R : D → Prop) (h : pf_lead ds W R) : ds.length = 2 := h.1
theorem q_lead (ds : List D) (W R : D → Prop) (h : pf_lead ds W R) : t_lead (endP W R) (envAt 3 ds) 0 := h.2
/-! ### _law_high -/
def t__law_high : TSD :=
  (tRetD (tCallD topD (tConsD (tOpD addD (tLstD (tConsD (tUnD negD (tCD (.int 1))) tNilD)) (tLcDD (.one 2) [2] (tItD (tVarD 0)) tYesD (tOpD ixD (tVarB 2) (tVarB 1)))) tNilD)))
structure pf__law_high (ds : List D) (W R : D → Prop) : Prop where
  len : ds.length = 2
  run : t__law_high (endP W R) (envAt 3 ds) 0
theorem l__law_high (ds : List D) (W R : D → Prop) (h : pf__law_high ds W R) : ds.length = 2 := h.1
theorem q__law_high (ds : List D) (W R : D → Prop) (h : pf__law_high ds W R) : t__law_high (endP W R) (envAt 3 ds) 0 := h.2
/-! ### _law_part -/
def t__law_part : TSD :=
  (tRetD (tCallD tupleD (tConsD (tLcDD (.one 2) [2] (tItD (tVarD 0)) (tTestD (tOpD eqD (tOpD ixD (tVarB 2) (tCD (.int 1))) (tVarB 1))) (tTupD (tConsD (tOpD ixD (tVarB 2) (tCD (.int 0))) (tConsD (tCD (.int 0)) (tConsD (tOpD ixD (tVarB 2) (tCD (.int 2))) tNilD))))) tNilD)))
structure pf__law_part (ds : List D) (W R : D → Prop) : Prop where
  len : ds.length = 2
  run : t__law_part (endP W R) (envAt 3 ds) 0
theorem l__law_part (ds : List D) (W R : D → Prop) (h : pf__law_part ds W R) : ds.length = 2 := h.1
theorem q__law_part (ds : List D) (W R : D → Prop) (h : pf__law_part ds W R) : t__law_part (endP W R) (envAt 3 ds) 0 := h.2
/-! ### added -/
def t_added : TSD :=
  (tSeqD (tSetO 4 (tCallD dict1D (tConsD (tVarB 1) tNilD)))
  (tSeqD (tForD (.one 5) (tItD (tVarD 2))
  (tSeqD (tSetD 6 (tOpD modD (tOpD addD (tGet2 (tVarB 4) (tVarD 5) (tCD (.int 0))) (tOpD mulD (tVarB 3) (tOpD ixD (tVarB 2) (tVarB 5)))) (tVarB 0)))
  (tIfSD (tTestD (tOpD neD (tVarB 6) (tCD (.int 0))))
  (tPutD 4 (tVarD 5) (tVarD 6))
  (tDropP (tDPopD 4 (tVarD 5) (tCD .non))))))
  (tFrzD 4 (tRetD (tVarD 4)))))
structure pf_added (ds : List D) (W R : D → Prop) : Prop where
  len : ds.length = 4
  run : t_added (endP W R) (envAt 7 ds) 0
theorem l_added (ds : List D) (W R : D → Prop) (h : pf_added ds W R) : ds.length = 4 := h.1
theorem q_added (ds : List D) (W R : D → Prop) (h : pf_added ds W R) : t_added (endP W R) (envAt 7 ds) 0 := h.2
/-! ### packed -/
def t_packed : TSD :=
  (tSeqD (tSetD 3 (tCD (.int 0)))
  (tSeqD (tForD (.one 4) (tItD (tVarD 0))
  (tSetD 3 (tOpD addD (tVarB 3) (tOpD shlD (tOpD ixD (tVarB 0) (tVarB 4)) (tOpD mulD (tVarB 1) (tOpD addD (tOpD ixD (tVarB 4) (tCD (.int 0))) (tOpD mulD (tVarB 2) (tOpD ixD (tVarB 4) (tCD (.int 1))))))))))
  (tRetD (tVarD 3))))
structure pf_packed (ds : List D) (W R : D → Prop) : Prop where
  len : ds.length = 3
  run : t_packed (endP W R) (envAt 5 ds) 0
theorem l_packed (ds : List D) (W R : D → Prop) (h : pf_packed ds W R) : ds.length = 3 := h.1
theorem q_packed (ds : List D) (W R : D → Prop) (h : pf_packed ds W R) : t_packed (endP W R) (envAt 5 ds) 0 := h.2
/-! ### long_product -/
def t_long_product : TSD :=
  tNoS
structure pf_long_product (ds : List D) (W R : D → Prop) : Prop where
  len : ds.length = 3
  run : t_long_product (endP W R) (envAt 13 ds) 0
theorem l_long_product (ds : List D) (W R : D → Prop) (h : pf_long_product ds W R) : ds.length = 3 := h.1
theorem q_long_product (ds : List D) (W R : D → Prop) (h : pf_long_product ds W R) : t_long_product (endP W R) (envAt 13 ds) 0 := h.2
/-! ### product -/
def t_product : TSD :=
  (tSeqD (tIfSD (tTestD (tOpD gtD (tOpD mulD (tCallD lenD (tConsD (tVarB 1) tNilD)) (tCallD lenD (tConsD (tVarB 2) tNilD))) (tCD (.int 3000))))
  (tRetD (tCallP pf_long_product (tConsD (tVarD 0) (tConsD (tVarD 1) (tConsD (tVarD 2) tNilD)))))
  tNextD)
  (tSeqD (tSetO 3 (tCD (.dic true [] [])))
  (tSeqD (tForD (.one 4) (tItD (tVarD 1))
  (tForD (.one 5) (tItD (tVarD 2))
  (tSeqD (tSetD 6 (tTupD (tConsD (tOpD addD (tOpD ixD (tVarB 4) (tCD (.int 0))) (tOpD ixD (tVarB 5) (tCD (.int 0)))) (tConsD (tOpD addD (tOpD ixD (tVarB 4) (tCD (.int 1))) (tOpD ixD (tVarB 5) (tCD (.int 1)))) tNilD))))
  (tPutD 3 (tVarD 6) (tOpD addD (tGet2 (tVarB 3) (tVarD 6) (tCD (.int 0))) (tOpD mulD (tOpD ixD (tVarB 1) (tVarB 4)) (tOpD ixD (tVarB 2) (tVarB 5))))))))
  (tFrzD 3 (tRetD (tDcD true (.one 6) [6] (tItD (tVarD 3)) (tTestD (tOpD neD (tOpD modD (tOpD ixD (tVarB 3) (tVarB 6)) (tVarB 0)) (tCD (.int 0)))) (tVarD 6) (tOpD modD (tOpD ixD (tVarB 3) (tVarB 6)) (tVarB 0))))))))
structure pf_product (ds : List D) (W R : D → Prop) : Prop where
  len : ds.length = 3
  run : t_product (endP W R) (envAt 7 ds) 0
theorem l_product (ds : List D) (W R : D → Prop) (h : pf_product ds W R) : ds.length = 3 := h.1
theorem q_product (ds : List D) (W R : D → Prop) (h : pf_product ds W R) : t_product (endP W R) (envAt 7 ds) 0 := h.2
/-! ### rows_right -/
def t_rows_right : TSD :=
  (tSeqD (tIfSD (tOrD (tNotD (tTruD (tIsD .tup (tVarB 1)))) (tNotD (tTestD (tChainD leD leD (tCD (.int 2)) (tCallD lenD (tConsD (tVarB 1) tNilD)) (tCD (.int 4))))))
  (tRetD (tCD (.bl false)))
  tNextD)
  (tRetD (tCallD allD (tConsD (tLcDD (.one 2) [2] (tItD (tVarD 1)) tYesD (tCallP pf_polys_right (tConsD (tVarD 0) (tConsD (tVarD 2) tNilD)))) tNilD))))
structure pf_rows_right (ds : List D) (W R : D → Prop) : Prop where
  len : ds.length = 2
  run : t_rows_right (endP W R) (envAt 3 ds) 0
theorem l_rows_right (ds : List D) (W R : D → Prop) (h : pf_rows_right ds W R) : ds.length = 2 := h.1
theorem q_rows_right (ds : List D) (W R : D → Prop) (h : pf_rows_right ds W R) : t_rows_right (endP W R) (envAt 3 ds) 0 := h.2
/-! ### need_row -/
def t_need_row : TSD :=
  (tSeqD (tDropD (tCallP pf_need_prime (tConsD (tVarD 0) tNilD)))
  (tIfSD (tNotD (tTruD (tCallP pf_rows_right (tConsD (tVarD 0) (tConsD (tVarD 1) tNilD)))))
  (tRaiseD "BadRow")
  tNextD))
structure pf_need_row (ds : List D) (W R : D → Prop) : Prop where
  len : ds.length = 2
  run : t_need_row (endP W R) (envAt 2 ds) 0
theorem l_need_row (ds : List D) (W R : D → Prop) (h : pf_need_row ds W R) : ds.length = 2 := h.1
theorem q_need_row (ds : List D) (W R : D → Prop) (h : pf_need_row ds W R) : t_need_row (endP W R) (envAt 2 ds) 0 := h.2
/-! ### sum_of -/
def t_sum_of : TSD :=
  (tSeqD (tSetD 3 (tCD (.dic true [] [])))
  (tSeqD (tForD (.tup [4, 5]) (tZipD (tConsD (tVarD 1) (tConsD (tVarD 2) tNilD)))
  (tSetD 3 (tCallPD pf_added (.int 1) (tConsD (tVarD 0) (tConsD (tVarD 3) (tConsD (tCallP pf_product (tConsD (tVarD 0) (tConsD (tVarD 4) (tConsD (tVarD 5) tNilD)))) tNilD))))))
  (tRetD (tVarD 3))))
structure pf_sum_of (ds : List D) (W R : D → Prop) : Prop where
  len : ds.length = 3
  run : t_sum_of (endP W R) (envAt 6 ds) 0
theorem l_sum_of (ds : List D) (W R : D → Prop) (h : pf_sum_of ds W R) : ds.length = 3 := h.1
theorem q_sum_of (ds : List D) (W R : D → Prop) (h : pf_sum_of ds W R) : t_sum_of (endP W R) (envAt 6 ds) 0 := h.2
/-! ### are_ones -/
def t_are_ones : TSD :=
  (tSeqD (tDropD (tCallP pf_need_row (tConsD (tVarD 0) (tConsD (tVarD 1) tNilD))))
  (tSeqD (tIfSD (tOrD (tNotD (tTruD (tIsD .tup (tVarB 2)))) (tOrD (tTestD (tOpD neD (tCallD lenD (tConsD (tVarB 2) tNilD)) (tCallD lenD (tConsD (tVarB 1) tNilD)))) (tNotD (tTruD (tCallD allD (tConsD (tLcDD (.one 3) [3] (tItD (tVarD 2)) tYesD (tCallP pf_polys_right (tConsD (tVarD 0) (tConsD (tVarD 3) tNilD)))) tNilD))))))
  (tRetD (tCD (.bl false)))
  tNextD)
  (tRetD (tOpD eqBD (tCallP pf_sum_of (tConsD (tVarD 0) (tConsD (tLcDD (.one 3) [3] (tItD (tVarD 1)) tYesD (tCallP pf_book_of (tConsD (tVarD 3) tNilD))) (tConsD (tLcDD (.one 3) [3] (tItD (tVarD 2)) tYesD (tCallP pf_book_of (tConsD (tVarD 3) tNilD))) tNilD)))) (tDisp1 (tTupD (tConsD (tCD (.int 0)) (tConsD (tCD (.int 0)) tNilD))) (tCD (.int 1)))))))
structure pf_are_ones (ds : List D) (W R : D → Prop) : Prop where
  len : ds.length = 3
  run : t_are_ones (endP W R) (envAt 4 ds) 0
theorem l_are_ones (ds : List D) (W R : D → Prop) (h : pf_are_ones ds W R) : ds.length = 3 := h.1
theorem q_are_ones (ds : List D) (W R : D → Prop) (h : pf_are_ones ds W R) : t_are_ones (endP W R) (envAt 4 ds) 0 := h.2
/-! ### _law_dict -/
def t__law_dict : TSD :=
  (tRetD (tCallD dict1D (tConsD (tLcDD (.one 1) [1] (tItD (tVarD 0)) tYesD (tTupD (tConsD (tTupD (tConsD (tOpD ixD (tVarB 1) (tCD (.int 0))) (tConsD (tOpD ixD (tVarB 1) (tCD (.int 1))) tNilD))) (tConsD (tOpD ixD (tVarB 1) (tCD (.int 2))) tNilD)))) tNilD)))
structure pf__law_dict (ds : List D) (W R : D → Prop) : Prop where
  len : ds.length = 1
  run : t__law_dict (endP W R) (envAt 2 ds) 0
theorem l__law_dict (ds : List D) (W R : D → Prop) (h : pf__law_dict ds W R) : ds.length = 1 := h.1
theorem q__law_dict (ds : List D) (W R : D → Prop) (h : pf__law_dict ds W R) : t__law_dict (endP W R) (envAt 2 ds) 0 := h.2
/-! ### _law_poly_of -/
def t__law_poly_of : TSD :=
  (tRetD (tCallD tupleD (tConsD (tLcDD (.one 1) [1] (tItD (tCallD sort2D (tConsD (tVarB 0) tNilD))) tYesD (tOpD addD (tVarB 1) (tTupD (tConsD (tOpD ixD (tVarB 0) (tVarB 1)) tNilD)))) tNilD)))
structure pf__law_poly_of (ds : List D) (W R : D → Prop) : Prop where
  len : ds.length = 1
  run : t__law_poly_of (endP W R) (envAt 2 ds) 0
theorem l__law_poly_of (ds : List D) (W R : D → Prop) (h : pf__law_poly_of ds W R) : ds.length = 1 := h.1
theorem q__law_poly_of (ds : List D) (W R : D → Prop) (h : pf__law_poly_of ds W R) : t__law_poly_of (endP W R) (envAt 2 ds) 0 := h.2
/-! ### _law_added -/
def t__law_added : TSD :=
  (tSeqD (tSetO 4 (tCallD dict1D (tConsD (tLcDD (.one 5) [5] (tItD (tVarD 1)) tYesD (tTupD (tConsD (tVarD 5) (tConsD (tOpD ixD (tVarB 1) (tVarB 5)) tNilD)))) tNilD)))
  (tSeqD (tForD (.one 5) (tItD (tVarD 2))
  (tPutD 4 (tVarD 5) (tOpD modD (tCallD int1D (tConsD (tOpD addD (tGet2 (tVarB 4) (tVarD 5) (tCD (.int 0))) (tOpD mulD (tVarB 3) (tOpD ixD (tVarB 2) (tVarB 5)))) tNilD)) (tVarB 0))))
  (tFrzD 4 (tRetD (tCallD dict1D (tConsD (tLcDD (.one 5) [5] (tItD (tVarD 4)) (tTestD (tOpD neD (tOpD ixD (tVarB 4) (tVarB 5)) (tCD (.int 0)))) (tTupD (tConsD (tVarD 5) (tConsD (tOpD ixD (tVarB 4) (tVarB 5)) tNilD)))) tNilD))))))
structure pf__law_added (ds : List D) (W R : D → Prop) : Prop where
  len : ds.length = 4
  run : t__law_added (endP W R) (envAt 6 ds) 0
theorem l__law_added (ds : List D) (W R : D → Prop) (h : pf__law_added ds W R) : ds.length = 4 := h.1
theorem q__law_added (ds : List D) (W R : D → Prop) (h : pf__law_added ds W R) : t__law_added (endP W R) (envAt 6 ds) 0 := h.2
/-! ### _law_product -/
def t__law_product : TSD :=
  (tSeqD (tSetO 3 (tCD (.dic true [] [])))
  (tSeqD (tForD (.tup [4, 5]) (tItD (tVarD 1))
  (tForD (.tup [6, 7]) (tItD (tVarD 2))
  (tPutD 3 (tTupD (tConsD (tOpD addD (tVarB 4) (tVarB 6)) (tConsD (tOpD addD (tVarB 5) (tVarB 7)) tNilD))) (tOpD addD (tGet2 (tVarB 3) (tTupD (tConsD (tOpD addD (tVarB 4) (tVarB 6)) (tConsD (tOpD addD (tVarB 5) (tVarB 7)) tNilD))) (tCD (.int 0))) (tOpD mulD (tOpD ixD (tVarB 1) (tTupD (tConsD (tVarD 4) (tConsD (tVarD 5) tNilD)))) (tOpD ixD (tVarB 2) (tTupD (tConsD (tVarD 6) (tConsD (tVarD 7) tNilD)))))))))
  (tFrzD 3 (tRetD (tCallD dict1D (tConsD (tLcDD (.one 8) [8] (tItD (tVarD 3)) (tTestD (tOpD neD (tOpD modD (tCallD int1D (tConsD (tOpD ixD (tVarB 3) (tVarB 8)) tNilD)) (tVarB 0)) (tCD (.int 0)))) (tTupD (tConsD (tVarD 8) (tConsD (tOpD modD (tCallD int1D (tConsD (tOpD ixD (tVarB 3) (tVarB 8)) tNilD)) (tVarB 0)) tNilD)))) tNilD))))))
structure pf__law_product (ds : List D) (W R : D → Prop) : Prop where
  len : ds.length = 3
  run : t__law_product (endP W R) (envAt 9 ds) 0
theorem l__law_product (ds : List D) (W R : D → Prop) (h : pf__law_product ds W R) : ds.length = 3 := h.1
theorem q__law_product (ds : List D) (W R : D → Prop) (h : pf__law_product ds W R) : t__law_product (endP W R) (envAt 9 ds) 0 := h.2
/-! ### _law_plus -/
def t__law_plus : TSD :=
  (tRetD (tCallP pf__law_poly_of (tConsD (tCallP pf__law_added (tConsD (tVarD 0) (tConsD (tCallP pf__law_dict (tConsD (tVarD 1) tNilD)) (tConsD (tCallP pf__law_dict (tConsD (tVarD 2) tNilD)) (tConsD (tCD (.int 1)) tNilD))))) tNilD)))
structure pf__law_plus (ds : List D) (W R : D → Prop) : Prop where
  len : ds.length = 3
  run : t__law_plus (endP W R) (envAt 3 ds) 0
theorem l__law_plus (ds : List D) (W R : D → Prop) (h : pf__law_plus ds W R) : ds.length = 3 := h.1
theorem q__law_plus (ds : List D) (W R : D → Prop) (h : pf__law_plus ds W R) : t__law_plus (endP W R) (envAt 3 ds) 0 := h.2
/-! ### _law_less -/
def t__law_less : TSD :=
  (tRetD (tCallP pf__law_poly_of (tConsD (tCallP pf__law_added (tConsD (tVarD 0) (tConsD (tCallP pf__law_dict (tConsD (tVarD 1) tNilD)) (tConsD (tCallP pf__law_dict (tConsD (tVarD 2) tNilD)) (tConsD (tOpD subD (tVarB 0) (tCD (.int 1))) tNilD))))) tNilD)))
structure pf__law_less (ds : List D) (W R : D → Prop) : Prop where
  len : ds.length = 3
  run : t__law_less (endP W R) (envAt 3 ds) 0
theorem l__law_less (ds : List D) (W R : D → Prop) (h : pf__law_less ds W R) : ds.length = 3 := h.1
theorem q__law_less (ds : List D) (W R : D → Prop) (h : pf__law_less ds W R) : t__law_less (endP W R) (envAt 3 ds) 0 := h.2
/-! ### _law_times -/
def t__law_times : TSD :=
  (tRetD (tCallP pf__law_poly_of (tConsD (tCallP pf__law_product (tConsD (tVarD 0) (tConsD (tCallP pf__law_dict (tConsD (tVarD 1) tNilD)) (tConsD (tCallP pf__law_dict (tConsD (tVarD 2) tNilD)) tNilD)))) tNilD)))
structure pf__law_times (ds : List D) (W R : D → Prop) : Prop where
  len : ds.length = 3
  run : t__law_times (endP W R) (envAt 3 ds) 0
theorem l__law_times (ds : List D) (W R : D → Prop) (h : pf__law_times ds W R) : ds.length = 3 := h.1
theorem q__law_times (ds : List D) (W R : D → Prop) (h : pf__law_times ds W R) : t__law_times (endP W R) (envAt 3 ds) 0 := h.2
/-! ### _law_said -/
def t__law_said : TSD :=
  (tRetD (tAndVD (tIsD .bool (tVarB 0)) (tOpD eqD (tVarB 0) (tVarB 1))))
structure pf__law_said (ds : List D) (W R : D → Prop) : Prop where
  len : ds.length = 2
  run : t__law_said (endP W R) (envAt 2 ds) 0
theorem l__law_said (ds : List D) (W R : D → Prop) (h : pf__law_said ds W R) : ds.length = 2 := h.1
theorem q__law_said (ds : List D) (W R : D → Prop) (h : pf__law_said ds W R) : t__law_said (endP W R) (envAt 2 ds) 0 := h.2
/-! ### _law_sum_of -/
def t__law_sum_of : TSD :=
  (tSeqD (tSetD 3 (tTupD tNilD))
  (tSeqD (tForD (.tup [4, 5]) (tZipD (tConsD (tVarD 1) (tConsD (tVarD 2) tNilD)))
  (tSetD 3 (tCallP pf__law_plus (tConsD (tVarD 0) (tConsD (tVarD 3) (tConsD (tCallP pf__law_times (tConsD (tVarD 0) (tConsD (tVarD 4) (tConsD (tVarD 5) tNilD)))) tNilD))))))
  (tRetD (tVarD 3))))
structure pf__law_sum_of (ds : List D) (W R : D → Prop) : Prop where
  len : ds.length = 3
  run : t__law_sum_of (endP W R) (envAt 6 ds) 0
theorem l__law_sum_of (ds : List D) (W R : D → Prop) (h : pf__law_sum_of ds W R) : ds.length = 3 := h.1
theorem q__law_sum_of (ds : List D) (W R : D → Prop) (h : pf__law_sum_of ds W R) : t__law_sum_of (endP W R) (envAt 6 ds) 0 := h.2
/-! ### _law_is_row -/
def t__law_is_row : TSD :=
  (tSeqD (tIfSD (tOrD (tNotD (tTruD (tIsD .tup (tVarB 1)))) (tNotD (tTestD (tChainD leD leD (tCD (.int 2)) (tCallD lenD (tConsD (tVarB 1) tNilD)) (tCD (.int 4))))))
  (tRetD (tCD (.bl false)))
  tNextD)
  (tRetD (tOpD eqD (tLcDD (.one 2) [2] (tItD (tVarD 1)) (tNotD (tTruD (tCallP pf__law_is_poly (tConsD (tVarD 0) (tConsD (tVarD 2) tNilD))))) (tCD (.int 1))) (tLstD tNilD))))
structure pf__law_is_row (ds : List D) (W R : D → Prop) : Prop where
  len : ds.length = 2
  run : t__law_is_row (endP W R) (envAt 3 ds) 0
theorem l__law_is_row (ds : List D) (W R : D → Prop) (h : pf__law_is_row ds W R) : ds.length = 2 := h.1
theorem q__law_is_row (ds : List D) (W R : D → Prop) (h : pf__law_is_row ds W R) : t__law_is_row (endP W R) (envAt 3 ds) 0 := h.2
end KC
set_option Elab.async false
set_option linter.all false
set_option maxRecDepth 100000
set_option maxHeartbeats 1000000
namespace KC
open PySem PySem.Spec L2 DL
/-! ### books: dicts from pairs of powers to numbers -/
abbrev P2 := Int × Int
abbrev Bk := List (P2 × Int)
def keysB (b : Bk) : List D := b.map fun e => pD e.1
def valsB (b : Bk) : List D := b.map fun e => D.int e.2
def encB (b : Bk) : D := .dic true (keysB b) (valsB b)
def coef : Bk → P2 → Int
  | [], _ => 0
  | e :: b, k => if e.1 = k then e.2 else coef b k
def putB : Bk → P2 → Int → Bk
  | [], k, v => [(k, v)]
  | e :: b, k, v => if e.1 = k then (k, v) :: b else e :: putB b k v
def dropB : Bk → P2 → Bk
  | [], _ => []
  | e :: b, k => if e.1 = k then b else e :: dropB b k
theorem pD_inj {a b : P2} (h : pD a = pD b) : a = b := by
  unfold pD at h
  injection h with h
  injection h with h1 h
  injection h with h2 _
  injection h1 with h1
  injection h2 with h2
  exact Prod.ext h1 h2
theorem fits_pD (k : P2) : keyFits true (pD k) := ⟨[.inl k.1, .inl k.2], rfl⟩
theorem keysB_cons (e : P2 × Int) (b : Bk) : keysB (e :: b) = pD e.1 :: keysB b := rfl
theorem valsB_cons (e : P2 × Int) (b : Bk) : valsB (e :: b) = .int e.2 :: valsB b := rfl
theorem keysB_length (b : Bk) : (keysB b).length = b.length := List.length_map _
theorem mem_keysB {b : Bk} {k : P2} : pD k ∈ keysB b ↔ k ∈ b.map (·.1) := by
  unfold keysB
  rw [List.mem_map, List.mem_map]
  constructor
  · rintro ⟨e, he, h⟩
    exact ⟨e, he, pD_inj h⟩
  · rintro ⟨e, he, h⟩
    exact ⟨e, he, by rw [h]⟩
theorem look_B : ∀ (b : Bk) (k : P2), lookD (keysB b) (valsB b) (pD k) = if k ∈ b.map (·.1) then some (.int (coef b k)) else none
  | [], k => by simp [keysB, valsB, lookD]
  | e :: b, k => by
    rw [keysB_cons, valsB_cons, lookD, look_B b k]
    by_cases h : e.1 = k
    · rw [if_pos (by rw [h]), List.map_cons, if_pos (by rw [h]; exact List.mem_cons_self ..), coef, if_pos h]
    · rw [if_neg fun z => h (pD_inj z), coef, if_neg h]
      by_cases h2 : k ∈ b.map (·.1)
      · rw [if_pos h2, List.map_cons, if_pos (List.mem_cons_of_mem _ h2)]
      · rw [if_neg h2, List.map_cons, if_neg]
        intro z
        rcases List.mem_cons.mp z with z | z
        · exact h z.symm
        · exact h2 z
theorem coef_out : ∀ {b : Bk} {k : P2}, k ∉ b.map (·.1) → coef b k = 0
  | [], _, _ => rfl
  | e :: b, k, h => by
    rw [List.map_cons, List.mem_cons, not_or] at h
    rw [coef, if_neg (fun z => h.1 z.symm), coef_out h.2]
theorem look_B0 (b : Bk) (k : P2) : (lookD (keysB b) (valsB b) (pD k)).getD (.int 0) = .int (coef b k) := by
  rw [look_B]
  by_cases h : k ∈ b.map (·.1)
  · rw [if_pos h]; rfl
  · rw [if_neg h, coef_out h]; rfl
theorem putK_B : ∀ (b : Bk) (k : P2) (v : Int), putKs (keysB b) (pD k) = keysB (putB b k v)
  | [], k, v => by simp [putKs, putB, keysB]
  | e :: b, k, v => by
    have ih := putK_B b k v
    unfold putKs at ih ⊢
    rw [putB, keysB_cons]
    by_cases h : e.1 = k
    · rw [if_pos (by rw [h]; exact List.mem_cons_self ..), if_pos h, keysB_cons, h]
    · rw [if_neg h, keysB_cons, ← ih]
      by_cases h2 : pD k ∈ keysB b
      · rw [if_pos h2, if_pos (List.mem_cons_of_mem _ h2)]
      · rw [if_neg h2, if_neg]
        · rfl
        · intro z
          rcases List.mem_cons.mp z with z | z
          · exact h (pD_inj z).symm
          · exact h2 z
open Classical in
theorem zip_none {b : Bk} {k : P2} {v : D} (h : k ∉ b.map (·.1)) : List.zipWith (fun k' v' => if k' = pD k then v else v') (keysB b) (valsB b) = valsB b := by
  induction b with
  | nil => rfl
  | cons e b ih =>
    rw [List.map_cons, List.mem_cons, not_or] at h
    rw [keysB_cons, valsB_cons, List.zipWith_cons_cons, ih h.2, if_neg fun z => h.1 (pD_inj z).symm]
theorem putV_B : ∀ (b : Bk) (k : P2) (v : Int), (b.map (·.1)).Nodup → putVs (keysB b) (valsB b) (pD k) (.int v) = valsB (putB b k v)
  | [], k, v, _ => by simp [putVs, putB, keysB, valsB]
  | e :: b, k, v, hn => by
    rw [List.map_cons, List.nodup_cons] at hn
    have ih := putV_B b k v hn.2
    unfold putVs at ih ⊢
    rw [putB, keysB_cons, valsB_cons]
    by_cases h : e.1 = k
    · rw [if_pos (by rw [h]; exact List.mem_cons_self ..), if_pos h, valsB_cons, List.zipWith_cons_cons, if_pos (by rw [h]), zip_none (by rw [← h]; exact hn.1)]
    · rw [if_neg h, valsB_cons, ← ih]
      by_cases h2 : pD k ∈ keysB b
      · rw [if_pos h2, if_pos (List.mem_cons_of_mem _ h2), List.zipWith_cons_cons, if_neg fun z => h (pD_inj z)]
      · rw [if_neg h2, if_neg]
        · rfl
        · intro z
          rcases List.mem_cons.mp z with z | z
          · exact h (pD_inj z).symm
          · exact h2 z
theorem put_enc {b : Bk} (k : P2) (v : Int) (hn : (b.map (·.1)).Nodup) : D.dic true (putKs (keysB b) (pD k)) (putVs (keysB b) (valsB b) (pD k) (.int v)) = encB (putB b k v) := by
  rw [putK_B b k v, putV_B b k v hn, encB]
theorem mem_putB : ∀ {b : Bk} {k : P2} {v : Int} {e : P2 × Int}, e ∈ putB b k v → e = (k, v) ∨ e ∈ b
  | [], k, v, e, h => by
    rw [putB, List.mem_singleton] at h
    exact .inl h
  | a :: b, k, v, e, h => by
    rw [putB] at h
    by_cases h2 : a.1 = k
    · rw [if_pos h2] at h
      rcases List.mem_cons.mp h with h | h
      · exact .inl h
      · exact .inr (List.mem_cons_of_mem _ h)
    · rw [if_neg h2] at h
      rcases List.mem_cons.mp h with h | h
      · exact .inr (by rw [h]; exact List.mem_cons_self ..)
      · rcases mem_putB h with h | h
        · exact .inl h
        · exact .inr (List.mem_cons_of_mem _ h)
theorem keys_putB : ∀ (b : Bk) (k : P2) (v : Int), (putB b k v).map (·.1) = if k ∈ b.map (·.1) then b.map (·.1) else b.map (·.1) ++ [k]
  | [], k, v => by simp [putB]
  | a :: b, k, v => by
    have ih := keys_putB b k v
    rw [putB]
    by_cases h : a.1 = k
    · rw [if_pos h, List.map_cons, List.map_cons, if_pos (by rw [h]; exact List.mem_cons_self ..), h]
    · rw [if_neg h, List.map_cons, List.map_cons, ih]
      by_cases h2 : k ∈ b.map (·.1)
      · rw [if_pos h2, if_pos (List.mem_cons_of_mem _ h2)]
      · rw [if_neg h2, if_neg]
        · rfl
        · intro z
          rcases List.mem_cons.mp z with z | z
          · exact h z.symm
          · exact h2 z
theorem nodup_putB {b : Bk} (k : P2) (v : Int) (hn : (b.map (·.1)).Nodup) : ((putB b k v).map (·.1)).Nodup := by
  rw [keys_putB]
  by_cases h : k ∈ b.map (·.1)
  · rwa [if_pos h]
  · rw [if_neg h, List.nodup_append]
    refine ⟨hn, by simp, fun x hx y hy => ?_⟩
    rw [List.mem_singleton] at hy
    subst hy
    intro z
    subst z
    exact h hx
theorem coef_put : ∀ (b : Bk) (k : P2) (v : Int) (q : P2), coef (putB b k v) q = if k = q then v else coef b q
  | [], k, v, q => rfl
  | a :: b, k, v, q => by
    have ih := coef_put b k v q
    rw [putB]
    by_cases h : a.1 = k
    · rw [if_pos h, coef, coef]
      by_cases h2 : k = q
      · rw [if_pos h2, if_pos h2]
      · rw [if_neg h2, if_neg h2, if_neg (by rw [h]; exact h2)]
    · rw [if_neg h, coef, coef, ih]
      by_cases h2 : a.1 = q
      · rw [if_pos h2, if_pos h2, if_neg fun z => h (h2.trans z.symm)]
      · rw [if_neg h2, if_neg h2]
theorem len_putB : ∀ (b : Bk) (k : P2) (v : Int), (putB b k v).length ≤ b.length + 1
  | [], k, v => Nat.le_refl _
  | a :: b, k, v => by
    rw [putB]
    by_cases h : a.1 = k
    · rw [if_pos h, List.length_cons, List.length_cons]; omega
    · have := len_putB b k v
      rw [if_neg h, List.length_cons, List.length_cons]; omega
theorem putB_new : ∀ {b : Bk} {k : P2} {v : Int}, k ∉ b.map (·.1) → putB b k v = b ++ [(k, v)]
  | [], _, _, _ => rfl
  | a :: b, k, v, h => by
    rw [List.map_cons, List.mem_cons, not_or] at h
    rw [putB, if_neg (fun z => h.1 z.symm), putB_new h.2]
    rfl
/-! drop -/
open Classical in
theorem dropK_B : ∀ (b : Bk) (k : P2), (b.map (·.1)).Nodup → dropKs (keysB b) (pD k) = keysB (dropB b k)
  | [], k, _ => by simp [dropKs, dropB, keysB]
  | e :: b, k, hn => by
    rw [List.map_cons, List.nodup_cons] at hn
    have ih := dropK_B b k hn.2
    unfold dropKs at ih ⊢
    rw [dropB, keysB_cons]
    by_cases h : e.1 = k
    · rw [if_pos h, List.filter_cons_of_neg (by simp [h])]
      refine List.filter_eq_self.mpr fun d hd => ?_
      obtain ⟨f, hf, rfl⟩ := List.mem_map.mp hd
      refine decide_eq_true fun z => ?_
      exact hn.1 (by rw [h, ← pD_inj z]; exact List.mem_map_of_mem hf)
    · rw [if_neg h, List.filter_cons_of_pos (p := fun k' => decide (k' ≠ pD k)) (decide_eq_true (show pD e.1 ≠ pD k from fun z => h (pD_inj z))), ih, keysB_cons]
theorem dropV_out : ∀ {b : Bk} {k : P2}, k ∉ b.map (·.1) → dropVs (keysB b) (valsB b) (pD k) = valsB b
  | [], _, _ => by rw [keysB, List.map_nil, dropVs.eq_def]; rfl
  | e :: b, k, h => by
    rw [List.map_cons, List.mem_cons, not_or] at h
    rw [keysB_cons, valsB_cons, dropVs, if_neg (fun z => h.1 (pD_inj z).symm), dropV_out h.2]
theorem dropV_B : ∀ (b : Bk) (k : P2), (b.map (·.1)).Nodup → dropVs (keysB b) (valsB b) (pD k) = valsB (dropB b k)
  | [], k, _ => by rw [keysB, List.map_nil, dropVs.eq_def]; rfl
  | e :: b, k, hn => by
    rw [List.map_cons, List.nodup_cons] at hn
    rw [keysB_cons, valsB_cons, dropVs, dropB]
    by_cases h : e.1 = k
    · rw [if_pos (by rw [h]), if_pos h, dropV_out (by rw [← h]; exact hn.1)]
    · rw [if_neg fun z => h (pD_inj z), if_neg h, dropV_B b k hn.2, valsB_cons]
theorem drop_enc {b : Bk} (k : P2) (hn : (b.map (·.1)).Nodup) : D.dic true (dropKs (keysB b) (pD k)) (dropVs (keysB b) (valsB b) (pD k)) = encB (dropB b k) := by
  rw [dropK_B b k hn, dropV_B b k hn, encB]
theorem sub_dropB : ∀ (b : Bk) (k : P2), (dropB b k).Sublist b
  | [], _ => List.Sublist.slnil
  | e :: b, k => by
    rw [dropB]
    by_cases h : e.1 = k
    · rw [if_pos h]; exact List.sublist_cons_self ..
    · rw [if_neg h]; exact (sub_dropB b k).cons_cons _
theorem coef_drop : ∀ (b : Bk) (k q : P2), (b.map (·.1)).Nodup → coef (dropB b k) q = if k = q then 0 else coef b q
  | [], k, q, _ => by rw [dropB, coef]; split <;> rfl
  | e :: b, k, q, hn => by
    rw [List.map_cons, List.nodup_cons] at hn
    rw [dropB]
    by_cases h : e.1 = k
    · rw [if_pos h, coef]
      by_cases h2 : k = q
      · rw [if_pos h2, coef_out (by rw [← h2, ← h]; exact hn.1)]
      · rw [if_neg h2, if_neg (by rw [h]; exact h2)]
    · rw [if_neg h, coef, coef, coef_drop b k q hn.2]
      by_cases h2 : e.1 = q
      · rw [if_pos h2, if_pos h2, if_neg fun z => h (h2.trans z.symm)]
      · rw [if_neg h2, if_neg h2]
theorem dropB_out : ∀ {b : Bk} {k : P2}, k ∉ b.map (·.1) → dropB b k = b
  | [], _, _ => rfl
  | e :: b, k, h => by
    rw [List.map_cons, List.mem_cons, not_or] at h
    rw [dropB, if_neg (fun z => h.1 z.symm), dropB_out h.2]
/-! ### dict comprehensions that make books -/
def putAll (b : Bk) (es : Bk) : Bk := es.foldl (fun b e => putB b e.1 e.2) b
theorem putAll_new : ∀ (es b : Bk), ((b ++ es).map (·.1)).Nodup → putAll b es = b ++ es
  | [], b, _ => (List.append_nil b).symm
  | e :: es, b, h => by
    show putAll (putB b e.1 e.2) es = _
    have h1 : e.1 ∉ b.map (·.1) := fun z => by
      rw [List.map_append, List.nodup_append] at h
      exact h.2.2 _ z _ (by rw [List.map_cons]; exact List.mem_cons_self ..) rfl
    rw [putB_new h1, putAll_new es (b ++ [(e.1, e.2)]) (by rw [List.append_assoc]; exact h), List.append_assoc]
    rfl
theorem nodup_putAll : ∀ (es : Bk) {b : Bk}, (b.map (·.1)).Nodup → ((putAll b es).map (·.1)).Nodup
  | [], _, h => h
  | e :: es, b, h => nodup_putAll es (nodup_putB e.1 e.2 h)
section
variable {tg : Tg} {own : List Nat} {tt : TTD} {tk tv : TED} {env : EnvD} {Q : D → Nat → Prop}
theorem dc_pure (f : D → Option (P2 × Int)) {c : Nat} : ∀ (ds : List D) (acc : Bk), (acc.map (·.1)).Nodup → acc.length + ds.length ≤ sizeLine →
    (∀ d ∈ ds, ∀ (k0 : Nat → Prop) (k1 : D → D → Nat → Prop), (match f d with | some e => k1 (pD e.1) (.int e.2) c | none => k0 c) →
      tg.set d (wipeD env own) fun env1 => tt env1 c noWD fun b c1 => if b = true then tk env1 c1 noWD fun k c2 => tv env1 c2 noWD fun v c3 => k1 k v c3 else k0 c1) →
    Q (encB (putAll acc (ds.filterMap f))) c → dcR true tg own tt tk tv env Q ds (keysB acc) (valsB acc) c
  | [], acc, _, _, _, q => by
    show Q (.dic true (keysB acc) (valsB acc)) c
    exact q
  | d :: ds, acc, hn, hl, h, q => by
    rw [List.length_cons] at hl
    rw [dcR]
    refine h d (List.mem_cons_self ..) (fun c1 => dcR true tg own tt tk tv env Q ds (keysB acc) (valsB acc) c1) (fun k v c3 => keyFits true k ∧ (keysB acc).length < sizeLine ∧ dcR true tg own tt tk tv env Q ds (putKs (keysB acc) k) (putVs (keysB acc) (valsB acc) k v) c3) ?_
    cases e : f d with
    | none =>
      rw [List.filterMap_cons_none e] at q
      exact dc_pure f ds acc hn (by omega) (fun x hx => h x (List.mem_cons_of_mem _ hx)) q
    | some kv =>
      rw [List.filterMap_cons_some e] at q
      refine ⟨fits_pD _, by rw [keysB_length]; omega, ?_⟩
      rw [putK_B acc kv.1 kv.2, putV_B acc kv.1 kv.2 hn]
      have := len_putB acc kv.1 kv.2
      exact dc_pure f ds (putB acc kv.1 kv.2) (nodup_putB _ _ hn) (by omega) (fun x hx => h x (List.mem_cons_of_mem _ hx)) q
end
/-- the same, out of sight; all keys unlike -/
theorem dc_book {tg : Tg} {own : List Nat} {tt : TTD} {tk tv : TED} {env : EnvD} {Q : D → Nat → Prop} (f : D → Option (P2 × Int)) {c : Nat} (ds : List D) (hl : ds.length ≤ sizeLine) (hn : ((ds.filterMap f).map (·.1)).Nodup)
    (h : ∀ d ∈ ds, ∀ (k0 : Nat → Prop) (k1 : D → D → Nat → Prop), (match f d with | some e => k1 (pD e.1) (.int e.2) c | none => k0 c) →
      tg.set d (wipeD env own) fun env1 => tt env1 c noWD fun b c1 => if b = true then tk env1 c1 noWD fun k c2 => tv env1 c2 noWD fun v c3 => k1 k v c3 else k0 c1)
    (q : Q (encB (ds.filterMap f)) c) : dcD true tg own tt tk tv env Q ds [] [] c :=
  ⟨dc_pure f ds [] (by simp) (by simpa using hl) h (by rw [putAll_new _ _ (by simpa using hn)]; exact q)⟩
end KC
set_option Elab.async false
set_option linter.all false
set_option maxRecDepth 100000
set_option maxHeartbeats 1000000
namespace KC
open PySem PySem.Spec L2 DL
/-! ### polys and books -/
def bookOf (ts : List T3) : Bk := ts.map fun t => ((t.1, t.2.1), t.2.2)
def decT : D → Option (P2 × Int)
  | .tup [.int i, .int j, .int c] => some ((i, j), c)
  | _ => none
theorem decT_enc (ts : List T3) : (ts.map encT).filterMap decT = bookOf ts := by
  rw [List.filterMap_map]
  induction ts with
  | nil => rfl
  | cons t ts ih =>
    have e : (decT ∘ encT) t = some ((t.1, t.2.1), t.2.2) := rfl
    rw [List.filterMap_cons_some e, ih]
    rfl
theorem nodup_bookOf {ts : List T3} (h : ts.Pairwise ltT) : ((bookOf ts).map (·.1)).Nodup := by
  unfold bookOf
  rw [List.map_map, List.nodup_iff_pairwise_ne, List.pairwise_map]
  refine h.imp fun {a b} l e => ?_
  have e : (a.1, a.2.1) = (b.1, b.2.1) := e
  injection e with e1 e2
  unfold ltT at l
  omega
def GoodB (p mx my : Int) (b : Bk) : Prop := (b.map (·.1)).Nodup ∧ ∀ e ∈ b, okT p mx my (e.1.1, e.1.2, e.2)
theorem GoodP.book {p mx my : Int} {ts : List T3} (h : GoodP p mx my ts) : GoodB p mx my (bookOf ts) := by
  refine ⟨nodup_bookOf h.2, fun e he => ?_⟩
  obtain ⟨t, ht, rfl⟩ := List.mem_map.mp he
  exact h.1 t ht
theorem size_line {n : Nat} (h : n ≤ 16777216) : n ≤ sizeLine := by rw [sizeLine_eq]; exact h
theorem s_book_of {ts : List T3} {W R : D → Prop} (hn : ts.Pairwise ltT) (hl : ts.length ≤ 16777216) (hR : R (encB (bookOf ts))) : pf_book_of [encP ts] W R := by
  refine ⟨rfl, ?_⟩
  simp [t_book_of, encP]
  refine dc_book decT (ts.map encT) (by rw [List.length_map]; exact size_line hl) (by rw [decT_enc]; exact nodup_bookOf hn) (fun d hd k0 k1 hk => ?_) (by rw [decT_enc]; exact hR)
  obtain ⟨t, _, rfl⟩ := List.mem_map.mp hd
  simpa [encT, pD, decT] using hk
theorem coef_map (g : P2 → Int) : ∀ (qs : List P2) (k : P2), coef (qs.map fun q => (q, g q)) k = if k ∈ qs then g k else 0
  | [], k => rfl
  | q :: qs, k => by
    rw [List.map_cons, coef, coef_map g qs k]
    by_cases h : q = k
    · rw [if_pos h, if_pos (by rw [h]; exact List.mem_cons_self ..), h]
    · rw [if_neg h]
      by_cases h2 : k ∈ qs
      · rw [if_pos h2, if_pos (List.mem_cons_of_mem _ h2)]
      · rw [if_neg h2, if_neg]
        intro z
        rcases List.mem_cons.mp z with z | z
        · exact h z.symm
        · exact h2 z
theorem coef_in : ∀ {b : Bk} {k : P2}, k ∈ b.map (·.1) → (k, coef b k) ∈ b
  | e :: b, k, h => by
    rw [coef]
    by_cases h2 : e.1 = k
    · rw [if_pos h2, ← h2]
      exact List.mem_cons_self ..
    · rw [if_neg h2]
      rw [List.map_cons] at h
      rcases List.mem_cons.mp h with z | z
      · exact absurd z.symm h2
      · exact List.mem_cons_of_mem _ (coef_in z)
theorem coef_mem : ∀ {b : Bk} {e : P2 × Int}, (b.map (·.1)).Nodup → e ∈ b → coef b e.1 = e.2
  | a :: b, e, hn, h => by
    rw [List.map_cons, List.nodup_cons] at hn
    rw [coef]
    rcases List.mem_cons.mp h with z | z
    · rw [z, if_pos rfl]
    · rw [if_neg fun y => hn.1 (by rw [y]; exact List.mem_map_of_mem z)]
      exact coef_mem hn.2 z
/-- the poly of a book -/
theorem s_poly_of {p mx my : Int} {b : Bk} {W R : D → Prop} (hb : GoodB p mx my b) (hl : b.length ≤ 16777216) (hR : ∀ ts, GoodP p mx my ts → (∀ k, coef (bookOf ts) k = coef b k) → R (encP ts)) : pf_poly_of [encB b] W R := by
  refine ⟨rfl, ?_⟩
  simp [t_poly_of, encB]
  refine ⟨b.map (·.1), by unfold keysB; rw [List.map_map]; rfl, fun qs hp hs => ?_⟩
  have hlen : qs.length = b.length := by rw [hp.length_eq, List.length_map]
  have hmem : ∀ q ∈ qs, q ∈ b.map (·.1) := fun q hq => hp.mem_iff.mp hq
  refine lc_map (fun d => match d with | .tup [.int i, .int j] => encT (i, j, coef b (i, j)) | _ => .non) (qs.map pD) [] (by rw [List.length_map, hlen]; exact size_line (by simpa using hl)) (fun d hd k1 hk => ?_) ?_
  · obtain ⟨q, hq, rfl⟩ := List.mem_map.mp hd
    have e0 : atI [D.int q.1, D.int q.2] 0 = some (.int q.1) := rfl
    have e1 : atI [D.int q.1, D.int q.2] 1 = some (.int q.2) := rfl
    have lk := look_B b q
    rw [if_pos (hmem q hq)] at lk
    have f := fits_pD q
    unfold pD at lk f hk ⊢
    simp [e0, e1, lk]
    exact ⟨f, hk⟩
  · have key : (qs.map pD).map (fun d => match d with | .tup [.int i, .int j] => encT (i, j, coef b (i, j)) | _ => .non) = (qs.map fun q => ((q.1, q.2, coef b q) : T3)).map encT := by
      rw [List.map_map, List.map_map]
      rfl
    rw [key]
    suffices h : R (encP (qs.map fun q => ((q.1, q.2, coef b q) : T3))) by simpa [encP] using h
    refine hR _ ⟨fun t ht => ?_, ?_⟩ fun k => ?_
    · obtain ⟨q, hq, rfl⟩ := List.mem_map.mp ht
      exact hb.2 _ (coef_in (hmem q hq))
    · rw [List.pairwise_map]
      refine (nodup_pairwise hp hb.1 hs).imp fun {x y} h => ?_
      rw [SrtO.lexB_iff] at h
      exact h
    · have e : bookOf (qs.map fun q => ((q.1, q.2, coef b q) : T3)) = qs.map fun q => (q, coef b q) := by
        unfold bookOf
        rw [List.map_map]
        rfl
      rw [e, coef_map]
      by_cases h : k ∈ qs
      · rw [if_pos h]
      · rw [if_neg h, coef_out fun z => h (hp.mem_iff.mpr z)]
/-- a poly is known by its coefficients -/
theorem poly_ext {p mx my p' mx' my' : Int} {ts us : List T3} (h : GoodP p mx my ts) (k : GoodP p' mx' my' us) (e : ∀ q, coef (bookOf ts) q = coef (bookOf us) q) : ts = us := by
  have sub : ∀ {p mx my p' mx' my' : Int} {ts us : List T3}, GoodP p mx my ts → GoodP p' mx' my' us → (∀ q, coef (bookOf ts) q = coef (bookOf us) q) → ∀ t ∈ ts, t ∈ us := by
    intro p mx my p' mx' my' ts us h k e t ht
    have m : ((t.1, t.2.1), t.2.2) ∈ bookOf ts := List.mem_map_of_mem (f := fun t : T3 => ((t.1, t.2.1), t.2.2)) ht
    have c := coef_mem (nodup_bookOf h.2) m
    have c1 := (h.1 t ht).2.2.2.2.1
    rw [e] at c
    have i : (t.1, t.2.1) ∈ (bookOf us).map (·.1) := by
      refine Classical.byContradiction fun z => ?_
      rw [coef_out z] at c
      simp at c
      omega
    have m2 := coef_in i
    rw [c] at m2
    obtain ⟨u, hu, eu⟩ := List.mem_map.mp m2
    injection eu with e1 e2
    injection e1 with e3 e4
    have : u = t := Prod.ext e3 (Prod.ext e4 e2)
    rwa [← this]
  have nd : ∀ {p mx my : Int} {ts : List T3}, GoodP p mx my ts → ts.Nodup := fun {p mx my ts} h => by
    rw [List.nodup_iff_pairwise_ne]
    refine h.2.imp fun {a b} l e => ?_
    subst e
    unfold ltT at l
    omega
  have pm : ts.Perm us := (List.perm_ext_iff_of_nodup (nd h) (nd k)).mpr fun t => ⟨sub h k e t, sub k h (fun q => (e q).symm) t⟩
  refine List.Perm.eq_of_pairwise (le := ltT) (fun a b _ _ h1 h2 => ?_) h.2 k.2 pm
  unfold ltT at h1 h2
  omega
/-! ### high, part, lead -/
def spotI (sp : Int) (k : P2) : Int := if sp = 0 then k.1 else k.2
def topL : List Int → Int
  | [] => -1
  | n :: ns => ns.foldl max n
theorem fmax_ge : ∀ (ns : List Int) (n : Int), n ≤ ns.foldl max n ∧ (∀ y ∈ ns, y ≤ ns.foldl max n) ∧ (ns.foldl max n = n ∨ ns.foldl max n ∈ ns)
  | [], n => ⟨Int.le_refl _, fun _ h => absurd h List.not_mem_nil, .inl rfl⟩
  | a :: ns, n => by
    obtain ⟨h1, h2, h3⟩ := fmax_ge ns (max n a)
    rw [List.foldl_cons]
    refine ⟨by omega, fun y hy => ?_, ?_⟩
    · rcases List.mem_cons.mp hy with rfl | hy
      · omega
      · exact h2 y hy
    · rcases h3 with h3 | h3
      · rw [h3]
        by_cases z : n ≤ a
        · exact .inr (by rw [Int.max_eq_right z]; exact List.mem_cons_self ..)
        · exact .inl (by omega)
      · exact .inr (List.mem_cons_of_mem _ h3)
theorem topL_neg {ns : List Int} (h : ∀ n ∈ ns, 0 ≤ n) : ns.foldl max (-1) = topL ns := by
  cases ns with
  | nil => rfl
  | cons n ns =>
    have := h n (List.mem_cons_self ..)
    rw [List.foldl_cons, topL, Int.max_eq_right (by omega)]
theorem at_spot {sp : Int} (hs : sp = 0 ∨ sp = 1) (k : P2) : atI [D.int k.1, D.int k.2] sp = some (.int (spotI sp k)) := by
  rcases hs with rfl | rfl <;> rfl
theorem s_highest {b : Bk} {sp : Int} {W R : D → Prop} (hs : sp = 0 ∨ sp = 1) (hl : b.length ≤ 16777216) (hR : R (.int (topL (b.map fun e => spotI sp e.1)))) : pf_highest [encB b, .int sp] W R := by
  refine ⟨rfl, ?_⟩
  simp [t_highest, encB]
  refine lc_map (fun d => match d with | .tup [.int i, .int j] => .int (spotI sp (i, j)) | _ => .non) (keysB b) [] (by rw [keysB_length]; exact size_line (by simpa using hl)) (fun d hd k1 hk => ?_) ?_
  · obtain ⟨e, _, rfl⟩ := List.mem_map.mp hd
    have z := at_spot hs e.1
    unfold pD at hk ⊢
    simp [z]
    exact hk
  · have key : (keysB b).map (fun d => match d with | .tup [.int i, .int j] => D.int (spotI sp (i, j)) | _ => .non) = (b.map fun e => spotI sp e.1).map .int := by
      unfold keysB
      rw [List.map_map, List.map_map]
      rfl
    rw [key]
    simp
    cases b with
    | nil => exact .inl ⟨rfl, hR⟩
    | cons e b => exact .inr (.inl ⟨spotI sp e.1, b.map fun e : P2 × Int => spotI sp e.1, by simp, hR⟩)
def partB (b : Bk) (pw : Int) : Bk := (b.filter fun e => e.1.2 = pw).map fun e => ((e.1.1, 0), e.2)
def ptD (b : Bk) (pw : Int) : D → Option (P2 × Int)
  | .tup [.int i, .int j] => if j = pw then some ((i, 0), coef b (i, j)) else none
  | _ => none
theorem ptD_pD (b : Bk) (pw : Int) (q : P2) : ptD b pw (pD q) = if q.2 = pw then some ((q.1, 0), coef b q) else none := rfl
theorem s_part_at {b : Bk} {pw : Int} {W R : D → Prop} (hn : (b.map (·.1)).Nodup) (hl : b.length ≤ 16777216) (hR : R (encB (partB b pw))) : pf_part_at [encB b, .int pw] W R := by
  refine ⟨rfl, ?_⟩
  simp [t_part_at, encB]
  have key : (keysB b).filterMap (ptD b pw) = partB b pw := by
    unfold keysB partB
    rw [List.filterMap_map]
    have sub : ∀ c : Bk, (∀ e ∈ c, e ∈ b) → c.filterMap (ptD b pw ∘ fun e => pD e.1) = (c.filter fun e => e.1.2 = pw).map fun e => ((e.1.1, (0 : Int)), e.2) := by
      intro c
      induction c with
      | nil => intro _; rfl
      | cons e c ih =>
        intro hc
        have ce := coef_mem hn (hc e (List.mem_cons_self ..))
        have ih := ih fun x hx => hc x (List.mem_cons_of_mem _ hx)
        by_cases h : e.1.2 = pw
        · have e2 : (ptD b pw ∘ fun e => pD e.1) e = some ((e.1.1, 0), e.2) := by
            show ptD b pw (pD e.1) = _
            rw [ptD_pD, if_pos h, ce]
          rw [List.filter_cons_of_pos (by simpa using h), List.map_cons, List.filterMap_cons_some e2, ih]
        · have e2 : (ptD b pw ∘ fun e => pD e.1) e = none := by
            show ptD b pw (pD e.1) = _
            rw [ptD_pD, if_neg h]
          rw [List.filter_cons_of_neg (by simpa using h), List.filterMap_cons_none e2, ih]
    exact sub b fun _ h => h
  have nd : ((partB b pw).map (·.1)).Nodup := by
    unfold partB
    rw [List.map_map, List.nodup_iff_pairwise_ne, List.pairwise_map]
    rw [List.nodup_iff_pairwise_ne, List.pairwise_map] at hn
    refine List.Pairwise.imp_of_mem (fun {x y} hx hy ne z => ?_) (hn.sublist (List.filter_sublist (p := fun e : P2 × Int => decide (e.1.2 = pw))))
    have z : ((x.1.1, (0 : Int)) : P2) = (y.1.1, 0) := z
    injection z with z1 _
    have a := (List.mem_filter.mp hx).2
    have c := (List.mem_filter.mp hy).2
    simp only [decide_eq_true_eq] at a c
    exact ne (Prod.ext z1 (a.trans c.symm))
  refine dc_book _ (keysB b) (by rw [keysB_length]; exact size_line hl) (by rw [key]; exact nd) (fun d hd k0 k1 hk => ?_) (by rw [key]; exact hR)
  obtain ⟨e, he, rfl⟩ := List.mem_map.mp hd
  have e0 : atI [D.int e.1.1, D.int e.1.2] 0 = some (.int e.1.1) := rfl
  have e1 : atI [D.int e.1.1, D.int e.1.2] 1 = some (.int e.1.2) := rfl
  have lk := look_B b e.1
  rw [if_pos (List.mem_map_of_mem he)] at lk
  rw [ptD_pD] at hk
  have f := fits_pD e.1
  unfold pD at lk f hk ⊢
  simp [e0, e1, lk]
  by_cases h : e.1.2 = pw
  · rw [if_pos h] at hk
    have h2 : ((e.1.1, pw) : P2) = e.1 := by rw [← h]
    simp [h]
    simp [h] at f lk
    exact ⟨f, hk⟩
  · rw [if_neg h] at hk
    simp [h]
    exact hk
end KC
set_option Elab.async false
set_option linter.all false
set_option maxRecDepth 100000
set_option maxHeartbeats 1000000
namespace KC
open PySem PySem.Spec L2 DL
theorem s_need_poly {p : Int} {d : D} {W R : D → Prop} (hj : judge d) (hR : if isPolyD p d = true then R .non else W (.exc "BadPoly" [])) : pf_need_poly [.int p, d] W R := by
  refine ⟨rfl, ?_⟩
  simp [t_need_poly]
  refine s_polys_right hj ?_
  by_cases h : isPolyD p d = true
  · rw [if_pos h] at hR
    simpa [h] using hR
  · rw [if_neg h] at hR
    simpa [h] using hR
/-- the leading pair of powers: the greatest by sum, then by x -/
def IsLead (ks : List P2) (k : P2) : Prop := k ∈ ks ∧ ∀ q ∈ ks, q.1 + q.2 < k.1 + k.2 ∨ (q.1 + q.2 = k.1 + k.2 ∧ q.1 ≤ k.1)
theorem lt3 {a b c d e f : Int} : ([a, b, c] : List Int) < [d, e, f] ↔ a < d ∨ (a = d ∧ (b < e ∨ (b = e ∧ c < f))) := by
  simp [List.cons_lt_cons_iff]
theorem s_lead_of {b : Bk} {W R : D → Prop} (hne : b ≠ []) (hl : b.length ≤ 16777216) (hR : ∀ k, IsLead (b.map (·.1)) k → R (pD k)) : pf_lead_of [encB b] W R := by
  refine ⟨rfl, ?_⟩
  simp [t_lead_of, encB]
  refine lc_map (fun d => match d with | .tup [.int i, .int j] => tI [i + j, i, j] | _ => .non) (keysB b) [] (by rw [keysB_length]; exact size_line (by simpa using hl)) (fun d hd k1 hk => ?_) ?_
  · obtain ⟨e, _, rfl⟩ := List.mem_map.mp hd
    have e0 : atI [D.int e.1.1, D.int e.1.2] 0 = some (.int e.1.1) := rfl
    have e1 : atI [D.int e.1.1, D.int e.1.2] 1 = some (.int e.1.2) := rfl
    unfold pD at hk ⊢
    simp [e0, e1]
    exact hk
  · have key : (keysB b).map (fun d => match d with | .tup [.int i, .int j] => tI [i + j, i, j] | _ => .non) = (b.map fun e => [e.1.1 + e.1.2, e.1.1, e.1.2]).map tI := by
      unfold keysB
      rw [List.map_map, List.map_map]
      rfl
    rw [key]
    simp
    cases b with
    | nil => exact absurd rfl hne
    | cons e b =>
      refine .inr ⟨[e.1.1 + e.1.2, e.1.1, e.1.2], b.map fun e : P2 × Int => [e.1.1 + e.1.2, e.1.1, e.1.2], by simp, ?_⟩
      obtain ⟨h1, h2⟩ := maxL_spec (b.map fun e : P2 × Int => [e.1.1 + e.1.2, e.1.1, e.1.2]) [e.1.1 + e.1.2, e.1.1, e.1.2]
      have m : ∃ f ∈ e :: b, maxL [e.1.1 + e.1.2, e.1.1, e.1.2] (b.map fun e : P2 × Int => [e.1.1 + e.1.2, e.1.1, e.1.2]) = [f.1.1 + f.1.2, f.1.1, f.1.2] := by
        rcases List.mem_cons.mp h1 with z | z
        · exact ⟨e, List.mem_cons_self .., z⟩
        · obtain ⟨f, hf, ef⟩ := List.mem_map.mp z
          exact ⟨f, List.mem_cons_of_mem _ hf, ef.symm⟩
      obtain ⟨f, hf, ef⟩ := m
      rw [ef] at h2 ⊢
      have z := hR f.1 ⟨List.mem_map_of_mem hf, fun q hq => ?_⟩
      · exact z
      · obtain ⟨g, hg, rfl⟩ := List.mem_map.mp hq
        have n := h2 [g.1.1 + g.1.2, g.1.1, g.1.2] (by
          rcases List.mem_cons.mp hg with rfl | hg
          · exact List.mem_cons_self ..
          · exact List.mem_cons_of_mem _ (List.mem_map_of_mem (f := fun e : P2 × Int => [e.1.1 + e.1.2, e.1.1, e.1.2]) hg))
        rw [lt3] at n
        omega
/-- the two checks ahead -/
theorem needs2 {rest : TSD} {D0 : EndsD} {env : EnvD} {c : Nat} {q d : D} (e0 : env[0]? = some (.val q)) (e1 : env[1]? = some (.val d)) (hq : tyd q = true) (hj : judge d)
    (h : if isPrm q = true then (match q with | .int p => if isPolyD p d = true then rest D0 env c else D0.ex (.exc "BadPoly" []) env c | _ => True) else D0.ex (.exc "BadPrime" []) env c) :
    (tSeqD (tDropD (tCallP pf_need_prime (tConsD (tVarD 0) tNilD))) (tSeqD (tDropD (tCallP pf_need_poly (tConsD (tVarD 0) (tConsD (tVarD 1) tNilD)))) rest)) D0 env c := by
  simp [e0, e1]
  refine s_need_prime hq ?_
  by_cases hp : isPrm q = true
  · rw [if_pos hp] at h ⊢
    cases q with
    | int p =>
      refine s_need_poly hj ?_
      by_cases h2 : isPolyD p d = true
      · simp only [h2, if_true] at h ⊢
        exact h
      · simp only [h2, if_false] at h ⊢
        exact h
    | _ => cases hp
  · rw [if_neg hp] at h ⊢
    exact h
theorem GoodP.len {p mx my : Int} {ts : List T3} (h : GoodP p mx my ts) (hx : mx ≤ 999) (hy : my ≤ 999) : ts.length ≤ 16777216 := Nat.le_trans (h.short hx hy) (by decide)
theorem bookOf_length (ts : List T3) : (bookOf ts).length = ts.length := List.length_map _
def letterOf : D → Option Int
  | .str x => if x = ("x" : Str) then some 0 else if x = ("y" : Str) then some 1 else none
  | _ => none
theorem s_high {q d l : D} {W R : D → Prop} (hq : tyd q = true) (hj : judge d) (hl : tyd l = true) (hs : ∀ x, l = .str x → PyData.strOk x = true)
    (hR : if isPrm q = true then (match q with
      | .int p => if isPolyD p d = true then (match letterOf l with
        | some sp => ∀ ts, d = encP ts → GoodP p 999 999 ts → R (.int (topL ((bookOf ts).map fun e => spotI sp e.1)))
        | none => W (.exc "BadLetter" [])) else W (.exc "BadPoly" [])
      | _ => True) else W (.exc "BadPrime" [])) : pf_high [q, d, l] W R := by
  refine ⟨rfl, ?_⟩
  unfold t_high
  refine needs2 rfl rfl hq hj ?_
  by_cases hp : isPrm q = true
  · rw [if_pos hp] at hR ⊢
    cases q with
    | int p =>
      dsimp only at hR ⊢
      by_cases h2 : isPolyD p d = true
      · rw [if_pos h2] at hR ⊢
        obtain ⟨ts, rfl, hg⟩ := poly_of_is h2
        cases l with
        | str x =>
          have sx := hs x rfl
          have okx : PyData.strOk ("x" : Str) = true := (fitS_lit _).2
          have oky : PyData.strOk ("y" : Str) = true := (fitS_lit _).2
          by_cases hx : x = ("x" : Str)
          · subst hx
            have h := hR ts rfl hg
            simp [isTy, tyN_some, okx, oky]
            refine s_book_of hg.2 (hg.len (by omega) (by omega)) ?_
            exact s_highest (.inl rfl) (by rw [bookOf_length]; exact hg.len (by omega) (by omega)) h
          · by_cases hy : x = ("y" : Str)
            · subst hy
              have h := hR ts rfl hg
              simp [isTy, tyN_some, okx, oky, hx]
              refine s_book_of hg.2 (hg.len (by omega) (by omega)) ?_
              exact s_highest (.inr rfl) (by rw [bookOf_length]; exact hg.len (by omega) (by omega)) h
            · simp only [letterOf, hx, hy, if_false] at hR
              simp [isTy, tyN_some, sx, okx, oky, hx, hy, Ne.symm hx, Ne.symm hy]
              exact hR
        | _ => first | (simp [tyd, tyN] at hl; done) | simpa [isTy, tyN_some, letterOf] using hR
      · rw [if_neg h2] at hR ⊢
        exact hR
    | _ => cases hp
  · rw [if_neg hp] at hR ⊢
    exact hR
/-- part of a poly -/
def partP (ts : List T3) (pw : Int) : List T3 := (ts.filter fun t => t.2.1 = pw).map fun t => (t.1, 0, t.2.2)
theorem GoodP.part {p mx my : Int} {ts : List T3} (h : GoodP p mx my ts) (pw : Int) : GoodP p mx 0 (partP ts pw) := by
  refine ⟨fun t ht => ?_, ?_⟩
  · obtain ⟨u, hu, rfl⟩ := List.mem_map.mp ht
    have z := h.1 u (List.mem_filter.mp hu).1
    unfold okT at z ⊢
    refine ⟨z.1, z.2.1, ?_, ?_, z.2.2.2.2.1, z.2.2.2.2.2⟩ <;> exact Int.le_refl 0
  · unfold partP
    rw [List.pairwise_map]
    refine List.Pairwise.imp_of_mem (fun {a b} ha hb l => ?_) (h.2.sublist List.filter_sublist)
    have x := (List.mem_filter.mp ha).2
    have y := (List.mem_filter.mp hb).2
    simp only [decide_eq_true_eq] at x y
    unfold ltT at l ⊢
    simp only
    omega
theorem partB_book (ts : List T3) (pw : Int) : partB (bookOf ts) pw = bookOf (partP ts pw) := by
  unfold partB bookOf partP
  induction ts with
  | nil => rfl
  | cons t ts ih =>
    rw [List.map_cons]
    by_cases h : t.2.1 = pw
    · rw [List.filter_cons_of_pos (by simpa using h), List.filter_cons_of_pos (by simpa using h), List.map_cons, List.map_cons, List.map_cons, ih]
    · rw [List.filter_cons_of_neg (by simpa using h), List.filter_cons_of_neg (by simpa using h), ih]
theorem partP_length (ts : List T3) (pw : Int) : (partP ts pw).length ≤ ts.length := by
  unfold partP
  rw [List.length_map]
  exact List.length_filter_le _ _
theorem s_part {q d l : D} {W R : D → Prop} (hq : tyd q = true) (hj : judge d) (hl : tyd l = true)
    (hR : if isPrm q = true then (match q with
      | .int p => if isPolyD p d = true then (if between l 0 999 = true then ∀ ts pw, d = encP ts → GoodP p 999 999 ts → l = .int pw → R (encP (partP ts pw)) else W (.exc "BadPower" [])) else W (.exc "BadPoly" [])
      | _ => True) else W (.exc "BadPrime" [])) : pf_part [q, d, l] W R := by
  refine ⟨rfl, ?_⟩
  unfold t_part
  refine needs2 rfl rfl hq hj ?_
  by_cases hp : isPrm q = true
  · rw [if_pos hp] at hR ⊢
    cases q with
    | int p =>
      dsimp only at hR ⊢
      by_cases h2 : isPolyD p d = true
      · rw [if_pos h2] at hR ⊢
        obtain ⟨ts, rfl, hg⟩ := poly_of_is h2
        have hlen := hg.len (by omega) (by omega)
        simp
        refine s_is_between hl ?_
        by_cases hb : between l 0 999 = true
        · rw [if_pos hb] at hR
          obtain ⟨pw, rfl, p1, p2⟩ := between_of hb
          have h := hR ts pw rfl hg rfl
          simp [hb]
          refine s_book_of hg.2 hlen ?_
          refine s_part_at (nodup_bookOf hg.2) (by rw [bookOf_length]; exact hlen) ?_
          rw [partB_book]
          have gp := hg.part pw
          refine s_poly_of gp.book (by rw [bookOf_length]; exact Nat.le_trans (partP_length ts pw) hlen) fun us gu eu => ?_
          rw [poly_ext gu gp eu]
          exact h
        · rw [if_neg hb] at hR
          simp [hb]
          exact hR
      · rw [if_neg h2] at hR ⊢
        exact hR
    | _ => cases hp
  · rw [if_neg hp] at hR ⊢
    exact hR
theorem s_lead {q d : D} {W R : D → Prop} (hq : tyd q = true) (hj : judge d) (hd : ∀ ts, d = encP ts → True)
    (hR : if isPrm q = true then (match q with
      | .int p => if isPolyD p d = true then ∀ ts, d = encP ts → GoodP p 999 999 ts → (if ts = [] then W (.exc "BadPoly" []) else ∀ k, IsLead ((bookOf ts).map (·.1)) k → R (encT (k.1, k.2, coef (bookOf ts) k))) else W (.exc "BadPoly" [])
      | _ => True) else W (.exc "BadPrime" [])) : pf_lead [q, d] W R := by
  refine ⟨rfl, ?_⟩
  unfold t_lead
  refine needs2 rfl rfl hq hj ?_
  by_cases hp : isPrm q = true
  · rw [if_pos hp] at hR ⊢
    cases q with
    | int p =>
      dsimp only at hR ⊢
      by_cases h2 : isPolyD p d = true
      · rw [if_pos h2] at hR ⊢
        obtain ⟨ts, rfl, hg⟩ := poly_of_is h2
        have hlen := hg.len (by omega) (by omega)
        have h := hR ts rfl hg
        have sh : shapedD (.tup (ts.map encT)) = true := shaped_encP ts
        cases ts with
        | nil =>
          rw [if_pos rfl] at h
          simp [encP]
          exact h
        | cons t ts =>
          rw [if_neg (by simp)] at h
          have ne : eqvL (encT t :: ts.map encT) [] = false := rfl
          simp [encP] at sh ⊢
          simp [sh]
          refine ⟨fun a b c _ => deep_enc 62 (a, b, c), ?_⟩
          refine s_book_of (ts := t :: ts) hg.2 hlen ?_
          refine s_lead_of (by simp [bookOf]) (by rw [bookOf_length]; exact hlen) fun k hk => ?_
          have h := h k hk
          have e0 : atI [D.int k.1, D.int k.2] 0 = some (.int k.1) := rfl
          have e1 : atI [D.int k.1, D.int k.2] 1 = some (.int k.2) := rfl
          have lk := look_B (bookOf (t :: ts)) k
          rw [if_pos hk.1] at lk
          have f := fits_pD k
          unfold pD at lk f ⊢
          simp [e0, e1]
          refine s_book_of (ts := t :: ts) hg.2 hlen ?_
          simp [encB, lk]
          exact ⟨f, h⟩
      · rw [if_neg h2] at hR ⊢
        exact hR
    | _ => cases hp
  · rw [if_neg hp] at hR ⊢
    exact hR
theorem s__law_high {p mx my : Int} {ts : List T3} {sp : Int} {W R : D → Prop} (hs : sp = 0 ∨ sp = 1) (hg : GoodP p mx my ts) (hl : ts.length ≤ 1000000) (hR : R (.int (topL ((bookOf ts).map fun e => spotI sp e.1)))) : pf__law_high [encP ts, .int sp] W R := by
  refine ⟨rfl, ?_⟩
  simp [t__law_high, encP]
  refine lc_map (fun d => match d with | .tup [.int i, .int j, _] => .int (spotI sp (i, j)) | _ => .non) (ts.map encT) [] (by rw [List.length_map]; exact size_line (by simp; omega)) (fun d hd k1 hk => ?_) ?_
  · obtain ⟨t, _, rfl⟩ := List.mem_map.mp hd
    have z : atI [D.int t.1, D.int t.2.1, D.int t.2.2] sp = some (.int (spotI sp (t.1, t.2.1))) := by rcases hs with rfl | rfl <;> rfl
    unfold encT at hk ⊢
    simp [z]
    exact hk
  · have key : (ts.map encT).map (fun d => match d with | .tup [.int i, .int j, _] => D.int (spotI sp (i, j)) | _ => .non) = ((bookOf ts).map fun e => spotI sp e.1).map .int := by
      unfold bookOf
      rw [List.map_map, List.map_map, List.map_map]
      rfl
    rw [key]
    have nn : ∀ n ∈ (bookOf ts).map fun e => spotI sp e.1, 0 ≤ n := fun n hn => by
      obtain ⟨e, he, rfl⟩ := List.mem_map.mp hn
      have z := hg.book.2 e he
      unfold okT at z
      rcases hs with rfl | rfl
      · exact z.1
      · exact z.2.2.1
    rw [← topL_neg nn] at hR
    simp
    refine ⟨by unfold bookOf; simp [sizeLine_eq]; omega, .inl ⟨-1, (bookOf ts).map fun e => spotI sp e.1, by simp, ?_⟩⟩
    exact hR
theorem s__law_part {ts : List T3} {pw : Int} {W R : D → Prop} (hl : ts.length ≤ 1000000) (hR : R (encP (partP ts pw))) : pf__law_part [encP ts, .int pw] W R := by
  refine ⟨rfl, ?_⟩
  simp [t__law_part, encP]
  refine lc_pure (fun d => match d with | .tup [_, .int j, _] => decide (j = pw) | _ => false) (fun d => match d with | .tup [.int i, _, .int c] => encT (i, 0, c) | _ => .non) (ts.map encT) [] (by rw [List.length_map]; exact size_line (by simp; omega)) (fun d hd k0 k1 hk => ?_) ?_
  · obtain ⟨t, _, rfl⟩ := List.mem_map.mp hd
    have e0 : atI [D.int t.1, D.int t.2.1, D.int t.2.2] 0 = some (.int t.1) := rfl
    have e1 : atI [D.int t.1, D.int t.2.1, D.int t.2.2] 1 = some (.int t.2.1) := rfl
    have e2 : atI [D.int t.1, D.int t.2.1, D.int t.2.2] 2 = some (.int t.2.2) := rfl
    unfold encT at hk ⊢
    simp [e0, e1, e2]
    by_cases h : t.2.1 = pw
    · simpa [h, encT] using hk
    · simpa [h, encT] using hk
  · have key : ((ts.map encT).filter (fun d => match d with | .tup [_, .int j, _] => decide (j = pw) | _ => false)).map (fun d => match d with | .tup [.int i, _, .int c] => encT (i, 0, c) | _ => .non) = (partP ts pw).map encT := by
      unfold partP
      rw [List.filter_map, List.map_map, List.map_map]
      rfl
    rw [key]
    simp
    exact hR
end KC
set_option Elab.async false
set_option linter.all false
set_option maxRecDepth 100000
set_option maxHeartbeats 1000000
namespace KC
open PySem PySem.Spec L2 DL
theorem encT_inj {a b : T3} (h : encT a = encT b) : a = b := by
  unfold encT at h
  injection h with h
  injection h with h1 h
  injection h with h2 h
  injection h with h3 _
  injection h1 with h1
  injection h2 with h2
  injection h3 with h3
  exact Prod.ext h1 (Prod.ext h2 h3)
theorem encL_inj : ∀ {as bs : List T3}, as.map encT = bs.map encT → as = bs
  | [], [], _ => rfl
  | a :: as, b :: bs, h => by
    rw [List.map_cons, List.map_cons] at h
    injection h with h1 h2
    rw [encT_inj h1, encL_inj h2]
theorem encP_inj {as bs : List T3} (h : encP as = encP bs) : as = bs := by
  unfold encP at h
  injection h with h
  exact encL_inj h
theorem prm_of {p : Int} (h : p = 2 ∨ p = 3 ∨ p = 5 ∨ p = 7) : isPrm (.int p) = true := by
  rcases h with rfl | rfl | rfl | rfl <;> rfl
theorem depth_encP (ts : List T3) : (toPy (encP ts)).depth ≤ 2 := by
  have z := deep_encP 0 ts
  unfold deepD at z
  simp only [Bool.and_eq_true, decide_eq_true_eq] at z
  exact z.2
theorem num_encP {ts : List T3} {p mx my : Int} (h : ∀ t ∈ ts, okT p mx my t) (hp : p ≤ 7) (hx : mx ≤ 999999) (hy : my ≤ 999999) : numD (encP ts) = true := by
  unfold encP
  rw [numD]
  induction ts with
  | nil => rfl
  | cons t ts ih =>
    have z := h t (List.mem_cons_self ..)
    unfold okT at z
    rw [List.map_cons, numL, ih fun u hu => h u (List.mem_cons_of_mem _ hu)]
    simp only [encT, numD, numL, Bool.and_true, Bool.and_eq_true, decide_eq_true_eq]
    omega
theorem wid_encP (ts : List T3) : wid (encP ts) = 3 + 68 * ts.length := by
  unfold encP
  rw [wid]
  congr 1
  induction ts with
  | nil => rfl
  | cons t ts ih =>
    rw [List.map_cons, widL, ih, List.length_cons]
    simp only [encT, wid, widL]
    omega
theorem show2 {x y : D} (hx : numD x = true) (hy : numD y = true) (dx : (toPy x).depth ≤ 50) (dy : (toPy y).depth ≤ 50) (wx : wid x ≤ 1000000) (wy : wid y ≤ 1000000) : showD (.lst [x, y]) = true ∧ PyData.strOk (textD (.lst [x, y])) = true := by
  refine show_num ?_ ?_ ?_
  · simp [numD, numL, hx, hy]
  · simp only [toPy, toPyL, PyData.depth, PyData.depthAll]
    omega
  · simp only [wid, widL]
    omega
theorem showI {i : Int} (h : i.natAbs < 10 ^ 18) : showD (.int i) = true ∧ PyData.strOk (textD (.int i)) = true :=
  show_num (by simpa [numD] using h) (by simp [toPy, PyData.depth]) (by simp [wid])
end KC
set_option Elab.async false
set_option linter.all false
set_option maxRecDepth 100000
set_option maxHeartbeats 1000000
namespace KC
open PySem PySem.Spec L2 DL
/-! ### sums of books, modulo a prime -/
/-- a book of numbers from 1 to p - 1, its keys unlike, its powers bounded -/
abbrev Fine (p m : Int) (b : Bk) : Prop := GoodB p m m b
theorem Fine.small {p m : Int} {b : Bk} (h : GoodB p m m b) (hm : m ≤ 8191) : ∀ d ∈ keysB b, smallD d := fun d hd => by
  obtain ⟨e, he, rfl⟩ := List.mem_map.mp hd
  have z := h.2 e he
  unfold okT at z
  simp only at z
  refine ⟨e.1.1.toNat, e.1.2.toNat, ?_, by omega, by omega⟩
  unfold pD
  rw [Int.toNat_of_nonneg z.1, Int.toNat_of_nonneg z.2.2.1]
theorem GoodB.mono {p mx my nx ny : Int} {b : Bk} (h : GoodB p mx my b) (hx : mx ≤ nx) (hy : my ≤ ny) : GoodB p nx ny b :=
  ⟨h.1, fun e he => by have z := h.2 e he; unfold okT at *; omega⟩
theorem GoodB.nil {p mx my : Int} : GoodB p mx my [] := ⟨.nil, fun e he => absurd he List.not_mem_nil⟩
/-- put a number, or nothing -/
def setB (b : Bk) (k : P2) (v : Int) : Bk := if v = 0 then dropB b k else putB b k v
theorem coef_set {b : Bk} (hn : (b.map (·.1)).Nodup) (k : P2) (v : Int) (q : P2) : coef (setB b k v) q = if k = q then v else coef b q := by
  unfold setB
  by_cases h : v = 0
  · rw [if_pos h, coef_drop b k q hn, h]
  · rw [if_neg h, coef_put]
theorem GoodB.set {p mx my : Int} {b : Bk} (h : GoodB p mx my b) {k : P2} {v : Int} (h1 : 0 ≤ k.1) (h2 : k.1 ≤ mx) (h3 : 0 ≤ k.2) (h4 : k.2 ≤ my) (h5 : 0 ≤ v) (h6 : v ≤ p - 1) : GoodB p mx my (setB b k v) := by
  unfold setB
  by_cases z : v = 0
  · rw [if_pos z]
    refine ⟨h.1.sublist ((sub_dropB b k).map _), fun e he => h.2 e ((sub_dropB b k).subset he)⟩
  · rw [if_neg z]
    refine ⟨nodup_putB k v h.1, fun e he => ?_⟩
    rcases mem_putB he with rfl | he
    · unfold okT
      simp only
      omega
    · exact h.2 e he
/-- the walk of added over the second book -/
def addB (p : Int) (n : Int) : Bk → Bk → Bk
  | a, [] => a
  | a, e :: b => addB p n (setB a e.1 ((coef a e.1 + n * e.2) % p)) b
theorem mod_lo {p : Int} (x : Int) (hp : 2 ≤ p) : 0 ≤ x % p ∧ x % p ≤ p - 1 := by
  have h1 := Int.emod_nonneg x (show p ≠ 0 by omega)
  have h2 := Int.emod_lt_of_pos x (show 0 < p by omega)
  omega
theorem addB_good {p mx my n : Int} (hp : 2 ≤ p) : ∀ (b : Bk) {a : Bk}, GoodB p mx my a → GoodB p mx my b → GoodB p mx my (addB p n a b)
  | [], a, ha, _ => ha
  | e :: b, a, ha, hb => by
    have z := hb.2 e (List.mem_cons_self ..)
    unfold okT at z
    simp only at z
    have m := mod_lo (coef a e.1 + n * e.2) hp
    exact addB_good hp b (ha.set z.1 z.2.1 z.2.2.1 z.2.2.2.1 m.1 m.2) ⟨(List.nodup_cons.mp hb.1).2, fun f hf => hb.2 f (List.mem_cons_of_mem _ hf)⟩
theorem coef_range {p mx my : Int} {b : Bk} (h : GoodB p mx my b) (hp : 2 ≤ p) (k : P2) : 0 ≤ coef b k ∧ coef b k ≤ p - 1 := by
  by_cases hk : k ∈ b.map (·.1)
  · have z := h.2 _ (coef_in hk)
    unfold okT at z
    simp only at z
    omega
  · rw [coef_out hk]
    omega
theorem coef_mod {p mx my : Int} {b : Bk} (h : GoodB p mx my b) (hp : 2 ≤ p) (k : P2) : coef b k % p = coef b k := by
  have z := coef_range h hp k
  exact Int.emod_eq_of_lt z.1 (by omega)
theorem addB_coef {p mx my n : Int} (hp : 2 ≤ p) : ∀ (b : Bk) {a : Bk}, GoodB p mx my a → GoodB p mx my b → ∀ q, coef (addB p n a b) q = (coef a q + n * coef b q) % p
  | [], a, ha, _, q => by
    rw [addB, coef, Int.mul_zero, Int.add_zero, coef_mod ha hp]
  | e :: b, a, ha, hb, q => by
    have z := hb.2 e (List.mem_cons_self ..)
    unfold okT at z
    simp only at z
    have m := mod_lo (coef a e.1 + n * e.2) hp
    have hn := List.nodup_cons.mp hb.1
    rw [addB, addB_coef hp b (ha.set z.1 z.2.1 z.2.2.1 z.2.2.2.1 m.1 m.2) ⟨hn.2, fun f hf => hb.2 f (List.mem_cons_of_mem _ hf)⟩ q, coef_set ha.1, coef]
    by_cases h : e.1 = q
    · rw [if_pos h, if_pos h, coef_out (b := b) (by rw [← h]; exact hn.1), Int.mul_zero, Int.add_zero, Int.emod_emod, h]
    · rw [if_neg h, if_neg h]
theorem len_set (b : Bk) (k : P2) (v : Int) : (setB b k v).length ≤ b.length + 1 := by
  unfold setB
  split
  · exact Nat.le_succ_of_le (sub_dropB b k).length_le
  · exact len_putB b k v
theorem len_addB (p n : Int) : ∀ (b a : Bk), (addB p n a b).length ≤ a.length + b.length
  | [], a => Nat.le_refl _
  | e :: b, a => by
    rw [addB, List.length_cons]
    have := len_addB p n b (setB a e.1 ((coef a e.1 + n * e.2) % p))
    have := len_set a e.1 ((coef a e.1 + n * e.2) % p)
    omega
theorem mul_ok {i j : Int} (hi : i.natAbs < 1048576) (hj : j.natAbs < 1048576) : IntMulOk i j := CMulX.ok (mulx_ok (a := 20) (b := 20) hi hj (by omega))
/-- added -/
theorem s_added {p mx my n : Int} {a b : Bk} {W R : D → Prop} (hp : 2 ≤ p) (hp7 : p ≤ 7) (hn : -1000 ≤ n ∧ n ≤ 1000) (ha : GoodB p mx my a) (hb : GoodB p mx my b) (hk : ∀ d ∈ keysB a, smallD d) (hl : a.length + b.length ≤ 16000000) (hR : R (encB (addB p n a b))) : pf_added [.int p, encB a, encB b, .int n] W R := by
  refine ⟨rfl, ?_⟩
  unfold t_added
  refine st_seq fun N0 hN0 => ?_
  simp [encB]
  refine ⟨hk, hN0 _ _ ?_⟩
  refine st_seq fun N1 hN1 => ?_
  simp [-loopD]
  refine loop_inv (fun rest env c => c = 0 ∧ ∃ (f r : Bk) (s5 s6 : Slot), env = [.val (.int p), .val (encB a), .val (encB b), .val (.int n), .own (encB f), s5, s6] ∧ GoodB p mx my f ∧ GoodB p mx my r ∧ (∀ e ∈ r, e ∈ b) ∧ f.length + r.length ≤ 16000000 ∧ rest = keysB r ∧ addB p n f r = addB p n a b) ?_ ?_ _ _ _ ⟨rfl, a, b, _, _, rfl, ha, hb, fun _ h => h, hl, rfl, rfl⟩
  · rintro d ds N hN env c ⟨rfl, f, r, s5, s6, rfl, hf, hr, hrb, hlen, er, eq⟩
    cases r with
    | nil => cases er
    | cons e r =>
      rw [keysB_cons] at er
      injection er with er1 er2
      subst er1 er2
      have z := hr.2 e (List.mem_cons_self ..)
      unfold okT at z
      simp only at z
      have m := mod_lo (coef f e.1 + n * e.2) hp
      have fs := hf.set z.1 z.2.1 z.2.2.1 z.2.2.2.1 m.1 m.2
      have hrn : GoodB p mx my r := ⟨(List.nodup_cons.mp hr.1).2, fun g hg => hr.2 g (List.mem_cons_of_mem _ hg)⟩
      have eb : coef b e.1 = e.2 := coef_mem hb.1 (hrb e (List.mem_cons_self ..))
      have lb := look_B b e.1
      rw [if_pos (List.mem_map_of_mem (hrb e (List.mem_cons_self ..))), eb] at lb
      have lf := look_B0 f e.1
      have ff := fits_pD e.1
      simp only [Tg.set, List.set_cons_succ, List.set_cons_zero]
      refine st_seq fun N2 hN2 => ?_
      have nz : ¬ p = 0 := by omega
      simp [encB, lf, lb]
      refine ⟨ff, mul_ok (by omega) (by omega), by omega, hN2 _ _ ?_⟩
      have go : N [.val (.int p), .val (encB a), .val (encB b), .val (.int n), .own (encB (setB f e.1 ((coef f e.1 + n * e.2) % p))), .val (pD e.1), .val (.int ((coef f e.1 + n * e.2) % p))] 0 :=
        hN _ _ ⟨rfl, _, r, _, _, rfl, fs, hrn, fun g hg => hrb g (List.mem_cons_of_mem _ hg), by
          have := len_set f e.1 ((coef f e.1 + n * e.2) % p)
          rw [List.length_cons] at hlen
          omega, rfl, by rw [← eq, addB]⟩
      by_cases hw : (coef f e.1 + n * e.2) % p = 0
      · simp [hw]
        rw [hw, setB, if_pos rfl] at go
        refine ⟨ff, ?_⟩
        have lk := look_B f e.1
        by_cases hi : e.1 ∈ f.map (·.1)
        · rw [if_pos hi] at lk
          rw [lk]
          simp only [encB] at go
          rw [drop_enc e.1 hf.1]
          exact go
        · rw [if_neg hi] at lk
          rw [lk]
          rw [dropB_out hi] at go
          exact go
      · simp [hw]
        rw [setB, if_neg hw] at go
        rw [List.length_cons] at hlen
        refine ⟨ff, by rw [keysB_length, sizeLine_eq]; omega, ?_⟩
        rw [put_enc e.1 _ hf.1]
        exact go
  · rintro env c ⟨rfl, f, r, s5, s6, rfl, hf, hr, hrb, hlen, er, eq⟩
    have : r = [] := by
      cases r with
      | nil => rfl
      | cons _ _ => cases er
    subst this
    refine hN1 _ _ ?_
    simp [encB]
    rw [addB] at eq
    rw [eq]
    exact hR
end KC
set_option Elab.async false
set_option linter.all false
set_option maxRecDepth 100000
set_option maxHeartbeats 1000000
namespace KC
open PySem PySem.Spec L2 DL
/-! ### products of books -/
def plus2 (a b : P2) : P2 := (a.1 + b.1, a.2 + b.2)
def rowC (e : P2 × Int) (b : Bk) (q : P2) : Int := (b.map fun g => if plus2 e.1 g.1 = q then e.2 * g.2 else 0).sum
def mulC (a b : Bk) (q : P2) : Int := (a.map fun e => rowC e b q).sum
def rawRow (e : P2 × Int) : Bk → Bk → Bk
  | f, [] => f
  | f, g :: b => rawRow e (putB f (plus2 e.1 g.1) (coef f (plus2 e.1 g.1) + e.2 * g.2)) b
def rawMul (b : Bk) : Bk → Bk → Bk
  | f, [] => f
  | f, e :: a => rawMul b (rawRow e f b) a
theorem rawRow_coef (e : P2 × Int) : ∀ (b f : Bk) (q : P2), coef (rawRow e f b) q = coef f q + rowC e b q
  | [], f, q => by simp [rawRow, rowC]
  | g :: b, f, q => by
    rw [rawRow, rawRow_coef e b, coef_put]
    have e2 : rowC e (g :: b) q = (if plus2 e.1 g.1 = q then e.2 * g.2 else 0) + rowC e b q := by simp [rowC]
    rw [e2]
    by_cases h : plus2 e.1 g.1 = q
    · rw [if_pos h, if_pos h, h]; omega
    · rw [if_neg h, if_neg h]; omega
theorem rawMul_coef (b : Bk) : ∀ (a f : Bk) (q : P2), coef (rawMul b f a) q = coef f q + mulC a b q
  | [], f, q => by simp [rawMul, mulC]
  | e :: a, f, q => by
    rw [rawMul, rawMul_coef b a, rawRow_coef]
    have e2 : mulC (e :: a) b q = rowC e b q + mulC a b q := by simp [mulC]
    rw [e2]
    omega
/-- keys in a box, unlike -/
def Boxed (mx my : Int) (b : Bk) : Prop := (b.map (·.1)).Nodup ∧ ∀ e ∈ b, 0 ≤ e.1.1 ∧ e.1.1 ≤ mx ∧ 0 ≤ e.1.2 ∧ e.1.2 ≤ my
theorem GoodB.box {p mx my : Int} {b : Bk} (h : GoodB p mx my b) : Boxed mx my b := ⟨h.1, fun e he => by have z := h.2 e he; unfold okT at z; exact ⟨z.1, z.2.1, z.2.2.1, z.2.2.2.1⟩⟩
theorem Boxed.nil {mx my : Int} : Boxed mx my [] := ⟨.nil, fun e he => absurd he List.not_mem_nil⟩
theorem Boxed.put {mx my : Int} {b : Bk} (h : Boxed mx my b) {k : P2} (v : Int) (hk : 0 ≤ k.1 ∧ k.1 ≤ mx ∧ 0 ≤ k.2 ∧ k.2 ≤ my) : Boxed mx my (putB b k v) :=
  ⟨nodup_putB k v h.1, fun e he => by
    rcases mem_putB he with rfl | he
    · exact hk
    · exact h.2 e he⟩
/-- the numbers of a book modulo p, without nothing -/
def md1 (p : Int) (e : P2 × Int) : Option (P2 × Int) := if e.2 % p = 0 then none else some (e.1, e.2 % p)
def modB (p : Int) (f : Bk) : Bk := f.filterMap (md1 p)
theorem modB_keys (p : Int) : ∀ f : Bk, ((modB p f).map (·.1)).Sublist (f.map (·.1))
  | [] => List.Sublist.slnil
  | e :: f => by
    unfold modB
    by_cases h : e.2 % p = 0
    · rw [List.filterMap_cons_none (f := md1 p) (if_pos h), List.map_cons]
      exact (modB_keys p f).cons _
    · rw [List.filterMap_cons_some (f := md1 p) (b := (e.1, e.2 % p)) (if_neg h), List.map_cons, List.map_cons]
      exact (modB_keys p f).cons_cons _
theorem modB_coef (p : Int) : ∀ {f : Bk} (q : P2), (f.map (·.1)).Nodup → coef (modB p f) q = coef f q % p
  | [], q, _ => (Int.zero_emod p).symm
  | e :: f, q, hn => by
    rw [List.map_cons, List.nodup_cons] at hn
    have ih := modB_coef p (f := f) q hn.2
    unfold modB at ih ⊢
    by_cases h : e.2 % p = 0
    · rw [List.filterMap_cons_none (f := md1 p) (if_pos h), ih, coef]
      by_cases h2 : e.1 = q
      · rw [if_pos h2, h, coef_out (by rw [← h2]; exact hn.1), Int.zero_emod]
      · rw [if_neg h2]
    · rw [List.filterMap_cons_some (f := md1 p) (b := (e.1, e.2 % p)) (if_neg h), coef, coef, ih]
      by_cases h2 : e.1 = q
      · rw [if_pos h2, if_pos h2]
      · rw [if_neg h2, if_neg h2]
theorem modB_good {p mx my : Int} (hp : 2 ≤ p) {f : Bk} (h : Boxed mx my f) : GoodB p mx my (modB p f) := by
  refine ⟨h.1.sublist (modB_keys p f), fun e he => ?_⟩
  unfold modB at he
  obtain ⟨g, hg, eg⟩ := List.mem_filterMap.mp he
  unfold md1 at eg
  by_cases z : g.2 % p = 0
  · rw [if_pos z] at eg; cases eg
  · rw [if_neg z] at eg
    cases eg
    have m := mod_lo g.2 hp
    have b := h.2 g hg
    unfold okT
    simp only
    omega
theorem modB_length (p : Int) (f : Bk) : (modB p f).length ≤ f.length := List.length_filterMap_le _ _
theorem rawRow_length (e : P2 × Int) : ∀ (b f : Bk), (rawRow e f b).length ≤ f.length + b.length
  | [], f => Nat.le_refl _
  | g :: b, f => by
    rw [rawRow, List.length_cons]
    have := rawRow_length e b (putB f (plus2 e.1 g.1) (coef f (plus2 e.1 g.1) + e.2 * g.2))
    have := len_putB f (plus2 e.1 g.1) (coef f (plus2 e.1 g.1) + e.2 * g.2)
    omega
theorem rawMul_length (b : Bk) : ∀ (a f : Bk), (rawMul b f a).length ≤ f.length + a.length * b.length
  | [], f => by simp [rawMul]
  | e :: a, f => by
    rw [rawMul, List.length_cons, Nat.add_mul]
    have := rawMul_length b a (rawRow e f b)
    have := rawRow_length e b f
    omega
theorem rawRow_box {mx my : Int} {e : P2 × Int} : ∀ {b f : Bk}, Boxed mx my f → (∀ g ∈ b, 0 ≤ e.1.1 + g.1.1 ∧ e.1.1 + g.1.1 ≤ mx ∧ 0 ≤ e.1.2 + g.1.2 ∧ e.1.2 + g.1.2 ≤ my) → Boxed mx my (rawRow e f b)
  | [], f, hf, _ => hf
  | g :: b, f, hf, h => by
    rw [rawRow]
    exact rawRow_box (hf.put _ (h g (List.mem_cons_self ..))) fun x hx => h x (List.mem_cons_of_mem _ hx)
theorem rawMul_box {mx my : Int} {b : Bk} : ∀ {a f : Bk}, Boxed mx my f → (∀ e ∈ a, ∀ g ∈ b, 0 ≤ e.1.1 + g.1.1 ∧ e.1.1 + g.1.1 ≤ mx ∧ 0 ≤ e.1.2 + g.1.2 ∧ e.1.2 + g.1.2 ≤ my) → Boxed mx my (rawMul b f a)
  | [], f, hf, _ => hf
  | e :: a, f, hf, h => by
    rw [rawMul]
    exact rawMul_box (rawRow_box hf (h e (List.mem_cons_self ..))) fun x hx => h x (List.mem_cons_of_mem _ hx)
/-- the book of a product: what is told of it -/
structure IsMul (p mx my : Int) (a b c : Bk) : Prop where
  good : GoodB p mx my c
  coef : ∀ q, coef c q = mulC a b q % p
  len : c.length ≤ a.length * b.length
theorem isMul_raw {p ax ay bx y : Int} (hp : 2 ≤ p) {a b : Bk} (ha : GoodB p ax ay a) (hb : GoodB p bx y b) : IsMul p (ax + bx) (ay + y) a b (modB p (rawMul b [] a)) ∧ Boxed (ax + bx) (ay + y) (rawMul b [] a) := by
  have box : Boxed (ax + bx) (ay + y) (rawMul b [] a) := rawMul_box Boxed.nil fun e he g hg => by
    have z1 := ha.box.2 e he
    have z2 := hb.box.2 g hg
    omega
  refine ⟨⟨modB_good hp box, fun q => ?_, ?_⟩, box⟩
  · rw [modB_coef p q box.1, rawMul_coef, coef, Int.zero_add]
  · refine Nat.le_trans (modB_length p _) ?_
    have := rawMul_length b a []
    simpa using this
def mdD (p : Int) (F : Bk) : D → Option (P2 × Int)
  | .tup [.int i, .int j] => if coef F (i, j) % p = 0 then none else some ((i, j), coef F (i, j) % p)
  | _ => none
theorem mdD_pD (p : Int) (F : Bk) (k : P2) : mdD p F (pD k) = if coef F k % p = 0 then none else some (k, coef F k % p) := rfl
theorem mdD_keys (p : Int) {F : Bk} (hn : (F.map (·.1)).Nodup) : (keysB F).filterMap (mdD p F) = modB p F := by
  have sub : ∀ c : Bk, (∀ e ∈ c, e ∈ F) → (keysB c).filterMap (mdD p F) = modB p c := by
    intro c
    induction c with
    | nil => intro _; rfl
    | cons e c ih =>
      intro hc
      have ce := coef_mem hn (hc e (List.mem_cons_self ..))
      have ih := ih fun x hx => hc x (List.mem_cons_of_mem _ hx)
      unfold modB at ih ⊢
      rw [keysB_cons]
      by_cases h : e.2 % p = 0
      · have e2 : mdD p F (pD e.1) = none := by rw [mdD_pD, ce, if_pos h]
        have e3 : md1 p e = none := if_pos h
        rw [List.filterMap_cons_none e2, List.filterMap_cons_none e3, ih]
      · have e2 : mdD p F (pD e.1) = some (e.1, e.2 % p) := by rw [mdD_pD, ce, if_neg h]
        have e3 : md1 p e = some (e.1, e.2 % p) := if_neg h
        rw [List.filterMap_cons_some e2, List.filterMap_cons_some e3, ih]
  exact sub F fun _ h => h
theorem if_long {m : Int} {b1 b2 : Bk} {X : TSD} {D0 : EndsD} {env : EnvD} {c : Nat} (e1 : env[1]? = some (.val (encB b1))) (e2 : env[2]? = some (.val (encB b2))) (hm : IntMulOk b1.length b2.length) (h : ¬ m < (b1.length : Int) * (b2.length : Int)) (q : D0.nx env c) :
    (tIfSD (tTestD (tOpD gtD (tOpD mulD (tCallD lenD (tConsD (tVarB 1) tNilD)) (tCallD lenD (tConsD (tVarB 2) tNilD))) (tCD (.int m)))) X tNextD) D0 env c := by
  simp [e1, e2, encB, keysB_length]
  refine ⟨hm, ?_⟩
  rw [if_neg h]
  exact q
/-- product, the short way -/
theorem s_product {p ax ay bx y : Int} {a b : Bk} {W R : D → Prop} (hp : 2 ≤ p) (hp7 : p ≤ 7) (ha : GoodB p ax ay a) (hb : GoodB p bx y b) (hl : a.length * b.length ≤ 3000) (hla : a.length ≤ 100000) (hlb : b.length ≤ 100000) (hR : ∀ c, IsMul p (ax + bx) (ay + y) a b c → R (encB c)) : pf_product [.int p, encB a, encB b] W R := by
  refine ⟨rfl, ?_⟩
  obtain ⟨im, box⟩ := isMul_raw hp ha hb
  have hR := hR _ im
  unfold t_product
  refine st_seq fun N0 hN0 => ?_
  refine if_long rfl rfl (mul_ok (by omega) (by omega)) ?_ (hN0 _ _ ?_)
  · have : ((a.length * b.length : Nat) : Int) ≤ ((3000 : Nat) : Int) := Int.ofNat_le.mpr hl
    rw [Int.natCast_mul] at this
    exact Int.not_lt.mpr this
  · refine st_seq fun N1 hN1 => ?_
    simp
    refine hN1 _ _ ?_
    refine st_seq fun N2 hN2 => ?_
    simp [-loopD, encB]
    have hraw : (rawMul b [] a).length ≤ 3000 := Nat.le_trans (rawMul_length b a []) (by simpa using hl)
    refine loop_inv (fun rest env c => c = 0 ∧ ∃ (f r : Bk) (s4 s5 s6 : Slot), env = [.val (.int p), .val (encB a), .val (encB b), .own (encB f), s4, s5, s6] ∧ Boxed (ax + bx) (ay + y) f ∧ (∀ e ∈ r, e ∈ a) ∧ f.length + r.length * b.length ≤ 16000000 ∧ rest = keysB r ∧ rawMul b f r = rawMul b [] a) ?_ ?_ _ _ _ ⟨rfl, [], a, _, _, _, rfl, Boxed.nil, fun _ h => h, by simp; omega, rfl, rfl⟩
    · rintro d ds N hN env c ⟨rfl, f, r, s4, s5, s6, rfl, hf, hra, hlen, er, eq⟩
      cases r with
      | nil => cases er
      | cons e r =>
        rw [keysB_cons] at er
        injection er with er1 er2
        subst er1 er2
        have em := hra e (List.mem_cons_self ..)
        have za := ha.2 e em
        unfold okT at za
        simp only at za
        have la := look_B a e.1
        rw [if_pos (List.mem_map_of_mem em), coef_mem ha.1 em] at la
        rw [List.length_cons, Nat.add_mul, Nat.one_mul] at hlen
        simp only [Tg.set, List.set_cons_succ, List.set_cons_zero]
        simp [-loopD, encB]
        refine loop_inv (fun rest env c => c = 0 ∧ ∃ (g r2 : Bk) (s5 s6 : Slot), env = [.val (.int p), .val (encB a), .val (encB b), .own (encB g), .val (pD e.1), s5, s6] ∧ Boxed (ax + bx) (ay + y) g ∧ (∀ x ∈ r2, x ∈ b) ∧ g.length + r2.length + r.length * b.length ≤ 16000000 ∧ rest = keysB r2 ∧ rawRow e g r2 = rawRow e f b) ?_ ?_ _ _ _ ⟨rfl, f, b, _, _, rfl, hf, fun _ h => h, by omega, rfl, rfl⟩
        · rintro d2 ds2 N3 hN3 env c ⟨rfl, g, r2, s5, s6, rfl, hg, hrb, hlen2, er3, eq2⟩
          cases r2 with
          | nil => cases er3
          | cons x r2 =>
            rw [keysB_cons] at er3
            injection er3 with er4 er5
            subst er4 er5
            have xm := hrb x (List.mem_cons_self ..)
            have zb := hb.2 x xm
            unfold okT at zb
            simp only at zb
            have lb := look_B b x.1
            rw [if_pos (List.mem_map_of_mem xm), coef_mem hb.1 xm] at lb
            rw [List.length_cons] at hlen2
            simp only [Tg.set, List.set_cons_succ, List.set_cons_zero]
            refine st_seq fun N4 hN4 => ?_
            have e0 : atI [D.int e.1.1, D.int e.1.2] 0 = some (.int e.1.1) := rfl
            have e1 : atI [D.int e.1.1, D.int e.1.2] 1 = some (.int e.1.2) := rfl
            have x0 : atI [D.int x.1.1, D.int x.1.2] 0 = some (.int x.1.1) := rfl
            have x1 : atI [D.int x.1.1, D.int x.1.2] 1 = some (.int x.1.2) := rfl
            have lg := look_B0 g (plus2 e.1 x.1)
            have fk := fits_pD (plus2 e.1 x.1)
            have fe := fits_pD e.1
            have fx := fits_pD x.1
            have pk : D.tup [.int (e.1.1 + x.1.1), .int (e.1.2 + x.1.2)] = pD (plus2 e.1 x.1) := rfl
            have hpe : pD e.1 = .tup [.int e.1.1, .int e.1.2] := rfl
            have hpx : pD x.1 = .tup [.int x.1.1, .int x.1.2] := rfl
            have go : N3 [.val (.int p), .val (encB a), .val (encB b), .own (encB (putB g (plus2 e.1 x.1) (coef g (plus2 e.1 x.1) + e.2 * x.2))), .val (pD e.1), .val (pD x.1), .val (pD (plus2 e.1 x.1))] 0 :=
              hN3 _ _ ⟨rfl, _, r2, _, _, rfl, hg.put _ (by unfold plus2; simp only; omega), fun z hz => hrb z (List.mem_cons_of_mem _ hz), by
                have := len_putB g (plus2 e.1 x.1) (coef g (plus2 e.1 x.1) + e.2 * x.2)
                omega, rfl, by rw [← eq2, rawRow]⟩
            rw [hpe, hpx]
            simp [e0, e1, x0, x1]
            rw [pk]
            refine hN4 _ _ ?_
            simp [encB, lg]
            rw [← hpe, ← hpx, la, lb]
            refine ⟨fk, fe, fx, mul_ok (by omega) (by omega), fk, by rw [keysB_length, sizeLine_eq]; omega, ?_⟩
            rw [put_enc _ _ hg.1]
            exact go
        · rintro env c ⟨rfl, g, r2, s5, s6, rfl, hg, hrb, hlen2, er3, eq2⟩
          have z : r2 = [] := by
            cases r2 with
            | nil => rfl
            | cons _ _ => cases er3
          subst z
          rw [rawRow] at eq2
          subst eq2
          simp only [List.length_nil] at hlen2
          exact hN _ _ ⟨rfl, _, r, _, _, _, rfl, hg, fun z hz => hra z (List.mem_cons_of_mem _ hz), by omega, rfl, by rw [← eq, rawMul]⟩
    · rintro env c ⟨rfl, f, r, s4, s5, s6, rfl, hf, hra, hlen, er, eq⟩
      have z : r = [] := by
        cases r with
        | nil => rfl
        | cons _ _ => cases er
      subst z
      refine hN2 _ _ ?_
      rw [rawMul] at eq
      subst eq
      simp [encB]
      refine dc_book (mdD p (rawMul b [] a)) _ (by rw [keysB_length]; exact size_line (by omega)) (by rw [mdD_keys p box.1]; exact im.good.1) (fun d hd k0 k1 hk => ?_) (by rw [mdD_keys p box.1]; exact hR)
      obtain ⟨e, he, rfl⟩ := List.mem_map.mp hd
      rw [mdD_pD] at hk
      have lk := look_B (rawMul b [] a) e.1
      rw [if_pos (List.mem_map_of_mem he)] at lk
      have f := fits_pD e.1
      simp [encB, lk]
      by_cases z : coef (rawMul b [] a) e.1 % p = 0
      · rw [if_pos z] at hk
        simp [z]
        exact ⟨f, by omega, hk⟩
      · rw [if_neg z] at hk
        simp [z]
        exact ⟨f, by omega, f, by omega, hk⟩
end KC
set_option Elab.async false
set_option linter.all false
set_option maxRecDepth 100000
set_option maxHeartbeats 1000000
namespace KC
open PySem PySem.Spec L2 DL
/-! ### the laws' own books -/
theorem mrg_B : ∀ (es acc : Bk), (acc.map (·.1)).Nodup → mrg (keysB acc) (valsB acc) (es.map fun e => (pD e.1, D.int e.2)) = (keysB (putAll acc es), valsB (putAll acc es))
  | [], acc, _ => by rw [List.map_nil, mrg]; rfl
  | e :: es, acc, hn => by
    rw [List.map_cons, mrg, putK_B acc e.1 e.2, putV_B acc e.1 e.2 hn, mrg_B es _ (nodup_putB e.1 e.2 hn)]
    rfl
def itemD (e : P2 × Int) : D := .tup [pD e.1, .int e.2]
theorem dict_items {es : Bk} {R : D → Prop} (hn : (es.map (·.1)).Nodup) (hR : R (encB es)) : dict1D [.lst (es.map itemD)] R := by
  refine ⟨es.map fun e => (pD e.1, D.int e.2), by rw [List.map_map]; rfl, fun q hq => ?_, ?_⟩
  · obtain ⟨e, _, rfl⟩ := List.mem_map.mp hq
    exact fits_pD e.1
  · have z := mrg_B es [] .nil
    have k0 : keysB [] = [] := rfl
    have v0 : valsB [] = [] := rfl
    rw [k0, v0] at z
    rw [z, putAll_new es [] (by simpa using hn)]
    exact hR
theorem s__law_dict {ts : List T3} {W R : D → Prop} (hn : ts.Pairwise ltT) (hl : ts.length ≤ 16777216) (hR : R (encB (bookOf ts))) : pf__law_dict [encP ts] W R := by
  refine ⟨rfl, ?_⟩
  simp [t__law_dict, encP, -dict1D]
  refine lc_map (fun d => match d with | .tup [.int i, .int j, .int c] => itemD ((i, j), c) | _ => .non) (ts.map encT) [] (by rw [List.length_map]; exact size_line (by simpa using hl)) (fun d hd k1 hk => ?_) ?_
  · obtain ⟨t, _, rfl⟩ := List.mem_map.mp hd
    have e0 : atI [D.int t.1, D.int t.2.1, D.int t.2.2] 0 = some (.int t.1) := rfl
    have e1 : atI [D.int t.1, D.int t.2.1, D.int t.2.2] 1 = some (.int t.2.1) := rfl
    have e2 : atI [D.int t.1, D.int t.2.1, D.int t.2.2] 2 = some (.int t.2.2) := rfl
    unfold encT at hk ⊢
    simp [e0, e1, e2]
    exact hk
  · have key : (ts.map encT).map (fun d => match d with | .tup [.int i, .int j, .int c] => itemD ((i, j), c) | _ => .non) = (bookOf ts).map itemD := by
      unfold bookOf
      rw [List.map_map, List.map_map]
      rfl
    rw [key, List.nil_append]
    exact dict_items (nodup_bookOf hn) hR
theorem s__law_poly_of {p mx my : Int} {b : Bk} {W R : D → Prop} (hb : GoodB p mx my b) (hl : b.length ≤ 16777216) (hR : ∀ ts, GoodP p mx my ts → (∀ k, coef (bookOf ts) k = coef b k) → ts.length = b.length → R (encP ts)) : pf__law_poly_of [encB b] W R := by
  refine ⟨rfl, ?_⟩
  simp [t__law_poly_of, encB]
  refine ⟨b.map (·.1), by unfold keysB; rw [List.map_map]; rfl, fun qs hp hs => ?_⟩
  have hlen : qs.length = b.length := by rw [hp.length_eq, List.length_map]
  have hmem : ∀ q ∈ qs, q ∈ b.map (·.1) := fun q hq => hp.mem_iff.mp hq
  refine lc_map (fun d => match d with | .tup [.int i, .int j] => encT (i, j, coef b (i, j)) | _ => .non) (qs.map pD) [] (by rw [List.length_map, hlen]; exact size_line (by simpa using hl)) (fun d hd k1 hk => ?_) ?_
  · obtain ⟨q, hq, rfl⟩ := List.mem_map.mp hd
    have lk := look_B b q
    rw [if_pos (hmem q hq)] at lk
    have f := fits_pD q
    unfold pD at lk f hk ⊢
    simp [lk]
    refine ⟨f, ?_⟩
    exact ⟨by rw [sizeLine_eq]; decide, hk⟩
  · have key : (qs.map pD).map (fun d => match d with | .tup [.int i, .int j] => encT (i, j, coef b (i, j)) | _ => .non) = (qs.map fun q => ((q.1, q.2, coef b q) : T3)).map encT := by
      rw [List.map_map, List.map_map]
      rfl
    rw [key]
    suffices h : R (encP (qs.map fun q => ((q.1, q.2, coef b q) : T3))) by simpa [encP] using h
    refine hR _ ⟨fun t ht => ?_, ?_⟩ (fun k => ?_) (by rw [List.length_map, hlen])
    · obtain ⟨q, hq, rfl⟩ := List.mem_map.mp ht
      exact hb.2 _ (coef_in (hmem q hq))
    · rw [List.pairwise_map]
      refine (nodup_pairwise hp hb.1 hs).imp fun {x y} h => ?_
      rw [SrtO.lexB_iff] at h
      exact h
    · have e : bookOf (qs.map fun q => ((q.1, q.2, coef b q) : T3)) = qs.map fun q => (q, coef b q) := by
        unfold bookOf
        rw [List.map_map]
        rfl
      rw [e, coef_map]
      by_cases h : k ∈ qs
      · rw [if_pos h]
      · rw [if_neg h, coef_out fun z => h (hp.mem_iff.mpr z)]
/-! _law_added -/
def addR (p n : Int) : Bk → Bk → Bk
  | a, [] => a
  | a, e :: b => addR p n (putB a e.1 ((coef a e.1 + n * e.2) % p)) b
/-- numbers from 0 to p - 1 -/
def Low (p : Int) (b : Bk) : Prop := ∀ e ∈ b, 0 ≤ e.2 ∧ e.2 ≤ p - 1
theorem Low.put {p : Int} {b : Bk} (h : Low p b) (k : P2) {v : Int} (hv : 0 ≤ v ∧ v ≤ p - 1) : Low p (putB b k v) := fun e he => by
  rcases mem_putB he with rfl | he
  · exact hv
  · exact h e he
theorem Low.coef {p : Int} (hp : 2 ≤ p) {b : Bk} (h : Low p b) (k : P2) : 0 ≤ coef b k ∧ coef b k ≤ p - 1 := by
  by_cases hk : k ∈ b.map (·.1)
  · exact h _ (coef_in hk)
  · rw [coef_out hk]; omega
theorem addR_low {p n : Int} (hp : 2 ≤ p) : ∀ (b : Bk) {a : Bk}, Low p a → Low p (addR p n a b)
  | [], a, ha => ha
  | e :: b, a, ha => addR_low hp b (ha.put _ (mod_lo _ hp))
theorem addR_box {p n mx my : Int} : ∀ {b a : Bk}, Boxed mx my a → (∀ e ∈ b, 0 ≤ e.1.1 ∧ e.1.1 ≤ mx ∧ 0 ≤ e.1.2 ∧ e.1.2 ≤ my) → Boxed mx my (addR p n a b)
  | [], a, ha, _ => ha
  | e :: b, a, ha, hb => by
    rw [addR]
    exact addR_box (ha.put _ (hb e (List.mem_cons_self ..))) fun x hx => hb x (List.mem_cons_of_mem _ hx)
theorem addR_coef {p n : Int} (hp : 2 ≤ p) : ∀ (b : Bk) {a : Bk}, Low p a → (b.map (·.1)).Nodup → ∀ q, coef (addR p n a b) q = (coef a q + n * coef b q) % p
  | [], a, ha, _, q => by
    have z := ha.coef hp q
    rw [addR, coef, Int.mul_zero, Int.add_zero, Int.emod_eq_of_lt z.1 (by omega)]
  | e :: b, a, ha, hb, q => by
    have hn := List.nodup_cons.mp hb
    rw [addR, addR_coef hp b (ha.put _ (mod_lo _ hp)) hn.2 q, coef_put, coef]
    by_cases h : e.1 = q
    · rw [if_pos h, if_pos h, coef_out (b := b) (by rw [← h]; exact hn.1), Int.mul_zero, Int.add_zero, Int.emod_emod, h]
    · rw [if_neg h, if_neg h]
theorem addR_length (p n : Int) : ∀ (b a : Bk), (addR p n a b).length ≤ a.length + b.length
  | [], a => Nat.le_refl _
  | e :: b, a => by
    rw [addR, List.length_cons]
    have := addR_length p n b (putB a e.1 ((coef a e.1 + n * e.2) % p))
    have := len_putB a e.1 ((coef a e.1 + n * e.2) % p)
    omega
/-- what is told of a sum -/
structure IsAdd (p n mx my : Int) (a b c : Bk) : Prop where
  good : GoodB p mx my c
  coef : ∀ q, coef c q = (coef a q + n * coef b q) % p
  len : c.length ≤ a.length + b.length
theorem GoodB.low {p mx my : Int} {b : Bk} (h : GoodB p mx my b) : Low p b := fun e he => by
  have z := h.2 e he
  unfold okT at z
  simp only at z
  omega
theorem isAdd_R {p n mx my : Int} (hp : 2 ≤ p) {a b : Bk} (ha : GoodB p mx my a) (hb : GoodB p mx my b) : IsAdd p n mx my a b (modB p (addR p n a b)) ∧ Boxed mx my (addR p n a b) ∧ Low p (addR p n a b) := by
  have box := addR_box (p := p) (n := n) ha.box hb.box.2
  refine ⟨⟨modB_good hp box, fun q => ?_, Nat.le_trans (modB_length _ _) (addR_length _ _ _ _)⟩, box, addR_low hp b ha.low⟩
  rw [modB_coef p q box.1, addR_coef hp b ha.low hb.1, Int.emod_emod]
theorem s_added' {p mx my n : Int} {a b : Bk} {W R : D → Prop} (hp : 2 ≤ p) (hp7 : p ≤ 7) (hn : -1000 ≤ n ∧ n ≤ 1000) (ha : GoodB p mx my a) (hb : GoodB p mx my b) (hm : mx ≤ 8191) (hm2 : my ≤ 8191) (hl : a.length + b.length ≤ 16000000) (hR : ∀ c, IsAdd p n mx my a b c → R (encB c)) : pf_added [.int p, encB a, encB b, .int n] W R :=
  s_added hp hp7 hn ha hb (Fine.small (m := 8191) (ha.mono hm hm2) (Int.le_refl _)) hl (hR _ ⟨addB_good hp b ha hb, addB_coef hp b ha hb, len_addB p n b a⟩)
end KC
set_option Elab.async false
set_option linter.all false
set_option maxRecDepth 100000
set_option maxHeartbeats 1000000
namespace KC
open PySem PySem.Spec L2 DL
/-- which entries stay, and what comes of them, by their keys -/
def keepD (F : Bk) (q : Int → Bool) : D → Bool
  | .tup [.int i, .int j] => q (coef F (i, j))
  | _ => false
def itemOf (F : Bk) (g : Int → Int) : D → D
  | .tup [.int i, .int j] => itemD ((i, j), g (coef F (i, j)))
  | _ => .non
theorem keep_keys {p : Int} {F : Bk} (hn : (F.map (·.1)).Nodup) : ((keysB F).filter (keepD F fun v => v % p != 0)).map (itemOf F fun v => v % p) = (modB p F).map itemD := by
  have sub : ∀ c : Bk, (∀ e ∈ c, e ∈ F) → ((keysB c).filter (keepD F fun v => v % p != 0)).map (itemOf F fun v => v % p) = (modB p c).map itemD := by
    intro c
    induction c with
    | nil => intro _; rfl
    | cons e c ih =>
      intro hc
      have ce := coef_mem hn (hc e (List.mem_cons_self ..))
      have ih := ih fun x hx => hc x (List.mem_cons_of_mem _ hx)
      unfold modB at ih ⊢
      rw [keysB_cons]
      by_cases h : e.2 % p = 0
      · have e2 : ¬ keepD F (fun v => v % p != 0) (pD e.1) = true := by
          show ¬ (coef F e.1 % p != 0) = true
          rw [ce, h]; decide
        have e3 : md1 p e = none := if_pos h
        rw [List.filter_cons_of_neg e2, List.filterMap_cons_none e3, ih]
      · have e2 : keepD F (fun v => v % p != 0) (pD e.1) = true := by
          show (coef F e.1 % p != 0) = true
          rw [ce]; simpa using h
        have e3 : md1 p e = some (e.1, e.2 % p) := if_neg h
        have e4 : itemOf F (fun v => v % p) (pD e.1) = itemD (e.1, e.2 % p) := by
          show itemD (e.1, coef F e.1 % p) = _
          rw [ce]
        rw [List.filter_cons_of_pos e2, List.filterMap_cons_some e3, List.map_cons, List.map_cons, ih, e4]
  exact sub F fun _ h => h
theorem items_all {F : Bk} (hn : (F.map (·.1)).Nodup) : (keysB F).map (itemOf F fun v => v) = F.map itemD := by
  unfold keysB
  rw [List.map_map]
  refine List.map_congr_left fun e he => ?_
  show itemD (e.1, coef F e.1) = itemD e
  rw [coef_mem hn he]
theorem s__law_added {p mx my n : Int} {a b : Bk} {W R : D → Prop} (hp : 2 ≤ p) (hp7 : p ≤ 7) (hn : -1000 ≤ n ∧ n ≤ 1000) (ha : GoodB p mx my a) (hb : GoodB p mx my b) (hl : a.length + b.length ≤ 16000000) (hR : ∀ c, IsAdd p n mx my a b c → R (encB c)) : pf__law_added [.int p, encB a, encB b, .int n] W R := by
  refine ⟨rfl, ?_⟩
  obtain ⟨ia, box, low⟩ := isAdd_R (n := n) hp ha hb
  have hR := hR _ ia
  unfold t__law_added
  refine st_seq fun N0 hN0 => ?_
  simp [encB, -dict1D]
  refine lc_map (itemOf a fun v => v) (keysB a) [] (by rw [keysB_length]; exact size_line (by simp; omega)) (fun d hd k1 hk => ?_) ?_
  · obtain ⟨e, he, rfl⟩ := List.mem_map.mp hd
    have lk := look_B a e.1
    rw [if_pos (List.mem_map_of_mem he)] at lk
    have f := fits_pD e.1
    simp [lk]
    exact ⟨f, hk⟩
  · rw [items_all ha.1, List.nil_append]
    refine dict_items ha.1 (hN0 _ _ ?_)
    refine st_seq fun N1 hN1 => ?_
    simp [-loopD]
    refine loop_inv (fun rest env c => c = 0 ∧ ∃ (f r : Bk) (s5 : Slot), env = [.val (.int p), .val (encB a), .val (encB b), .val (.int n), .own (encB f), s5] ∧ (f.map (·.1)).Nodup ∧ (∀ e ∈ r, e ∈ b) ∧ f.length + r.length ≤ 16000000 ∧ rest = keysB r ∧ addR p n f r = addR p n a b) ?_ ?_ _ _ _ ⟨rfl, a, b, _, rfl, ha.1, fun _ h => h, hl, rfl, rfl⟩
    · rintro d ds N hN env c ⟨rfl, f, r, s5, rfl, hf, hrb, hlen, er, eq⟩
      cases r with
      | nil => cases er
      | cons e r =>
        rw [keysB_cons] at er
        injection er with er1 er2
        subst er1 er2
        have em := hrb e (List.mem_cons_self ..)
        have z := hb.2 e em
        unfold okT at z
        simp only at z
        have lb := look_B b e.1
        rw [if_pos (List.mem_map_of_mem em), coef_mem hb.1 em] at lb
        have lf := look_B0 f e.1
        have ff := fits_pD e.1
        rw [List.length_cons] at hlen
        simp only [Tg.set, List.set_cons_succ, List.set_cons_zero]
        simp [encB, lf, lb]
        refine ⟨ff, mul_ok (by omega) (by omega), by omega, ff, by rw [keysB_length, sizeLine_eq]; omega, ?_⟩
        rw [put_enc _ _ hf]
        exact hN _ _ ⟨rfl, _, r, _, rfl, nodup_putB _ _ hf, fun g hg => hrb g (List.mem_cons_of_mem _ hg), by
          have := len_putB f e.1 ((coef f e.1 + n * e.2) % p)
          omega, rfl, by rw [← eq, addR]⟩
    · rintro env c ⟨rfl, f, r, s5, rfl, hf, hrb, hlen, er, eq⟩
      have z : r = [] := by
        cases r with
        | nil => rfl
        | cons _ _ => cases er
      subst z
      rw [addR] at eq
      subst eq
      refine hN1 _ _ ?_
      simp [encB, -dict1D]
      have flen := addR_length p n b a
      refine lc_pure (keepD (addR p n a b) fun v => v % p != 0) (itemOf (addR p n a b) fun v => v % p) (keysB (addR p n a b)) [] (by rw [keysB_length]; exact size_line (by simp; omega)) (fun d hd k0 k1 hk => ?_) ?_
      · obtain ⟨e, he, rfl⟩ := List.mem_map.mp hd
        have lk := look_B (addR p n a b) e.1
        rw [if_pos (List.mem_map_of_mem he)] at lk
        have f := fits_pD e.1
        have lw := low.coef hp e.1
        have em : coef (addR p n a b) e.1 % p = coef (addR p n a b) e.1 := Int.emod_eq_of_lt lw.1 (by omega)
        simp [lk]
        have hk : if (coef (addR p n a b) e.1 % p != 0) = true then k1 (itemD (e.1, coef (addR p n a b) e.1 % p)) 0 else k0 0 := hk
        rw [em] at hk
        refine ⟨f, ?_⟩
        by_cases z : coef (addR p n a b) e.1 = 0
        · simpa [z] using hk
        · simp [z] at hk ⊢
          exact ⟨f, hk⟩
      · rw [keep_keys box.1, List.nil_append]
        exact dict_items ia.good.1 hR
end KC
set_option Elab.async false
set_option linter.all false
set_option maxRecDepth 100000
set_option maxHeartbeats 1000000
namespace KC
open PySem PySem.Spec L2 DL
theorem s__law_product {p ax ay bx y : Int} {a b : Bk} {W R : D → Prop} (hp : 2 ≤ p) (hp7 : p ≤ 7) (ha : GoodB p ax ay a) (hb : GoodB p bx y b) (hl : a.length * b.length ≤ 16000000) (hla : a.length ≤ 16000000) (hlb : b.length ≤ 16000000) (hR : ∀ c, IsMul p (ax + bx) (ay + y) a b c → R (encB c)) : pf__law_product [.int p, encB a, encB b] W R := by
  refine ⟨rfl, ?_⟩
  obtain ⟨im, box⟩ := isMul_raw hp ha hb
  have hR := hR _ im
  unfold t__law_product
  refine st_seq fun N1 hN1 => ?_
  simp
  refine hN1 _ _ ?_
  refine st_seq fun N2 hN2 => ?_
  simp [-loopD, encB]
  have hraw : (rawMul b [] a).length ≤ 16000000 := Nat.le_trans (rawMul_length b a []) (by simpa using hl)
  refine loop_inv (fun rest env c => c = 0 ∧ ∃ (f r : Bk) (s4 s5 s6 s7 s8 : Slot), env = [.val (.int p), .val (encB a), .val (encB b), .own (encB f), s4, s5, s6, s7, s8] ∧ Boxed (ax + bx) (ay + y) f ∧ (∀ e ∈ r, e ∈ a) ∧ f.length + r.length * b.length ≤ 16000000 ∧ rest = keysB r ∧ rawMul b f r = rawMul b [] a) ?_ ?_ _ _ _ ⟨rfl, [], a, _, _, _, _, _, rfl, Boxed.nil, fun _ h => h, by simpa using hl, rfl, rfl⟩
  · rintro d ds N hN env c ⟨rfl, f, r, s4, s5, s6, s7, s8, rfl, hf, hra, hlen, er, eq⟩
    cases r with
    | nil => cases er
    | cons e r =>
      rw [keysB_cons] at er
      injection er with er1 er2
      subst er1 er2
      have em := hra e (List.mem_cons_self ..)
      have za := ha.2 e em
      unfold okT at za
      simp only at za
      have la := look_B a e.1
      rw [if_pos (List.mem_map_of_mem em), coef_mem ha.1 em] at la
      rw [List.length_cons, Nat.add_mul, Nat.one_mul] at hlen
      have hpe : pD e.1 = .tup [.int e.1.1, .int e.1.2] := rfl
      rw [hpe]
      simp [-loopD, encB]
      refine loop_inv (fun rest env c => c = 0 ∧ ∃ (g r2 : Bk) (s6 s7 : Slot), env = [.val (.int p), .val (encB a), .val (encB b), .own (encB g), .val (.int e.1.1), .val (.int e.1.2), s6, s7, s8] ∧ Boxed (ax + bx) (ay + y) g ∧ (∀ x ∈ r2, x ∈ b) ∧ g.length + r2.length + r.length * b.length ≤ 16000000 ∧ rest = keysB r2 ∧ rawRow e g r2 = rawRow e f b) ?_ ?_ _ _ _ ⟨rfl, f, b, _, _, rfl, hf, fun _ h => h, by omega, rfl, rfl⟩
      · rintro d2 ds2 N3 hN3 env c ⟨rfl, g, r2, s6, s7, rfl, hg, hrb, hlen2, er3, eq2⟩
        cases r2 with
        | nil => cases er3
        | cons x r2 =>
          rw [keysB_cons] at er3
          injection er3 with er4 er5
          subst er4 er5
          have xm := hrb x (List.mem_cons_self ..)
          have zb := hb.2 x xm
          unfold okT at zb
          simp only at zb
          have lb := look_B b x.1
          rw [if_pos (List.mem_map_of_mem xm), coef_mem hb.1 xm] at lb
          rw [List.length_cons] at hlen2
          have lg := look_B0 g (plus2 e.1 x.1)
          have fk := fits_pD (plus2 e.1 x.1)
          have fe := fits_pD e.1
          have fx := fits_pD x.1
          have pk : D.tup [.int (e.1.1 + x.1.1), .int (e.1.2 + x.1.2)] = pD (plus2 e.1 x.1) := rfl
          have hpx : pD x.1 = .tup [.int x.1.1, .int x.1.2] := rfl
          have go : N3 [.val (.int p), .val (encB a), .val (encB b), .own (encB (putB g (plus2 e.1 x.1) (coef g (plus2 e.1 x.1) + e.2 * x.2))), .val (.int e.1.1), .val (.int e.1.2), .val (.int x.1.1), .val (.int x.1.2), s8] 0 :=
            hN3 _ _ ⟨rfl, _, r2, _, _, rfl, hg.put _ (by unfold plus2; simp only; omega), fun z hz => hrb z (List.mem_cons_of_mem _ hz), by
              have := len_putB g (plus2 e.1 x.1) (coef g (plus2 e.1 x.1) + e.2 * x.2)
              omega, rfl, by rw [← eq2, rawRow]⟩
          rw [hpx]
          simp [encB]
          rw [pk, ← hpe, ← hpx, lg, la, lb]
          refine ⟨fk, fe, fx, mul_ok (by omega) (by omega), fk, by rw [keysB_length, sizeLine_eq]; omega, ?_⟩
          rw [put_enc _ _ hg.1]
          exact go
      · rintro env c ⟨rfl, g, r2, s6, s7, rfl, hg, hrb, hlen2, er3, eq2⟩
        have z : r2 = [] := by
          cases r2 with
          | nil => rfl
          | cons _ _ => cases er3
        subst z
        rw [rawRow] at eq2
        subst eq2
        simp only [List.length_nil] at hlen2
        exact hN _ _ ⟨rfl, _, r, _, _, _, _, _, rfl, hg, fun z hz => hra z (List.mem_cons_of_mem _ hz), by omega, rfl, by rw [← eq, rawMul]⟩
  · rintro env c ⟨rfl, f, r, s4, s5, s6, s7, s8, rfl, hf, hra, hlen, er, eq⟩
    have z : r = [] := by
      cases r with
      | nil => rfl
      | cons _ _ => cases er
    subst z
    refine hN2 _ _ ?_
    rw [rawMul] at eq
    subst eq
    simp [encB, -dict1D]
    refine lc_pure (keepD (rawMul b [] a) fun v => v % p != 0) (itemOf (rawMul b [] a) fun v => v % p) (keysB (rawMul b [] a)) [] (by rw [keysB_length]; exact size_line (by simp; omega)) (fun d hd k0 k1 hk => ?_) ?_
    · obtain ⟨e, he, rfl⟩ := List.mem_map.mp hd
      have lk := look_B (rawMul b [] a) e.1
      rw [if_pos (List.mem_map_of_mem he)] at lk
      have f := fits_pD e.1
      simp [lk]
      have hk : if (coef (rawMul b [] a) e.1 % p != 0) = true then k1 (itemD (e.1, coef (rawMul b [] a) e.1 % p)) 0 else k0 0 := hk
      refine ⟨f, by omega, ?_⟩
      by_cases z : coef (rawMul b [] a) e.1 % p = 0
      · simpa [z] using hk
      · simp [z] at hk ⊢
        exact ⟨f, by omega, hk⟩
    · rw [keep_keys box.1, List.nil_append]
      exact dict_items im.good.1 hR
/-! ### over polys -/
abbrev cf (ts : List T3) : P2 → Int := coef (bookOf ts)
theorem s__law_plus {p m : Int} {ts us : List T3} {W R : D → Prop} (hp : 2 ≤ p) (hp7 : p ≤ 7) (ht : GoodP p m m ts) (hu : GoodP p m m us) (hlt : ts.length ≤ 1000000) (hlu : us.length ≤ 1000000) (hR : ∀ ws, GoodP p m m ws → (∀ q, cf ws q = (cf ts q + cf us q) % p) → ws.length ≤ ts.length + us.length → R (encP ws)) : pf__law_plus [.int p, encP ts, encP us] W R := by
  refine ⟨rfl, ?_⟩
  simp [t__law_plus]
  refine s__law_dict ht.2 (by omega) ?_
  refine s__law_dict hu.2 (by omega) ?_
  refine s__law_added (n := 1) hp hp7 (by omega) ht.book hu.book (by rw [bookOf_length, bookOf_length]; omega) fun c hc => ?_
  have hlc := hc.len
  rw [bookOf_length, bookOf_length] at hlc
  refine s__law_poly_of hc.good (by omega) fun ws hw hq hlw => hR ws hw (fun q => ?_) (by omega)
  show coef (bookOf ws) q = _
  rw [hq q, hc.coef q, Int.one_mul]
theorem s__law_less {p m : Int} {ts us : List T3} {W R : D → Prop} (hp : 2 ≤ p) (hp7 : p ≤ 7) (ht : GoodP p m m ts) (hu : GoodP p m m us) (hlt : ts.length ≤ 1000000) (hlu : us.length ≤ 1000000) (hR : ∀ ws, GoodP p m m ws → (∀ q, cf ws q = (cf ts q + (p - 1) * cf us q) % p) → ws.length ≤ ts.length + us.length → R (encP ws)) : pf__law_less [.int p, encP ts, encP us] W R := by
  refine ⟨rfl, ?_⟩
  simp [t__law_less]
  refine s__law_dict ht.2 (by omega) ?_
  refine s__law_dict hu.2 (by omega) ?_
  refine s__law_added (n := p - 1) hp hp7 (by omega) ht.book hu.book (by rw [bookOf_length, bookOf_length]; omega) fun c hc => ?_
  have hlc := hc.len
  rw [bookOf_length, bookOf_length] at hlc
  refine s__law_poly_of hc.good (by omega) fun ws hw hq hlw => hR ws hw (fun q => ?_) (by omega)
  show coef (bookOf ws) q = _
  rw [hq q, hc.coef q]
theorem s__law_times {p ax ay bx y : Int} {ts us : List T3} {W R : D → Prop} (hp : 2 ≤ p) (hp7 : p ≤ 7) (ht : GoodP p ax ay ts) (hu : GoodP p bx y us) (hl : ts.length * us.length ≤ 16000000) (hlt : ts.length ≤ 1000000) (hlu : us.length ≤ 1000000) (hR : ∀ ws, GoodP p (ax + bx) (ay + y) ws → (∀ q, cf ws q = mulC (bookOf ts) (bookOf us) q % p) → ws.length ≤ ts.length * us.length → R (encP ws)) : pf__law_times [.int p, encP ts, encP us] W R := by
  refine ⟨rfl, ?_⟩
  simp [t__law_times]
  refine s__law_dict ht.2 (by omega) ?_
  refine s__law_dict hu.2 (by omega) ?_
  refine s__law_product hp hp7 ht.book hu.book (by rw [bookOf_length, bookOf_length]; exact hl) (by rw [bookOf_length]; omega) (by rw [bookOf_length]; omega) fun c hc => ?_
  have hlc := hc.len
  rw [bookOf_length, bookOf_length] at hlc
  refine s__law_poly_of hc.good (by omega) fun ws hw hq hlw => hR ws hw (fun q => ?_) (by omega)
  show coef (bookOf ws) q = _
  rw [hq q, hc.coef q]
end KC
set_option Elab.async false
set_option linter.all false
set_option maxRecDepth 100000
set_option maxHeartbeats 1000000
namespace KC
open PySem PySem.Spec L2 DL
/-! ### rows -/
def isRowD (p : Int) : D → Bool
  | .tup ds => decide (2 ≤ ds.length) && decide (ds.length ≤ 4) && ds.all (isPolyD p)
  | _ => false
/-- a value that is judged as a row -/
def judgeR (d : D) : Prop := tyd d = true ∧ ∀ ds, d = .tup ds → ds.length ≤ 1000000 ∧ ∀ x ∈ ds, judge x
theorem s_rows_right {p : Int} {d : D} {W R : D → Prop} (hj : judgeR d) (hR : R (.bl (isRowD p d))) : pf_rows_right [.int p, d] W R := by
  refine ⟨rfl, ?_⟩
  obtain ⟨ht, hl⟩ := hj
  cases d with
  | tup ds =>
    obtain ⟨hd, ha⟩ := hl ds rfl
    simp [t_rows_right, tyN_some]
    by_cases h1 : 2 ≤ ds.length
    · by_cases h2 : ds.length ≤ 4
      · have c1 : (2 : Int) ≤ (ds.length : Int) := by omega
        have c2 : (ds.length : Int) ≤ 4 := by omega
        simp [c1]
        rw [if_neg (by omega)]
        refine lc_map (fun x => .bl (isPolyD p x)) ds [] (by rw [sizeLine_eq]; simp; omega) (fun x hx k1 hk => ?_) ?_
        · simp
          exact s_polys_right (ha x hx) hk
        · simp [blsD_bl]
          simp only [isRowD, decide_eq_true h1, decide_eq_true h2, Bool.true_and] at hR
          exact hR
      · have c1 : (2 : Int) ≤ (ds.length : Int) := by omega
        have c2 : ¬ (ds.length : Int) ≤ 4 := by omega
        simp only [isRowD, decide_eq_false h2, Bool.and_false, Bool.false_and] at hR
        simp [c1]
        rw [if_pos (by omega)]
        exact hR
    · have c1 : ¬ (2 : Int) ≤ (ds.length : Int) := by omega
      simp only [isRowD, decide_eq_false h1, Bool.false_and] at hR
      simp [c1]
      exact hR
  | _ => first | (simp [tyd, tyN] at ht; done) | simpa [t_rows_right, isTy, tyN_some, isRowD] using hR
theorem s_need_row {q d : D} {W R : D → Prop} (hq : tyd q = true) (hj : judgeR d) (hR : if isPrm q = true then (match q with | .int p => if isRowD p d = true then R .non else W (.exc "BadRow" []) | _ => True) else W (.exc "BadPrime" [])) : pf_need_row [q, d] W R := by
  refine ⟨rfl, ?_⟩
  simp [t_need_row]
  refine s_need_prime hq ?_
  by_cases hp : isPrm q = true
  · rw [if_pos hp] at hR ⊢
    cases q with
    | int p =>
      refine s_rows_right hj ?_
      by_cases h : isRowD p d = true
      · simp only [h, if_true] at hR
        simpa [h] using hR
      · simp only [h] at hR
        simpa [h] using hR
    | _ => cases hp
  · rw [if_neg hp] at hR ⊢
    exact hR
theorem s__law_is_row {p : Int} {d : D} {W R : D → Prop} (hj : judgeR d) (hR : R (.bl (isRowD p d))) : pf__law_is_row [.int p, d] W R := by
  refine ⟨rfl, ?_⟩
  obtain ⟨ht, hl⟩ := hj
  cases d with
  | tup ds =>
    obtain ⟨hd, ha⟩ := hl ds rfl
    simp [t__law_is_row, tyN_some]
    by_cases h1 : 2 ≤ ds.length
    · by_cases h2 : ds.length ≤ 4
      · have c1 : (2 : Int) ≤ (ds.length : Int) := by omega
        have c2 : (ds.length : Int) ≤ 4 := by omega
        simp [c1]
        rw [if_neg (by omega)]
        refine lc_pure (fun x => !isPolyD p x) (fun _ => .int 1) ds [] (by rw [sizeLine_eq]; simp; omega) (fun x hx k0 k1 hk => ?_) ?_
        · simp
          refine s__law_is_poly (ha x hx) ?_
          simpa using hk
        · simp
          rw [filter_one]
          simp only [isRowD, decide_eq_true h1, decide_eq_true h2, Bool.true_and] at hR
          simpa using hR
      · have c1 : (2 : Int) ≤ (ds.length : Int) := by omega
        have c2 : ¬ (ds.length : Int) ≤ 4 := by omega
        simp only [isRowD, decide_eq_false h2, Bool.and_false, Bool.false_and] at hR
        simp [c1]
        rw [if_pos (by omega)]
        exact hR
    · have c1 : ¬ (2 : Int) ≤ (ds.length : Int) := by omega
      simp only [isRowD, decide_eq_false h1, Bool.false_and] at hR
      simp [c1]
      exact hR
  | _ => first | (simp [tyd, tyN] at ht; done) | simpa [t__law_is_row, isTy, tyN_some, isRowD] using hR
theorem polys_of {p : Int} : ∀ {ds : List D}, (∀ x ∈ ds, isPolyD p x = true) → ∃ tss : List (List T3), ds = tss.map encP ∧ ∀ ts ∈ tss, GoodP p 999 999 ts
  | [], _ => ⟨[], rfl, fun _ h => absurd h List.not_mem_nil⟩
  | d :: ds, h => by
    obtain ⟨tss, rfl, g⟩ := polys_of fun x hx => h x (List.mem_cons_of_mem _ hx)
    obtain ⟨ts, rfl, k⟩ := poly_of_is (h d (List.mem_cons_self ..))
    exact ⟨ts :: tss, rfl, fun us hu => by
      rcases List.mem_cons.mp hu with rfl | hu
      · exact k
      · exact g us hu⟩
theorem encPL_inj : ∀ {as bs : List (List T3)}, as.map encP = bs.map encP → as = bs
  | [], [], _ => rfl
  | [], _ :: _, h => by cases h
  | _ :: _, [], h => by cases h
  | a :: as, b :: bs, h => by
    rw [List.map_cons, List.map_cons] at h
    injection h with h1 h2
    rw [encP_inj h1, encPL_inj h2]
/-! ### sums of products -/
def sumT : List (List T3) → List (List T3) → P2 → Int
  | t :: ts, u :: us, q => mulC (bookOf t) (bookOf u) q + sumT ts us q
  | _, _, _ => 0
/-- entries and multiples that are added up without the long way -/
structure Pairs (p m1 m2 : Int) (tss uss : List (List T3)) : Prop where
  t : ∀ t ∈ tss, GoodP p m1 m1 t ∧ t.length ≤ 1000
  u : ∀ u ∈ uss, GoodP p m2 m2 u ∧ u.length ≤ 1000
  tu : ∀ t ∈ tss, ∀ u ∈ uss, t.length * u.length ≤ 3000
  m : 0 ≤ m1 ∧ 0 ≤ m2 ∧ m1 + m2 ≤ 8191
theorem Pairs.tail {p m1 m2 : Int} {t u : List T3} {ts us : List (List T3)} (h : Pairs p m1 m2 (t :: ts) (u :: us)) : Pairs p m1 m2 ts us :=
  ⟨fun x hx => h.t x (List.mem_cons_of_mem _ hx), fun x hx => h.u x (List.mem_cons_of_mem _ hx), fun x hx y hy => h.tu x (List.mem_cons_of_mem _ hx) y (List.mem_cons_of_mem _ hy), h.m⟩
/-- pairs of items, one from each list -/
def zipP (f : List T3 → D) : List (List T3) → List (List T3) → List D
  | t :: ts, u :: us => .tup [f t, f u] :: zipP f ts us
  | _, _ => []
theorem zipP_eq (f : List T3 → D) : ∀ (ts us : List (List T3)), List.zipWith (fun a b => D.tup [f a, f b]) ts us = zipP f ts us
  | [], _ => rfl
  | _ :: _, [] => rfl
  | t :: ts, u :: us => by
    rw [List.zipWith_cons_cons, zipP_eq f ts us]
    rfl
def encBk (ts : List T3) : D := encB (bookOf ts)
theorem emod_sum {p a b x y : Int} (hx : x = a % p) (hy : y = b % p) : (x + 1 * y) % p = (a + b) % p := by
  rw [hx, hy, Int.one_mul, Int.add_emod, Int.emod_emod, Int.emod_emod, ← Int.add_emod]
theorem s_sum_of {p m1 m2 : Int} {tss uss : List (List T3)} {W R : D → Prop} (hp : 2 ≤ p) (hp7 : p ≤ 7) (h : Pairs p m1 m2 tss uss) (hl : tss.length ≤ 1000) (hR : ∀ c, GoodB p (m1 + m2) (m1 + m2) c → (∀ q, coef c q = sumT tss uss q % p) → R (encB c)) : pf_sum_of [.int p, .lst (tss.map encBk), .lst (uss.map encBk)] W R := by
  refine ⟨rfl, ?_⟩
  unfold t_sum_of
  refine st_seq fun N0 hN0 => ?_
  simp
  refine hN0 _ _ ?_
  refine st_seq fun N1 hN1 => ?_
  simp [-loopD]
  rw [zipP_eq]
  refine loop_inv (fun rest env c => c = 0 ∧ ∃ (f : Bk) (F : P2 → Int) (ts us : List (List T3)) (s4 s5 : Slot), env = [.val (.int p), .val (.lst (tss.map encBk)), .val (.lst (uss.map encBk)), .val (encB f), s4, s5] ∧ GoodB p (m1 + m2) (m1 + m2) f ∧ (∀ q, coef f q = F q % p) ∧ (∀ q, F q + sumT ts us q = sumT tss uss q) ∧ Pairs p m1 m2 ts us ∧ f.length + 3000 * ts.length ≤ 3000000 ∧ rest = zipP encBk ts us) ?_ ?_ _ _ _ ⟨rfl, [], fun _ => 0, tss, uss, _, _, rfl, GoodB.nil, fun q => by simp [coef], fun q => by simp, h, by simp; omega, rfl⟩
  · rintro d ds N hN env c ⟨rfl, f, F, ts, us, s4, s5, rfl, hf, hF, hS, hP, hlen, er⟩
    match ts, us, hS, hP, hlen, er with
    | t :: ts, u :: us, hS, hP, hlen, er =>
      rw [zipP] at er
      injection er with er1 er2
      subst er1 er2
      obtain ⟨g1, l1⟩ := hP.t t (List.mem_cons_self ..)
      obtain ⟨g2, l2⟩ := hP.u u (List.mem_cons_self ..)
      have l3 := hP.tu t (List.mem_cons_self ..) u (List.mem_cons_self ..)
      have hm := hP.m
      rw [List.length_cons] at hlen
      simp [encBk]
      refine s_product hp hp7 g1.book g2.book (by rw [bookOf_length, bookOf_length]; exact l3) (by rw [bookOf_length]; omega) (by rw [bookOf_length]; omega) fun c hc => ?_
      have hlc := hc.len
      rw [bookOf_length, bookOf_length] at hlc
      refine s_added' (n := 1) hp hp7 (by omega) hf hc.good (by omega) (by omega) (by omega) fun c2 hc2 => ?_
      have hlc2 := hc2.len
      refine hN _ _ ⟨rfl, c2, fun q => F q + mulC (bookOf t) (bookOf u) q, ts, us, _, _, rfl, hc2.good, fun q => ?_, fun q => ?_, hP.tail, by omega, rfl⟩
      · rw [hc2.coef q]
        exact emod_sum (hF q) (hc.coef q)
      · rw [← hS q]
        show F q + mulC (bookOf t) (bookOf u) q + sumT ts us q = F q + (mulC (bookOf t) (bookOf u) q + sumT ts us q)
        omega
    | [], _, _, _, _, er => cases er
    | _ :: _, [], _, _, _, er => cases er
  · rintro env c ⟨rfl, f, F, ts, us, s4, s5, rfl, hf, hF, hS, hP, hlen, er⟩
    refine hN1 _ _ ?_
    simp
    refine hR f hf fun q => ?_
    rw [hF q, ← hS q]
    have z : sumT ts us q = 0 := by
      match ts, us, er with
      | t :: ts, u :: us, er => cases er
      | [], _, _ => rfl
      | _ :: _, [], _ => rfl
    rw [z, Int.add_zero]
/-- the law's, over polys; t: tuples, else lists -/
def seqD (t : Bool) (ds : List D) : D := if t = true then .tup ds else .lst ds
theorem s__law_sum_of {p m1 m2 : Int} {t : Bool} {tss uss : List (List T3)} {W R : D → Prop} (hp : 2 ≤ p) (hp7 : p ≤ 7) (h : Pairs p m1 m2 tss uss) (hl : tss.length ≤ 100) (hR : ∀ ws, GoodP p (m1 + m2) (m1 + m2) ws → (∀ q, cf ws q = sumT tss uss q % p) → R (encP ws)) : pf__law_sum_of [.int p, seqD t (tss.map encP), seqD t (uss.map encP)] W R := by
  refine ⟨rfl, ?_⟩
  have key : ∀ s1 s2 : Slot, ∀ D0 : EndsD, (∀ ws s4 s5, GoodP p (m1 + m2) (m1 + m2) ws → (∀ q, cf ws q = sumT tss uss q % p) → D0.nx [.val (.int p), s1, s2, .val (encP ws), s4, s5] 0) →
      loopD (.tup [4, 5]) (tSetD 3 (tCallP pf__law_plus (tConsD (tVarD 0) (tConsD (tVarD 3) (tConsD (tCallP pf__law_times (tConsD (tVarD 0) (tConsD (tVarD 4) (tConsD (tVarD 5) tNilD)))) tNilD))))) D0 (zipP encP tss uss) [.val (.int p), s1, s2, .val (.tup []), .un, .un] 0 := by
    intro s1 s2 D0 fin
    refine loop_inv (fun rest env c => c = 0 ∧ ∃ (f : List T3) (F : P2 → Int) (ts us : List (List T3)) (s4 s5 : Slot), env = [.val (.int p), s1, s2, .val (encP f), s4, s5] ∧ GoodP p (m1 + m2) (m1 + m2) f ∧ (∀ q, cf f q = F q % p) ∧ (∀ q, F q + sumT ts us q = sumT tss uss q) ∧ Pairs p m1 m2 ts us ∧ f.length + 3000 * ts.length ≤ 300000 ∧ rest = zipP encP ts us) ?_ ?_ _ _ _ ⟨rfl, [], fun _ => 0, tss, uss, _, _, rfl, GoodP.nil, fun q => by simp [cf, bookOf, coef], fun q => by simp, h, by simp; omega, rfl⟩
    · rintro d ds N hN env c ⟨rfl, f, F, ts, us, s4, s5, rfl, hf, hF, hS, hP, hlen, er⟩
      match ts, us, hS, hP, hlen, er with
      | t :: ts, u :: us, hS, hP, hlen, er =>
        rw [zipP] at er
        injection er with er1 er2
        subst er1 er2
        obtain ⟨g1, l1⟩ := hP.t t (List.mem_cons_self ..)
        obtain ⟨g2, l2⟩ := hP.u u (List.mem_cons_self ..)
        have l3 := hP.tu t (List.mem_cons_self ..) u (List.mem_cons_self ..)
        have hm := hP.m
        rw [List.length_cons] at hlen
        simp
        refine s__law_times hp hp7 g1 g2 (by omega) (by omega) (by omega) fun ws hw hq hlw => ?_
        refine s__law_plus hp hp7 hf hw (by omega) (by omega) fun vs hv hq2 hlv => ?_
        refine hN _ _ ⟨rfl, vs, fun q => F q + mulC (bookOf t) (bookOf u) q, ts, us, _, _, rfl, hv, fun q => ?_, fun q => ?_, hP.tail, by omega, rfl⟩
        · rw [hq2 q, ← Int.one_mul (cf ws q)]
          exact emod_sum (hF q) (hq q)
        · rw [← hS q]
          show F q + mulC (bookOf t) (bookOf u) q + sumT ts us q = F q + (mulC (bookOf t) (bookOf u) q + sumT ts us q)
          omega
      | [], _, _, _, _, er => cases er
      | _ :: _, [], _, _, _, er => cases er
    · rintro env c ⟨rfl, f, F, ts, us, s4, s5, rfl, hf, hF, hS, hP, hlen, er⟩
      refine fin f s4 s5 hf fun q => ?_
      rw [hF q, ← hS q]
      have z : sumT ts us q = 0 := by
        match ts, us, er with
        | t :: ts, u :: us, er => cases er
        | [], _, _ => rfl
        | _ :: _, [], _ => rfl
      rw [z, Int.add_zero]
  unfold t__law_sum_of
  refine st_seq fun N0 hN0 => ?_
  simp
  refine hN0 _ _ ?_
  refine st_seq fun N1 hN1 => ?_
  cases t with
  | true =>
    simp [-loopD, seqD]
    rw [zipP_eq]
    exact key _ _ _ fun ws s4 s5 hw hq => hN1 _ _ (by simp; exact hR ws hw hq)
  | false =>
    simp [-loopD, seqD]
    rw [zipP_eq]
    exact key _ _ _ fun ws s4 s5 hw hq => hN1 _ _ (by simp; exact hR ws hw hq)
end KC
set_option Elab.async false
set_option linter.all false
set_option maxRecDepth 100000
set_option maxHeartbeats 1000000
namespace KC
open PySem PySem.Spec L2 DL
/-! ### equal books -/
theorem hit_B (b : Bk) (k : P2) (v : Int) : hitD (lookD (keysB b) (valsB b) (pD k)) (.int v) = true ↔ k ∈ b.map (·.1) ∧ coef b k = v := by
  rw [look_B]
  by_cases h : k ∈ b.map (·.1)
  · rw [if_pos h]
    show (v == coef b k) = true ↔ _
    rw [beq_iff_eq]
    exact ⟨fun e => ⟨h, e.symm⟩, fun e => e.2.symm⟩
  · rw [if_neg h]
    show false = true ↔ _
    exact ⟨fun e => absurd e Bool.false_ne_true, fun e => absurd e.1 h⟩
theorem within_B (b : Bk) : ∀ a : Bk, withinD (keysB a) (valsB a) (keysB b) (valsB b) = true ↔ ∀ e ∈ a, e.1 ∈ b.map (·.1) ∧ coef b e.1 = e.2
  | [] => by
    have z : withinD (keysB []) (valsB []) (keysB b) (valsB b) = true := by
      show withinD [] [] _ _ = true
      rw [withinD.eq_def]
    exact ⟨fun _ e he => absurd he List.not_mem_nil, fun _ => z⟩
  | e :: a => by
    rw [keysB_cons, valsB_cons, withinD, Bool.and_eq_true, hit_B, within_B b a]
    constructor
    · rintro ⟨h1, h2⟩ x hx
      rcases List.mem_cons.mp hx with rfl | hx
      · exact h1
      · exact h2 x hx
    · intro h
      exact ⟨h e (List.mem_cons_self ..), fun x hx => h x (List.mem_cons_of_mem _ hx)⟩
theorem len_sub : ∀ {a b : List P2}, a.Nodup → (∀ x ∈ a, x ∈ b) → a.length ≤ b.length
  | [], _, _, _ => Nat.zero_le _
  | x :: a, b, hn, hs => by
    have h := List.nodup_cons.mp hn
    have hx := hs x (List.mem_cons_self ..)
    have ih := len_sub (a := a) (b := b.erase x) h.2 fun y hy => (List.mem_erase_of_ne (fun e => h.1 (by rw [← e]; exact hy))).mpr (hs y (List.mem_cons_of_mem _ hy))
    rw [List.length_erase_of_mem hx] at ih
    have := List.length_pos_of_mem hx
    rw [List.length_cons]
    omega
theorem nodup_sub_eq : ∀ {a b : List P2}, a.Nodup → b.Nodup → (∀ x ∈ a, x ∈ b) → b.length ≤ a.length → ∀ x ∈ b, x ∈ a := by
  intro a b ha hb hs hl x hx
  refine Classical.byContradiction fun hn => ?_
  have h1 : (x :: a).Nodup := List.nodup_cons.mpr ⟨hn, ha⟩
  have h2 : ∀ y ∈ x :: a, y ∈ b := fun y hy => by
    rcases List.mem_cons.mp hy with rfl | hy
    · exact hx
    · exact hs y hy
  have h3 := len_sub h1 h2
  rw [List.length_cons] at h3
  omega
theorem alike_B {p mx my p' mx' my' : Int} {a b : Bk} (ha : GoodB p mx my a) (hb : GoodB p' mx' my' b) : alikeD (keysB a) (valsB a) (keysB b) (valsB b) = true ↔ ∀ q, coef a q = coef b q := by
  have nz : ∀ {p mx my : Int} {a : Bk}, GoodB p mx my a → ∀ {q : P2}, coef a q ≠ 0 ↔ q ∈ a.map (·.1) := fun {p mx my a} h {q} => by
    constructor
    · intro z
      exact Classical.byContradiction fun n => z (coef_out n)
    · intro m z
      have y := h.2 _ (coef_in m)
      unfold okT at y
      simp only at y
      omega
  unfold alikeD
  rw [Bool.and_eq_true, within_B, keysB_length, keysB_length, beq_iff_eq]
  constructor
  · rintro ⟨hl, h⟩ q
    by_cases hq : q ∈ a.map (·.1)
    · exact (h _ (coef_in hq)).2.symm
    · rw [coef_out hq]
      by_cases hq2 : q ∈ b.map (·.1)
      · exact absurd (nodup_sub_eq ha.1 hb.1 (fun x hx => (h _ (coef_in hx)).1) (by rw [List.length_map, List.length_map]; omega) q hq2) hq
      · rw [coef_out hq2]
  · intro h
    have sub : ∀ q, q ∈ a.map (·.1) ↔ q ∈ b.map (·.1) := fun q => by rw [← nz ha, ← nz hb, h q]
    refine ⟨?_, fun e he => ?_⟩
    · have pm : (a.map (·.1)).Perm (b.map (·.1)) := (List.perm_ext_iff_of_nodup ha.1 hb.1).mpr sub
      have := pm.length_eq
      rwa [List.length_map, List.length_map] at this
    · have m := List.mem_map_of_mem (f := fun e : P2 × Int => e.1) he
      exact ⟨(sub _).mp m, by rw [← h, coef_mem ha.1 he]⟩
theorem nums_B (b : Bk) : numsD (valsB b) := fun v hv => by
  obtain ⟨e, _, rfl⟩ := List.mem_map.mp hv
  exact ⟨_, rfl⟩
/-! ### equal polys -/
theorem eqvL_enc : ∀ as bs : List T3, eqvL (as.map encT) (bs.map encT) = decide (as = bs)
  | [], [] => rfl
  | [], b :: bs => rfl
  | a :: as, [] => rfl
  | a :: as, b :: bs => by
    rw [List.map_cons, List.map_cons]
    have e : eqvD (encT a) (encT b) = decide (a = b) := by
      unfold encT
      simp
      obtain ⟨a1, a2, a3⟩ := a
      obtain ⟨b1, b2, b3⟩ := b
      rw [Bool.eq_iff_iff]
      simp
    simp [e, eqvL_enc as bs]
theorem eqv_encP (as bs : List T3) : eqvD (encP as) (encP bs) = decide (as = bs) := by
  unfold encP
  simp [eqvL_enc]
def oneP : List T3 := [(0, 0, 1)]
theorem oneP_good {p : Int} (hp : 2 ≤ p) {m : Int} (hm : 0 ≤ m) : GoodP p m m oneP := by
  refine ⟨fun t ht => ?_, List.pairwise_singleton _ _⟩
  rw [oneP, List.mem_singleton] at ht
  subst ht
  unfold okT
  simp only
  omega
open Classical in
/-- a tuple of as many polys that, times the entries, come to one -/
noncomputable def onesD (p : Int) (tss : List (List T3)) (d : D) : Bool := decide (∃ uss : List (List T3), d = .tup (uss.map encP) ∧ uss.length = tss.length ∧ (∀ u ∈ uss, GoodP p 999 999 u) ∧ ∀ q, sumT tss uss q % p = cf oneP q)
theorem onesD_no {p : Int} {tss : List (List T3)} {d : D} (h : ∀ uss : List (List T3), d = .tup (uss.map encP) → uss.length = tss.length → (∀ u ∈ uss, GoodP p 999 999 u) → False) : onesD p tss d = false := by
  unfold onesD
  rw [decide_eq_false_iff_not]
  rintro ⟨uss, h1, h2, h3, _⟩
  exact h uss h1 h2 h3
open Classical in
theorem onesD_of {p : Int} {tss uss : List (List T3)} (h2 : uss.length = tss.length) (h3 : ∀ u ∈ uss, GoodP p 999 999 u) : onesD p tss (.tup (uss.map encP)) = true ↔ ∀ q, sumT tss uss q % p = cf oneP q := by
  unfold onesD
  rw [decide_eq_true_eq]
  constructor
  · rintro ⟨vss, h4, _, _, h5⟩
    injection h4 with h4
    rw [encPL_inj h4]
    exact h5
  · intro h
    exact ⟨uss, rfl, h2, h3, h⟩
theorem s__law_said {a b : Bool} {W R : D → Prop} (hR : R (.bl (a == b))) : pf__law_said [.bl a, .bl b] W R := by
  refine ⟨rfl, ?_⟩
  simpa [t__law_said, isTy, tyN_some] using hR
theorem s_are_ones {q row d : D} {W R : D → Prop} (hq : tyd q = true) (hr : judgeR row) (hd : judgeR d)
    (hb : ∀ p tss uss, q = .int p → row = .tup (tss.map encP) → d = .tup (uss.map encP) → (∀ t ∈ tss, GoodP p 999 999 t) → (∀ u ∈ uss, GoodP p 999 999 u) → ∃ m1 m2, Pairs p m1 m2 tss uss)
    (hR : if isPrm q = true then (match q with
      | .int p => if isRowD p row = true then ∀ tss, row = .tup (tss.map encP) → (∀ t ∈ tss, GoodP p 999 999 t) → R (.bl (onesD p tss d)) else W (.exc "BadRow" [])
      | _ => True) else W (.exc "BadPrime" [])) : pf_are_ones [q, row, d] W R := by
  refine ⟨rfl, ?_⟩
  unfold t_are_ones
  refine st_seq fun N0 hN0 => ?_
  simp
  refine s_need_row hq hr ?_
  by_cases hp : isPrm q = true
  · rw [if_pos hp] at hR ⊢
    cases q with
    | int p =>
      dsimp only at hR ⊢
      have p27 : 2 ≤ p ∧ p ≤ 7 := by
        simp [isPrm] at hp
        omega
      by_cases hw : isRowD p row = true
      · rw [if_pos hw] at hR ⊢
        refine hN0 _ _ ?_
        obtain ⟨tss, rfl, ht, htl⟩ : ∃ tss : List (List T3), row = .tup (tss.map encP) ∧ (∀ t ∈ tss, GoodP p 999 999 t) ∧ tss.length ≤ 4 := by
          cases row with
          | tup ds =>
            simp only [isRowD, Bool.and_eq_true, decide_eq_true_eq, List.all_eq_true] at hw
            obtain ⟨tss, rfl, g⟩ := polys_of hw.2
            exact ⟨tss, rfl, g, by simpa using hw.1.2⟩
          | _ => cases hw
        have hR := hR tss rfl ht
        refine st_seq fun N1 hN1 => ?_
        obtain ⟨td, ld⟩ := hd
        cases d with
        | tup ds =>
          obtain ⟨dl, dj⟩ := ld ds rfl
          simp [tyN_some, -lcD]
          by_cases hl : ds.length = tss.length
          · rw [if_pos (by omega)]
            refine lc_map (fun x => .bl (isPolyD p x)) ds [] (by rw [sizeLine_eq]; simp; omega) (fun x hx k1 hk => ?_) ?_
            · simp
              exact s_polys_right (dj x hx) hk
            · simp [blsD_bl]
              by_cases ha : ∀ x ∈ ds, isPolyD p x = true
              · have ha2 : ¬ ∃ x ∈ ds, isPolyD p x = false := fun ⟨x, hx, e⟩ => by rw [ha x hx] at e; cases e
                rw [if_pos ha]
                refine hN1 _ _ ?_
                obtain ⟨uss, rfl, hu⟩ := polys_of ha
                obtain ⟨m1, m2, hP⟩ := hb p tss uss rfl rfl rfl ht hu
                have hpm := hP.m
                simp [-lcD]
                refine lc_map (fun x => match x with | .tup ts => (match ts.filterMap decT with | b => encB b) | _ => .non) (tss.map encP) [] (by rw [sizeLine_eq]; simp; omega) (fun x hx k1 hk => ?_) ?_
                · obtain ⟨t, htm, rfl⟩ := List.mem_map.mp hx
                  simp
                  have lt := (hP.t t htm).2
                  refine s_book_of (ht t htm).2 (by omega) ?_
                  simp only [encP, decT_enc] at hk
                  exact hk
                · have key : ∀ l : List (List T3), (l.map encP).map (fun x => match x with | .tup ts => (match ts.filterMap decT with | b => encB b) | _ => .non) = l.map encBk := by
                    intro l
                    rw [List.map_map]
                    refine List.map_congr_left fun t _ => ?_
                    show encB ((t.map encT).filterMap decT) = _
                    rw [decT_enc]
                    rfl
                  rw [key, List.nil_append]
                  refine lc_map (fun x => match x with | .tup ts => (match ts.filterMap decT with | b => encB b) | _ => .non) (uss.map encP) [] (by rw [sizeLine_eq]; simp at dl ⊢; omega) (fun x hx k1 hk => ?_) ?_
                  · obtain ⟨t, htm, rfl⟩ := List.mem_map.mp hx
                    simp
                    have lt := (hP.u t htm).2
                    refine s_book_of (hu t htm).2 (by omega) ?_
                    simp only [encP, decT_enc] at hk
                    exact hk
                  · rw [key, List.nil_append]
                    refine s_sum_of p27.1 p27.2 hP (by omega) fun c hc hcq => ?_
                    have ob : GoodB p 0 0 [((0, 0), 1)] := (oneP_good p27.1 (Int.le_refl 0)).book
                    simp [encB]
                    refine ⟨⟨[.inl 0, .inl 0], rfl⟩, nums_B c, fun v hv => ⟨1, by simpa using hv⟩, ?_⟩
                    have e : alikeD (keysB c) (valsB c) [D.tup [.int 0, .int 0]] [D.int 1] = onesD p tss (.tup (uss.map encP)) := by
                      rw [Bool.eq_iff_iff]
                      have z := alike_B hc ob
                      have z2 := onesD_of (p := p) (tss := tss) (uss := uss) (by simpa using hl) hu
                      rw [z2]
                      refine Iff.trans z ⟨fun h q => ?_, fun h q => ?_⟩
                      · rw [← hcq q, h q]; rfl
                      · rw [hcq q, h q]; rfl
                    rw [e]
                    exact hR
              · have ha2 : ∃ x ∈ ds, isPolyD p x = false := by
                  simp only [Classical.not_forall] at ha
                  obtain ⟨x, hx, e⟩ := ha
                  exact ⟨x, hx, by simpa using e⟩
                rw [if_neg ha]
                rw [onesD_no fun uss e _ g => ?_] at hR
                · exact hR
                · injection e with e
                  subst e
                  obtain ⟨x, hx, ex⟩ := ha2
                  obtain ⟨u, hu, rfl⟩ := List.mem_map.mp hx
                  rw [isPoly_enc.mpr (g u hu)] at ex
                  cases ex
          · rw [if_neg (by omega)]
            rw [onesD_no fun uss e el g => ?_] at hR
            · exact hR
            · injection e with e
              subst e
              exact hl (by simpa using el)
        | _ => first | (simp [tyd, tyN] at td; done) | (rw [onesD_no (fun uss e _ _ => by cases e)] at hR; simpa [isTy, tyN_some] using hR)
      · rw [if_neg hw] at hR ⊢
        exact hR
    | _ => cases hp
  · rw [if_neg hp] at hR ⊢
    exact hR
end KC

set_option Elab.async false
set_option linter.all false
set_option maxRecDepth 100000
set_option maxHeartbeats 1000000
namespace KC
open PySem PySem.Spec PyProof.Rows L2 DL
/-! ### _law_row -/
def t__law_row : TSD :=
  (tSeqD (tSetD 3 (tLcDD (.one 4) [4] (tRng1D (tConsD (tCD (.int 2)) tNilD)) tYesD (tDrawn pf__law_draw (tConsD (tVarD 0) (tConsD (tOpD addD (tVarB 2) (tCD (.int 1))) tNilD)))))
  (tRetD (tCallD tupleD (tConsD (tLcDD (.one 4) [4] (tRng1D (tConsD (tDrawn pf__law_pick (tConsD (tVarD 0) (tConsD (tLstD (tConsD (tCD (.int 2)) (tConsD (tCD (.int 2)) (tConsD (tCD (.int 3)) (tConsD (tCD (.int 3)) (tConsD (tCD (.int 4)) tNilD)))))) tNilD))) tNilD)) tYesD (tDrawn pf__law_poly (tConsD (tVarD 0) (tConsD (tVarD 1) (tConsD (tOpD ixD (tVarB 3) (tCD (.int 0))) (tConsD (tOpD ixD (tVarB 3) (tCD (.int 1))) tNilD)))))) tNilD))))
structure pf__law_row (ds : List D) (c : Nat) (W : WD) (R : D → Nat → Prop) : Prop where
  len : ds.length = 3
  run : t__law_row (endS W R) (envAt 5 ds) c
theorem l__law_row (ds : List D) (c : Nat) (W : WD) (R : D → Nat → Prop) (h : pf__law_row ds c W R) : ds.length = 3 := h.1
theorem q__law_row (ds : List D) (c : Nat) (W : WD) (R : D → Nat → Prop) (h : pf__law_row ds c W R) : t__law_row (endS W R) (envAt 5 ds) c := h.2
/-! ### _law_bad_row -/
def t__law_bad_row : TSD :=
  (tSeqD (tSetD 2 (tDrawn pf__law_row (tConsD (tVarD 0) (tConsD (tVarD 1) (tConsD (tCD (.int 3)) tNilD)))))
  (tSeqD (tSetD 3 (tDrawn pf__law_draw (tConsD (tVarD 0) (tConsD (tCallD lenD (tConsD (tVarB 2) tNilD)) tNilD))))
  (tSeqD (tSetD 4 (tLstD (tConsD (tCD .non) (tConsD (tCD (.int 5)) (tConsD (tCallD listD (tConsD (tVarB 2) tNilD)) (tConsD (tSlD (tVarB 2) tNoPartD (tPartD (tCD (.int 1)))) (tConsD (tOpD repTD (tTupD (tConsD (tOpD ixD (tVarB 2) (tCD (.int 0))) tNilD)) (tCD (.int 5))) (tConsD (tTupD tNilD) (tConsD (tCD (.dic false [] [])) (tConsD (tCD (.str "row")) (tConsD (tOpD ixD (tVarB 2) (tCD (.int 0))) (tConsD (tOpD addD (tOpD addD (tSlD (tVarB 2) tNoPartD (tPartD (tVarD 3))) (tTupD (tConsD (tDrawn pf__law_no_poly (tConsD (tVarD 0) (tConsD (tVarD 1) tNilD))) tNilD))) (tSlD (tVarB 2) (tPartD (tOpD addD (tVarB 3) (tCD (.int 1)))) tNoPartD)) tNilD))))))))))))
  (tSeqD (tSetD 4 (tOpD addD (tVarB 4) (tLstD (tConsD (tOpD addD (tOpD addD (tSlD (tVarB 2) tNoPartD (tPartD (tVarD 3))) (tTupD (tConsD (tDrawn pf__law_no_poly (tConsD (tVarD 0) (tConsD (tVarD 1) tNilD))) tNilD))) (tSlD (tVarB 2) (tPartD (tOpD addD (tVarB 3) (tCD (.int 1)))) tNoPartD)) (tConsD (tOpD addD (tOpD addD (tSlD (tVarB 2) tNoPartD (tPartD (tVarD 3))) (tTupD (tConsD (tCallD listD (tConsD (tOpD ixD (tVarB 2) (tVarB 3)) tNilD)) tNilD))) (tSlD (tVarB 2) (tPartD (tOpD addD (tVarB 3) (tCD (.int 1)))) tNoPartD)) tNilD)))))
  (tRetD (tDrawn pf__law_pick (tConsD (tVarD 0) (tConsD (tLcDD (.one 5) [5] (tItD (tVarD 4)) (tNotD (tTruD (tCallP pf__law_is_row (tConsD (tVarD 1) (tConsD (tVarD 5) tNilD))))) (tVarD 5)) tNilD))))))))
structure pf__law_bad_row (ds : List D) (c : Nat) (W : WD) (R : D → Nat → Prop) : Prop where
  len : ds.length = 2
  run : t__law_bad_row (endS W R) (envAt 6 ds) c
theorem l__law_bad_row (ds : List D) (c : Nat) (W : WD) (R : D → Nat → Prop) (h : pf__law_bad_row ds c W R) : ds.length = 2 := h.1
theorem q__law_bad_row (ds : List D) (c : Nat) (W : WD) (R : D → Nat → Prop) (h : pf__law_bad_row ds c W R) : t__law_bad_row (endS W R) (envAt 6 ds) c := h.2
/-! ### _law_number -/
def t__law_number : TSD :=
  (tRetD (tIfD (tTestD (tOpD gtD (tVarB 0) (tCD (.int 0)))) (tTupD (tConsD (tTupD (tConsD (tCD (.int 0)) (tConsD (tCD (.int 0)) (tConsD (tVarD 0) tNilD)))) tNilD)) (tTupD tNilD)))
structure pf__law_number (ds : List D) (W R : D → Prop) : Prop where
  len : ds.length = 1
  run : t__law_number (endP W R) (envAt 1 ds) 0
theorem l__law_number (ds : List D) (W R : D → Prop) (h : pf__law_number ds W R) : ds.length = 1 := h.1
theorem q__law_number (ds : List D) (W R : D → Prop) (h : pf__law_number ds W R) : t__law_number (endP W R) (envAt 1 ds) 0 := h.2
/-! ### _law_are_ones -/
def t__law_are_ones : TSD :=
  (tSeqD (tIfSD (tOrD (tNotD (tTruD (tIsD .tup (tVarB 2)))) (tOrD (tTestD (tOpD neD (tCallD lenD (tConsD (tVarB 2) tNilD)) (tCallD lenD (tConsD (tVarB 1) tNilD)))) (tTestD (tOpD neD (tLcDD (.one 3) [3] (tItD (tVarD 2)) (tNotD (tTruD (tCallP pf__law_is_poly (tConsD (tVarD 0) (tConsD (tVarD 3) tNilD))))) (tCD (.int 1))) (tLstD tNilD)))))
  (tRetD (tCD (.bl false)))
  tNextD)
  (tRetD (tOpD eqD (tCallP pf__law_sum_of (tConsD (tVarD 0) (tConsD (tVarD 1) (tConsD (tVarD 2) tNilD)))) (tTupD (tConsD (tTupD (tConsD (tCD (.int 0)) (tConsD (tCD (.int 0)) (tConsD (tCD (.int 1)) tNilD)))) tNilD)))))
structure pf__law_are_ones (ds : List D) (W R : D → Prop) : Prop where
  len : ds.length = 3
  run : t__law_are_ones (endP W R) (envAt 4 ds) 0
theorem l__law_are_ones (ds : List D) (W R : D → Prop) (h : pf__law_are_ones ds W R) : ds.length = 3 := h.1
theorem q__law_are_ones (ds : List D) (W R : D → Prop) (h : pf__law_are_ones ds W R) : t__law_are_ones (endP W R) (envAt 4 ds) 0 := h.2
end KC
set_option Elab.async false
set_option linter.all false
set_option maxRecDepth 100000
set_option maxHeartbeats 1000000
namespace KC
open PySem PySem.Spec L2 DL
def numP (n : Int) : List T3 := if 0 < n then [(0, 0, n)] else []
theorem numP_good {p n m : Int} (h0 : 0 ≤ n) (h1 : n ≤ p - 1) (hm : 0 ≤ m) : GoodP p m m (numP n) := by
  unfold numP
  by_cases h : 0 < n
  · rw [if_pos h]
    refine ⟨fun t ht => ?_, List.pairwise_singleton _ _⟩
    rw [List.mem_singleton] at ht
    subst ht
    unfold okT
    simp only
    omega
  · rw [if_neg h]
    exact GoodP.nil
theorem s__law_number {n : Int} {W R : D → Prop} (hR : R (encP (numP n))) : pf__law_number [.int n] W R := by
  refine ⟨rfl, ?_⟩
  simp [t__law_number]
  unfold numP at hR
  by_cases h : 0 < n
  · rw [if_pos h] at hR
    simp [h]
    exact hR
  · rw [if_neg h] at hR
    simp [h]
    exact hR
/-- a list of drawn things: each keeps P, takes at most k draws -/
theorem lc_drawn {tg : Tg} {own : List Nat} {te : TED} {env : EnvD} {Q : D → Nat → Prop} {α : Type} (enc : α → D) (P : α → Prop) (k : Nat) :
    ∀ (ds : List D) (acc : List α) (c : Nat), acc.length + ds.length ≤ sizeLine → (∀ a ∈ acc, P a) →
    (∀ d ∈ ds, ∀ (c1 : Nat), c1 < c + k * ds.length → ∀ k1 : D → Nat → Prop, (∀ a c2, P a → c1 ≤ c2 → c2 ≤ c1 + k → k1 (enc a) c2) → tg.set d (wipeD env own) fun env1 => te env1 c1 noWD k1) →
    (∀ (as : List α) c2, (∀ a ∈ as, P a) → as.length = acc.length + ds.length → c ≤ c2 → c2 ≤ c + k * ds.length → Q (.lst (as.map enc)) c2) → 0 < k → lcD tg own tYesD te env Q ds (acc.map enc) c
  | [], acc, c, _, ha, _, q, _ => q acc c ha (by simp) (by omega) (by omega)
  | d :: ds, acc, c, hl, ha, h, q, hk => by
    rw [List.length_cons] at hl
    rw [List.length_cons, Nat.mul_succ] at q h
    have z := h d (List.mem_cons_self ..) c (by omega) (fun y c2 => (acc.map enc).length < sizeLine ∧ lcD tg own tYesD te env Q ds (acc.map enc ++ [y]) c2) fun a c2 pa h1 h2 => by
      refine ⟨by rw [List.length_map]; omega, ?_⟩
      have e : acc.map enc ++ [enc a] = (acc ++ [a]).map enc := by simp
      rw [e]
      refine lc_drawn enc P k ds (acc ++ [a]) c2 (by rw [List.length_append, List.length_singleton]; omega) (fun b hb => ?_) (fun x hx c3 hc3 => h x (List.mem_cons_of_mem _ hx) c3 (by omega)) (fun as c3 p1 p2 p3 p4 => q as c3 p1 (by rw [p2, List.length_append, List.length_singleton]; omega) (by omega) (by omega)) hk
      rcases List.mem_append.mp hb with hb | hb
      · exact ha b hb
      · rw [List.mem_singleton] at hb
        rw [hb]
        exact pa
    show tg.set d (wipeD env own) _
    exact Tg.set_imp z fun e he => by
      show (if true = true then te e c noWD (fun y c2 => (acc.map enc).length < sizeLine ∧ lcD tg own tYesD te env Q ds (acc.map enc ++ [y]) c2) else lcD tg own tYesD te env Q ds (acc.map enc) c)
      rw [if_pos rfl]
      exact he
theorem s__law_row {p : Int} {m : Nat} {c : Nat} {W : WD} {R : D → Nat → Prop} (hc : c + 200000 ≤ cap) (hp : 2 ≤ p) (hp7 : p ≤ 7) (hm : m ≤ 99) (hR : ∀ (tss : List (List T3)) (c' : Nat), 2 ≤ tss.length → tss.length ≤ 4 → (∀ t ∈ tss, GoodP p m m t) → c ≤ c' → c' ≤ c + 130000 → R (.tup (tss.map encP)) c') : pf__law_row [.st, .int p, .int m] c W R := by
  refine ⟨rfl, ?_⟩
  unfold t__law_row
  refine st_seq fun N0 hN0 => ?_
  simp [-lcD]
  have r2 : rngD 0 1 2 = [.int 0, .int 1] := rfl
  have hcap : cap = 1099511627776 := rfl
  refine ⟨by unfold smallI; omega, ?_⟩
  refine lc_drawn (fun n : Nat => .int n) (fun n => n ≤ m) 1 (rngD 0 1 2) [] c (by rw [r2, sizeLine_eq]; decide) (fun a ha => absurd ha List.not_mem_nil) (fun d hd c1 hc1 k1 hk => ?_) (fun as c2 ha hla h1 h2 => ?_) (by omega)
  · rw [r2] at hc1
    simp at hc1
    have e : (m : Int) + 1 = ((m + 1 : Nat) : Int) := by omega
    simp
    rw [e]
    exact draw_ok (by omega) (by omega) (by omega) fun v hv => hk v (c1 + 1) (by omega) (by omega) (by omega)
  · rw [r2] at hla h2
    match as, hla, ha with
    | [a, b], _, ha =>
      have a1 := ha a (by simp)
      have a2 := ha b (by simp)
      refine hN0 _ _ ?_
      simp at h2
      simp [-lcD]
      refine s__law_pick (by omega) (by simp) (by simp) fun d hd => ?_
      obtain ⟨n, rfl, n1, n2⟩ : ∃ n : Nat, d = .int n ∧ 2 ≤ n ∧ n ≤ 4 := by
        simp at hd
        rcases hd with rfl | rfl | rfl
        · exact ⟨2, rfl, by omega, by omega⟩
        · exact ⟨3, rfl, by omega, by omega⟩
        · exact ⟨4, rfl, by omega, by omega⟩
      simp [-lcD]
      have rl : (rngD 0 1 n).length = n := rngD_length ..
      refine ⟨by unfold smallI; omega, ?_⟩
      refine lc_drawn encP (fun ts => GoodP p m m ts) 30000 (rngD 0 1 n) [] (c2 + 1) (by rw [rl, sizeLine_eq]; simp; omega) (fun a ha => absurd ha List.not_mem_nil) (fun d hd c1 hc1 k1 hk => ?_) (fun as c3 ha hla h3 h4 => ?_) (by omega)
      · rw [rl] at hc1
        have e0 : atI [D.int a, D.int b] 0 = some (.int a) := rfl
        have e1 : atI [D.int a, D.int b] 1 = some (.int b) := rfl
        simp [e0, e1]
        refine s__law_poly (mx := a) (my := b) (by omega) hp hp7 (by omega) (by omega) fun ts c4 hg h5 h6 => hk ts c4 (hg.mono (by omega) (by omega)) h5 h6
      · rw [rl] at hla h4
        simp at hla
        simp
        exact hR as c3 (by omega) (by omega) ha (by omega) (by omega)
end KC
set_option Elab.async false
set_option linter.all false
set_option maxRecDepth 100000
set_option maxHeartbeats 1000000
namespace KC
open PySem PySem.Spec L2 DL
theorem judgeR_tup {ds : List D} (h : ∀ x ∈ ds, judge x) (hl : ds.length ≤ 1000000) : judgeR (.tup ds) := ⟨rfl, fun es e => by cases e; exact ⟨hl, h⟩⟩
theorem judgeR_other {d : D} (h : tyd d = true) (n : ∀ ds, d ≠ .tup ds) : judgeR d := ⟨h, fun ds e => absurd e (n ds)⟩
theorem judge_encT (t : T3) : judge (encT t) := judge_tup (fun x hx => by
  simp only [List.mem_cons, List.not_mem_nil, or_false] at hx
  rcases hx with rfl | rfl | rfl <;> rfl) (by simp)
theorem judgeR_encP {ts : List T3} (h : ts.length ≤ 1000000) : judgeR (encP ts) := judgeR_tup (fun x hx => by
  obtain ⟨t, _, rfl⟩ := List.mem_map.mp hx
  exact judge_encT t) (by rw [List.length_map]; exact h)
theorem s__law_bad_row {p : Int} {c : Nat} {W : WD} {R : D → Nat → Prop} (hc : c + 400000 ≤ cap) (hp : 2 ≤ p) (hp7 : p ≤ 7) (hR : ∀ d c', judgeR d → isRowD p d = false → c ≤ c' → c' ≤ c + 400000 → R d c') : pf__law_bad_row [.st, .int p] c W R := by
  refine ⟨rfl, ?_⟩
  unfold t__law_bad_row
  refine st_seq fun N0 hN0 => ?_
  simp
  refine s__law_row (m := 3) (by omega) hp hp7 (by omega) fun tss c1 l1 l2 hg h1 h2 => hN0 _ _ ?_
  refine st_seq fun N1 hN1 => ?_
  simp
  refine draw_ok (by omega) (by omega) (by omega) fun v hv => hN1 _ _ ?_
  have hlen : ∀ t ∈ tss, t.length ≤ 16 := fun t ht => (hg t ht).length
  have hjs : ∀ x ∈ tss.map encP, judge x := fun x hx => by
    obtain ⟨t, ht, rfl⟩ := List.mem_map.mp hx
    exact judge_enc (by have := hlen t ht; omega)
  have hl : (tss.map encP).length = tss.length := List.length_map _
  have jc : ∀ (a b : Option Int) (ys : List D), (∀ y ∈ ys, judge y) → ys.length ≤ 2 → ∀ (a2 b2 : Option Int), judgeR (.tup ((cutD (tss.map encP) a b ++ ys) ++ cutD (tss.map encP) a2 b2)) := fun a b ys hy ly a2 b2 => by
    refine judgeR_tup (fun x hx => ?_) ?_
    · rcases List.mem_append.mp hx with hx | hx
      · rcases List.mem_append.mp hx with hx | hx
        · exact hjs x (cut_mem hx)
        · exact hy x hx
      · exact hjs x (cut_mem hx)
    · have z1 := cut_len (tss.map encP) a b
      have z2 := cut_len (tss.map encP) a2 b2
      rw [List.length_append, List.length_append]
      omega
  match tss, l1, hg, hlen, hjs, hl, jc with
  | t0 :: tr, l1, hg, hlen, hjs, hl, jc =>
    have a0 : atI (encP t0 :: tr.map encP) 0 = some (encP t0) := atI_nat (j := 0) rfl
    obtain ⟨tv, htv, atv⟩ : ∃ t, t ∈ t0 :: tr ∧ atI ((t0 :: tr).map encP) (v : Int) = some (encP t) := by
      have hv2 : v < ((t0 :: tr).map encP).length := by rw [hl]; exact hv
      have e := atI_nat (List.getElem?_eq_getElem hv2)
      rw [List.getElem_map] at e
      exact ⟨_, List.getElem_mem _, e⟩
    refine st_seq fun N2 hN2 => ?_
    simp [a0]
    refine s__law_no_poly (by omega) hp hp7 fun d c2 jd _ h3 h4 => ?_
    have ht0 := judgeR_encP (ts := t0) (by have := hlen t0 (List.mem_cons_self ..); omega)
    have hl2 : (cutD (encP t0 :: tr.map encP) none (some (v : Int))).length ≤ 4 := by
      have := cut_len (encP t0 :: tr.map encP) none (some (v : Int))
      rw [List.map_cons] at hl
      rw [hl] at this
      exact Nat.le_trans this (by simpa using l2)
    have hl3 : (cutD (encP t0 :: tr.map encP) (some ((v : Int) + 1)) none).length ≤ 4 := by
      have := cut_len (encP t0 :: tr.map encP) (some ((v : Int) + 1)) none
      rw [List.map_cons] at hl
      rw [hl] at this
      exact Nat.le_trans this (by simpa using l2)
    refine ⟨by rw [sizeLine_eq]; omega, by rw [sizeLine_eq]; omega, hN2 _ _ ?_⟩
    refine st_seq fun N3 hN3 => ?_
    simp [-lcD]
    refine s__law_no_poly (by omega) hp hp7 fun d2 c3 jd2 _ h5 h6 => ?_
    have atv' : atI (encP t0 :: tr.map encP) (v : Int) = some (encP tv) := atv
    have e9 : ∃ ts : List D, encP tv = .tup ts ∧ ts.length ≤ 16 := ⟨_, rfl, by rw [List.length_map]; exact hlen tv htv⟩
    obtain ⟨tl, e9, e9l⟩ := e9
    simp [-lcD, atv', e9]
    refine ⟨by rw [sizeLine_eq]; omega, by rw [sizeLine_eq]; omega, by rw [sizeLine_eq]; omega, by rw [sizeLine_eq]; omega, by rw [sizeLine_eq]; omega, hN3 _ _ ?_⟩
    have jc1 : ∀ y, judge y → judgeR (.tup (cutD (encP t0 :: tr.map encP) none (some (v : Int)) ++ y :: cutD (encP t0 :: tr.map encP) (some ((v : Int) + 1)) none)) := fun y hy => by
      have := jc none (some (v : Int)) [y] (fun z hz => by rw [List.mem_singleton] at hz; rw [hz]; exact hy) (by simp) (some ((v : Int) + 1)) none
      rw [List.append_assoc] at this
      exact this
    have j1 := jc1 d jd
    have j2 := jc1 d2 jd2
    have j3 := jc1 (.lst tl) (judge_other rfl fun ds e => by cases e)
    have j4 : judgeR (.tup (cutD (encP t0 :: tr.map encP) none (some 1))) := judgeR_tup (fun x hx => hjs x (cut_mem hx)) (by
      have := cut_len (encP t0 :: tr.map encP) none (some 1)
      rw [List.map_cons] at hl
      rw [hl] at this
      exact Nat.le_trans this (by simp at l2 ⊢; omega))
    have j0 : judge (encP t0) := hjs _ (List.mem_cons_self ..)
    have j5 : judgeR (.tup [encP t0, encP t0, encP t0, encP t0, encP t0]) := judgeR_tup (fun x hx => by
      simp only [List.mem_cons, List.not_mem_nil, or_false, or_self] at hx
      rw [hx]
      exact j0) (by simp)
    have j6 : judgeR (.tup []) := judgeR_tup (fun x hx => absurd hx List.not_mem_nil) (by simp)
    have jall : ∀ (items : List D), items.length = 12 → (∀ x ∈ items, judgeR x) → D.non ∈ items → ∀ s1 s2 s3 s5 : Slot, tRetD
          (tDrawn pf__law_pick
            (tConsD (tVarD 0)
              (tConsD
                (tLcDD (Tg.one 5) [5] (tItD (tVarD 4))
                  (tNotD (tTruD (tCallP pf__law_is_row (tConsD (tVarD 1) (tConsD (tVarD 5) tNilD))))) (tVarD 5))
                tNilD)))
        (endS W R) [Slot.val D.st, Slot.val (D.int p), s1, s2, .val (.lst items), s5] c3 := by
      intro items hi ha hn s1 s2 s3 s5
      simp [-lcD]
      refine lc_pure (fun x => !isRowD p x) (fun x => x) items [] (by rw [sizeLine_eq]; simp; omega) (fun x hx k0 k1 hk => ?_) ?_
      · simp
        refine s__law_is_row (ha x hx) ?_
        simpa using hk
      · have hm : D.non ∈ items.filter fun x => !isRowD p x := List.mem_filter.mpr ⟨hn, rfl⟩
        have hlf := List.length_filter_le (fun x => !isRowD p x) items
        simp only [List.nil_append, List.map_id']
        refine s__law_pick (by omega) (List.ne_nil_of_mem hm) (by omega) fun x hx => ?_
        obtain ⟨hx1, hx2⟩ := List.mem_filter.mp hx
        exact hR x _ (ha x hx1) (by simpa using hx2) (by omega) (by omega)
    refine jall _ rfl (fun x hx => ?_) (List.mem_cons_self ..) _ _ .un _
    simp only [List.mem_cons, List.not_mem_nil, or_false] at hx
    rcases hx with rfl | rfl | rfl | rfl | rfl | rfl | rfl | rfl | rfl | rfl | rfl | rfl
    · exact judgeR_other rfl (fun ds e => by cases e)
    · exact judgeR_other rfl (fun ds e => by cases e)
    · exact judgeR_other rfl (fun ds e => by cases e)
    · exact j4
    · exact j5
    · exact j6
    · exact judgeR_other rfl (fun ds e => by cases e)
    · exact judgeR_other rfl (fun ds e => by cases e)
    · exact ht0
    · exact j1
    · exact j2
    · exact j3
theorem s_are_ones_bad {q row d : D} {W R : D → Prop} (hq : tyd q = true) (hr : judgeR row)
    (hR : if isPrm q = true then (match q with
      | .int p => isRowD p row = false ∧ W (.exc "BadRow" [])
      | _ => True) else W (.exc "BadPrime" [])) : pf_are_ones [q, row, d] W R := by
  refine ⟨rfl, ?_⟩
  unfold t_are_ones
  refine st_seq fun N0 hN0 => ?_
  simp
  refine s_need_row hq hr ?_
  by_cases hp : isPrm q = true
  · rw [if_pos hp] at hR ⊢
    cases q with
    | int p =>
      dsimp only at hR ⊢
      rw [if_neg (by rw [hR.1]; exact Bool.false_ne_true)]
      exact hR.2
    | _ => cases hp
  · rw [if_neg hp] at hR ⊢
    exact hR
theorem s__law_are_ones {p : Int} {tss : List (List T3)} {d : D} {W R : D → Prop} (hp : 2 ≤ p) (hp7 : p ≤ 7) (hd : judgeR d)
    (ht : ∀ t ∈ tss, GoodP p 999 999 t) (hl2 : tss.length ≤ 100)
    (hb : ∀ uss, d = .tup (uss.map encP) → (∀ u ∈ uss, GoodP p 999 999 u) → ∃ m1 m2, Pairs p m1 m2 tss uss)
    (hR : R (.bl (onesD p tss d))) : pf__law_are_ones [.int p, .tup (tss.map encP), d] W R := by
  refine ⟨rfl, ?_⟩
  unfold t__law_are_ones
  obtain ⟨td, ld⟩ := hd
  cases d with
  | tup ds =>
    obtain ⟨dl, dj⟩ := ld ds rfl
    simp [tyN_some, -lcD]
    by_cases hl : ds.length = tss.length
    · rw [if_pos (by omega)]
      refine lc_pure (fun x => !isPolyD p x) (fun _ => .int 1) ds [] (by rw [sizeLine_eq]; simp; omega) (fun x hx k0 k1 hk => ?_) ?_
      · simp
        refine s__law_is_poly (dj x hx) ?_
        simpa using hk
      · simp only [List.nil_append]
        refine ⟨by simp, ?_⟩
        have f1 : eqvD (.lst ((ds.filter fun x => !isPolyD p x).map fun _ => D.int 1)) (.lst []) = ds.all fun x => !!isPolyD p x := by
          simp
          rw [filter_one]
          simp
        simp only [List.nil_append, f1]
        by_cases ha : ∀ x ∈ ds, isPolyD p x = true
        · rw [if_pos (by simpa using ha)]
          obtain ⟨uss, rfl, hu⟩ := polys_of ha
          obtain ⟨m1, m2, hP⟩ := hb uss rfl hu
          refine s__law_sum_of (t := true) hp hp7 hP hl2 fun ws hw hq => ⟨shaped_encP _, ?_⟩
          have e : eqvD (encP ws) (.tup [.tup [.int 0, .int 0, .int 1]]) = onesD p tss (.tup (uss.map encP)) := by
            show eqvD (encP ws) (encP oneP) = _
            rw [eqv_encP, Bool.eq_iff_iff, decide_eq_true_eq, onesD_of (by simpa using hl) hu]
            constructor
            · rintro rfl q
              exact (hq q).symm
            · intro h
              exact poly_ext hw (oneP_good hp (Int.le_refl 0)) fun q => (hq q).trans (h q)
          rw [e]
          exact hR
        · rw [if_neg (by simpa using ha)]
          rw [onesD_no fun uss e _ g => ?_] at hR
          · exact hR
          · injection e with e
            subst e
            refine ha fun x hx => ?_
            obtain ⟨u, hu, rfl⟩ := List.mem_map.mp hx
            exact isPoly_enc.mpr (g u hu)
    · rw [onesD_no fun uss e el g => ?_] at hR
      · rw [if_neg (by omega)]
        exact hR
      · injection e with e
        subst e
        exact hl (by simpa using el)
  | _ => first | (simp [tyd, tyN] at td; done) | (rw [onesD_no (fun uss e _ _ => by cases e)] at hR; simpa [isTy, tyN_some] using hR)
end KC
set_option Elab.async false
set_option linter.all false
set_option maxRecDepth 100000
set_option maxHeartbeats 1000000
namespace DL
open PySem PySem.Spec L2 PyProof.Rows
theorem its_laid {Z : Wd} {H0 : Hp} {σ : L2.St} {Hf H : Hp} {env : EnvD} {p : Addr} {o : HO} (hp : H p = none) : ∀ {ss : List Slot} {vs : List V}, ItsRp Z H0 σ env Hf H ss vs → ItsRp Z H0 σ env Hf (upd H p o) ss vs
  | [], vs, h => h
  | .val _ :: r, vs, ⟨w, ws, e, h1, h2⟩ => ⟨w, ws, e, h1, its_laid hp h2⟩
  | .own _ :: r, vs, ⟨a, ws, e, f, h1, h2, h3⟩ => ⟨a, ws, e, f, by
    obtain ⟨ob, hob⟩ := h1.some
    refine OwnRp.at ?_ h1
    have : a ≠ p := fun e => by rw [e, hp] at hob; cases hob
    rw [upd_ne this], h2, its_laid hp h3⟩
section
variable {X : Cx} {F : Fd} {u : TSlD} {pos : Pos}
/-- a, b, .. = x, y, .. over the pair, the things of its own kept -/
theorem ds_parC {es : List Expr} {target : Expr} {k : Nat} {p2 : Pos} (is : List Nat) {K : PySem.W.Frag} (ha : DAI X F es u) (hg : PG X target ((Tg.tup is).g K)) (hl : is.length ≤ 1000) (hs : swapsWithSole [target] (.Tuple es k p2) pos.line X.env = pure false := by rfl) (hw : swappedStores [target] (.Tuple es k p2) X.env = pure none := by rfl)
    (h1 : (assignEach [target] X.env).map (·.2) = [assign target X.env] := by rfl) : DS X F (.Assign [target] (.Tuple es k p2) pos) (tParD is u) :=
  PS.imp (ps_asg (pe_tup ha) hg hs hw h1) fun D0 σ H ⟨Hf, env, c, Dd, S, L, h⟩ => ⟨Hf, env, c, _, _, S, L.xl σ env, h, fun vs H' Hf' c' ss S' s1 its ⟨hn, q⟩ => by
    have hv := its_length its
    have hvl : vs.length = is.length := by rw [← hv]; exact hn
    refine ⟨by rw [sizeLine_eq]; omega, fun p hp => ?_⟩
    exact ⟨p, vs, rfl, SqT.of upd_same, hvl, gNames_use hvl (L.nx _ _ Hf' _ c' (sim_its (is := is) (S'.laid hp _) (its_laid hp its)) s1 q)⟩⟩
end
end DL

set_option Elab.async false
set_option linter.all false
set_option maxRecDepth 100000
set_option maxHeartbeats 1000000
namespace KC
open PySem PySem.Spec PyProof.Rows L2 DL
/-! ### back_of -/
def t_back_of : TSD :=
  (tRetD (tOpD ixD (tLcDD (.one 2) [2] (tRng2D (tConsD (tCD (.int 1)) (tConsD (tVarD 0) tNilD))) (tTestD (tOpD eqD (tOpD modD (tOpD mulD (tVarB 2) (tVarB 1)) (tVarB 0)) (tCD (.int 1)))) (tVarD 2)) (tCD (.int 0))))
structure pf_back_of (ds : List D) (W R : D → Prop) : Prop where
  len : ds.length = 2
  run : t_back_of (endP W R) (envAt 3 ds) 0
theorem l_back_of (ds : List D) (W R : D → Prop) (h : pf_back_of ds W R) : ds.length = 2 := h.1
theorem q_back_of (ds : List D) (W R : D → Prop) (h : pf_back_of ds W R) : t_back_of (endP W R) (envAt 3 ds) 0 := h.2
/-! ### need_x_poly -/
def t_need_x_poly : TSD :=
  (tSeqD (tDropD (tCallP pf_need_poly (tConsD (tVarD 0) (tConsD (tVarD 1) tNilD))))
  (tIfSD (tTestD (tOpD neD (tLcDD (.one 2) [2] (tItD (tVarD 1)) (tTestD (tOpD neD (tOpD ixD (tVarB 2) (tCD (.int 1))) (tCD (.int 0)))) (tCD (.int 1))) (tLstD tNilD)))
  (tRaiseD "BadPoly")
  tNextD))
structure pf_need_x_poly (ds : List D) (W R : D → Prop) : Prop where
  len : ds.length = 2
  run : t_need_x_poly (endP W R) (envAt 3 ds) 0
theorem l_need_x_poly (ds : List D) (W R : D → Prop) (h : pf_need_x_poly ds W R) : ds.length = 2 := h.1
theorem q_need_x_poly (ds : List D) (W R : D → Prop) (h : pf_need_x_poly ds W R) : t_need_x_poly (endP W R) (envAt 3 ds) 0 := h.2
/-! ### moved_up -/
def t_moved_up : TSD :=
  (tRetD (tDcD true (.one 2) [2] (tItD (tVarD 0)) tYesD (tTupD (tConsD (tOpD addD (tOpD ixD (tVarB 2) (tCD (.int 0))) (tVarB 1)) (tConsD (tOpD ixD (tVarB 2) (tCD (.int 1))) tNilD))) (tOpD ixD (tVarB 0) (tVarB 2))))
structure pf_moved_up (ds : List D) (W R : D → Prop) : Prop where
  len : ds.length = 2
  run : t_moved_up (endP W R) (envAt 3 ds) 0
theorem l_moved_up (ds : List D) (W R : D → Prop) (h : pf_moved_up ds W R) : ds.length = 2 := h.1
theorem q_moved_up (ds : List D) (W R : D → Prop) (h : pf_moved_up ds W R) : t_moved_up (endP W R) (envAt 3 ds) 0 := h.2
/-! ### divide -/
def t_divide : TSD :=
  (tSeqD (tParD [3, 4, 5] (tConsO (tCD (.dic true [] [])) (tConsV (tCallD dict1D (tConsD (tVarB 1) tNilD)) (tConsV (tCallP pf_highest (tConsD (tVarD 2) (tConsD (tCD (.int 0)) tNilD))) tNilI))))
  (tSeqD (tSetD 6 (tCallP pf_back_of (tConsD (tVarD 0) (tConsD (tOpD ixD (tVarB 2) (tTupD (tConsD (tVarD 5) (tConsD (tCD (.int 0)) tNilD)))) tNilD))))
  (tSeqD (tWhileD (tTestD (tOpD geD (tCallP pf_highest (tConsD (tVarD 4) (tConsD (tCD (.int 0)) tNilD))) (tVarB 5)))
  (tSeqD (tSetD 7 (tCallP pf_highest (tConsD (tVarD 4) (tConsD (tCD (.int 0)) tNilD))))
  (tSeqD (tSetD 8 (tOpD modD (tOpD mulD (tOpD ixD (tVarB 4) (tTupD (tConsD (tVarD 7) (tConsD (tCD (.int 0)) tNilD)))) (tVarB 6)) (tVarB 0)))
  (tSeqD (tPutD 3 (tTupD (tConsD (tOpD subD (tVarB 7) (tVarB 5)) (tConsD (tCD (.int 0)) tNilD))) (tVarD 8))
  (tSetD 4 (tCallP pf_added (tConsD (tVarD 0) (tConsD (tVarD 4) (tConsD (tCallP pf_moved_up (tConsD (tVarD 2) (tConsD (tOpD subD (tVarB 7) (tVarB 5)) tNilD))) (tConsD (tUnD negD (tVarB 8)) tNilD))))))))))
  (tFrzD 3 (tRetD (tTupD (tConsD (tVarD 3) (tConsD (tVarD 4) tNilD))))))))
structure pf_divide (ds : List D) (W R : D → Prop) : Prop where
  len : ds.length = 3
  run : t_divide (endP W R) (envAt 9 ds) 0
theorem l_divide (ds : List D) (W R : D → Prop) (h : pf_divide ds W R) : ds.length = 3 := h.1
theorem q_divide (ds : List D) (W R : D → Prop) (h : pf_divide ds W R) : t_divide (endP W R) (envAt 9 ds) 0 := h.2
/-! ### divided -/
def t_divided : TSD :=
  (tSeqD (tDropD (tCallP pf_need_prime (tConsD (tVarD 0) tNilD)))
  (tSeqD (tDropD (tCallP pf_need_x_poly (tConsD (tVarD 0) (tConsD (tVarD 1) tNilD))))
  (tSeqD (tDropD (tCallP pf_need_x_poly (tConsD (tVarD 0) (tConsD (tVarD 2) tNilD))))
  (tSeqD (tIfSD (tTestD (tOpD eqD (tVarB 2) (tTupD tNilD)))
  (tRaiseD "BadPoly")
  tNextD)
  (tSeqD (tTgD (.tup [3, 4]) (tCallP pf_divide (tConsD (tVarD 0) (tConsD (tCallP pf_book_of (tConsD (tVarD 1) tNilD)) (tConsD (tCallP pf_book_of (tConsD (tVarD 2) tNilD)) tNilD)))))
  (tRetD (tTupD (tConsD (tCallP pf_poly_of (tConsD (tVarD 3) tNilD)) (tConsD (tCallP pf_poly_of (tConsD (tVarD 4) tNilD)) tNilD)))))))))
structure pf_divided (ds : List D) (W R : D → Prop) : Prop where
  len : ds.length = 3
  run : t_divided (endP W R) (envAt 5 ds) 0
theorem l_divided (ds : List D) (W R : D → Prop) (h : pf_divided ds W R) : ds.length = 3 := h.1
theorem q_divided (ds : List D) (W R : D → Prop) (h : pf_divided ds W R) : t_divided (endP W R) (envAt 5 ds) 0 := h.2
/-! ### _law_x_poly -/
def t__law_x_poly : TSD :=
  (tSeqD (tSetO 3 (tLcDD (.one 4) [4] (tRng1D (tConsD (tOpD addD (tCD (.int 1)) (tDrawn pf__law_draw (tConsD (tVarD 0) (tConsD (tOpD addD (tVarB 2) (tCD (.int 1))) tNilD)))) tNilD)) tYesD (tTupD (tConsD (tVarD 4) (tConsD (tCD (.int 0)) (tConsD (tDrawn pf__law_draw (tConsD (tVarD 0) (tConsD (tVarD 1) tNilD))) tNilD))))))
  (tFrzD 3 (tRetD (tCallD tupleD (tConsD (tLcDD (.one 5) [5] (tItD (tVarD 3)) (tTestD (tOpD neD (tOpD ixD (tVarB 5) (tCD (.int 2))) (tCD (.int 0)))) (tVarD 5)) tNilD)))))
structure pf__law_x_poly (ds : List D) (c : Nat) (W : WD) (R : D → Nat → Prop) : Prop where
  len : ds.length = 3
  run : t__law_x_poly (endS W R) (envAt 6 ds) c
theorem l__law_x_poly (ds : List D) (c : Nat) (W : WD) (R : D → Nat → Prop) (h : pf__law_x_poly ds c W R) : ds.length = 3 := h.1
theorem q__law_x_poly (ds : List D) (c : Nat) (W : WD) (R : D → Nat → Prop) (h : pf__law_x_poly ds c W R) : t__law_x_poly (endS W R) (envAt 6 ds) c := h.2
/-! ### _law_divided -/
def t__law_divided : TSD :=
  (tSeqD (tParD [3, 4, 5] (tConsO (tCD (.dic true [] [])) (tConsV (tCallP pf__law_dict (tConsD (tVarD 1) tNilD)) (tConsV (tCallP pf__law_high (tConsD (tVarD 2) (tConsD (tCD (.int 0)) tNilD))) tNilI))))
  (tSeqD (tSetD 6 (tOpD ixD (tLcDD (.one 10) [10] (tRng2D (tConsD (tCD (.int 1)) (tConsD (tVarD 0) tNilD))) (tTestD (tOpD eqD (tOpD modD (tCallD int1D (tConsD (tOpD mulD (tVarB 10) (tOpD ixD (tOpD ixD (tVarB 2) (tUnD negD (tCD (.int 1)))) (tCD (.int 2)))) tNilD)) (tVarB 0)) (tCD (.int 1)))) (tVarD 10)) (tCD (.int 0))))
  (tSeqD (tForD (.one 7) (tRng3D (tConsD (tCallP pf__law_high (tConsD (tVarD 1) (tConsD (tCD (.int 0)) tNilD))) (tConsD (tOpD subD (tVarB 5) (tCD (.int 1))) (tConsD (tUnD negD (tCD (.int 1))) tNilD))))
  (tSeqD (tSetD 8 (tOpD modD (tCallD int1D (tConsD (tOpD mulD (tGet2 (tVarB 4) (tTupD (tConsD (tVarD 7) (tConsD (tCD (.int 0)) tNilD))) (tCD (.int 0))) (tVarB 6)) tNilD)) (tVarB 0)))
  (tIfSD (tTestD (tOpD neD (tVarB 8) (tCD (.int 0))))
  (tSeqD (tPutD 3 (tTupD (tConsD (tOpD subD (tVarB 7) (tVarB 5)) (tConsD (tCD (.int 0)) tNilD))) (tVarD 8))
  (tSeqD (tSetD 9 (tCallD dict1D (tConsD (tLcDD (.one 11) [11] (tItD (tVarD 2)) tYesD (tTupD (tConsD (tTupD (tConsD (tOpD subD (tOpD addD (tOpD ixD (tVarB 11) (tCD (.int 0))) (tVarB 7)) (tVarB 5)) (tConsD (tCD (.int 0)) tNilD))) (tConsD (tOpD ixD (tVarB 11) (tCD (.int 2))) tNilD)))) tNilD)))
  (tSetD 4 (tCallP pf__law_added (tConsD (tVarD 0) (tConsD (tVarD 4) (tConsD (tVarD 9) (tConsD (tOpD subD (tVarB 0) (tVarB 8)) tNilD))))))))
  tNextD)))
  (tFrzD 3 (tRetD (tTupD (tConsD (tCallP pf__law_poly_of (tConsD (tVarD 3) tNilD)) (tConsD (tCallP pf__law_poly_of (tConsD (tVarD 4) tNilD)) tNilD))))))))
structure pf__law_divided (ds : List D) (W R : D → Prop) : Prop where
  len : ds.length = 3
  run : t__law_divided (endP W R) (envAt 12 ds) 0
theorem l__law_divided (ds : List D) (W R : D → Prop) (h : pf__law_divided ds W R) : ds.length = 3 := h.1
theorem q__law_divided (ds : List D) (W R : D → Prop) (h : pf__law_divided ds W R) : t__law_divided (endP W R) (envAt 12 ds) 0 := h.2
end KC
set_option Elab.async false
set_option linter.all false
set_option maxRecDepth 100000
set_option maxHeartbeats 1000000
namespace KC
open PySem PySem.Spec L2 DL
def backsP (p n : Int) : List D := (rngD 1 1 (p - 1).toNat).filter fun d => match d with | .int i => decide (i * n % p = 1) | _ => false
theorem backsP_ok {p n : Int} (hp : p = 2 ∨ p = 3 ∨ p = 5 ∨ p = 7) (h1 : 1 ≤ n) (h2 : n ≤ p - 1) : ∃ (b : Int) (r : List D), backsP p n = .int b :: r ∧ b * n % p = 1 ∧ 1 ≤ b ∧ b ≤ p - 1 := by
  have hn : n = 1 ∨ n = 2 ∨ n = 3 ∨ n = 4 ∨ n = 5 ∨ n = 6 := by omega
  rcases hp with rfl | rfl | rfl | rfl <;> rcases hn with rfl | rfl | rfl | rfl | rfl | rfl <;> first | omega | exact ⟨1, _, rfl, by omega, by omega, by omega⟩ | exact ⟨2, _, rfl, by omega, by omega, by omega⟩ | exact ⟨3, _, rfl, by omega, by omega, by omega⟩ | exact ⟨4, _, rfl, by omega, by omega, by omega⟩ | exact ⟨5, _, rfl, by omega, by omega, by omega⟩ | exact ⟨6, _, rfl, by omega, by omega, by omega⟩
/-- the back of a number: the first that the search finds -/
noncomputable def bk (p n : Int) : Int := match backsP p n with | .int b :: _ => b | _ => 0
theorem bk_ok {p n : Int} (hp : p = 2 ∨ p = 3 ∨ p = 5 ∨ p = 7) (h1 : 1 ≤ n) (h2 : n ≤ p - 1) : (∃ r, backsP p n = .int (bk p n) :: r) ∧ bk p n * n % p = 1 ∧ 1 ≤ bk p n ∧ bk p n ≤ p - 1 := by
  obtain ⟨b, r, e, h3⟩ := backsP_ok hp h1 h2
  have : bk p n = b := by unfold bk; rw [e]
  rw [this]
  exact ⟨⟨r, e⟩, h3⟩
theorem rng_mem {p : Int} : ∀ x ∈ rngD 1 1 (p - 1).toNat, ∃ i : Int, x = .int i ∧ 1 ≤ i ∧ i ≤ p - 1 := fun x hx => by
  rw [rng_eq] at hx
  obtain ⟨k, hk, rfl⟩ := List.mem_map.mp hx
  rw [List.mem_range] at hk
  exact ⟨1 + k, rfl, by omega, by omega⟩
theorem s_back_of {p n : Int} {W R : D → Prop} (hp : p = 2 ∨ p = 3 ∨ p = 5 ∨ p = 7) (h1 : 1 ≤ n) (h2 : n ≤ p - 1) (hR : R (.int (bk p n))) : pf_back_of [.int p, .int n] W R := by
  obtain ⟨⟨br, hb⟩, _⟩ := bk_ok hp h1 h2
  refine ⟨rfl, ?_⟩
  simp [-lcD, t_back_of]
  refine ⟨by unfold smallI; omega, by unfold smallI; omega, ?_⟩
  rw [show p.toNat - 1 = (p - 1).toNat by omega]
  refine lc_pure (fun d => match d with | .int i => decide (i * n % p = 1) | _ => false) (fun x => x) (rngD 1 1 (p - 1).toNat) [] (by rw [rngD_length, sizeLine_eq]; simp; omega) (fun x hx k0 k1 hk => ?_) ?_
  · obtain ⟨i, rfl, i1, i2⟩ := rng_mem x hx
    simp
    refine ⟨mul_ok (by omega) (by omega), by omega, ?_⟩
    simpa using hk
  · have hf : (rngD 1 1 (p - 1).toNat).filter (fun d => match d with | .int i => decide (i * n % p = 1) | _ => false) = .int (bk p n) :: br := hb
    simp only [List.nil_append, List.map_id', hf]
    have a0 : atI (D.int (bk p n) :: br) 0 = some (.int (bk p n)) := atI_nat (j := 0) rfl
    simp [a0]
    exact hR
/-! ### polys without y -/
def noY (ts : List T3) : Bool := ts.all fun t => t.2.1 == 0
theorem s_need_x_poly {p : Int} {d : D} {W R : D → Prop} (hj : judge d) (hR : if isPolyD p d = true then (∀ ts, d = encP ts → GoodP p 999 999 ts → if noY ts = true then R .non else W (.exc "BadPoly" [])) else W (.exc "BadPoly" [])) : pf_need_x_poly [.int p, d] W R := by
  refine ⟨rfl, ?_⟩
  simp [-lcD, t_need_x_poly]
  refine s_need_poly hj ?_
  by_cases h : isPolyD p d = true
  · rw [if_pos h] at hR ⊢
    obtain ⟨ts, rfl, g⟩ := poly_of_is h
    have hR := hR ts rfl g
    have hl := g.short (by omega) (by omega)
    refine lc_pure (fun x => match x with | .tup [_, .int j, _] => !(j == 0) | _ => false) (fun _ => .int 1) (ts.map encT) [] (by rw [List.length_map]; exact size_line (by simp; omega)) (fun x hx k0 k1 hk => ?_) ?_
    · obtain ⟨t, _, rfl⟩ := List.mem_map.mp hx
      have e1 : atI [D.int t.1, D.int t.2.1, D.int t.2.2] 1 = some (.int t.2.1) := rfl
      unfold encT at hk ⊢
      simp [e1]
      by_cases z : t.2.1 = 0
      · simpa [z] using hk
      · simpa [z] using hk
    · simp
      rw [filter_one]
      have e : ((ts.map encT).all fun x => !(match x with | .tup [_, .int j, _] => !j == 0 | _ => false)) = noY ts := by
        rw [List.all_map]
        unfold noY
        congr 1
        funext t
        simp [encT]
      rw [e]
      exact hR
  · rw [if_neg h] at hR ⊢
    exact hR
/-! ### lifted -/
def moveB (b : Bk) (k : Int) : Bk := b.map fun e => ((e.1.1 + k, e.1.2), e.2)
theorem moveB_keys (b : Bk) (k : Int) : (moveB b k).map (·.1) = (b.map (·.1)).map fun q => (q.1 + k, q.2) := by
  unfold moveB
  rw [List.map_map, List.map_map]
  rfl
theorem moveB_coef (k : Int) : ∀ (b : Bk) (q : P2), coef (moveB b k) q = coef b (q.1 - k, q.2)
  | [], q => rfl
  | e :: b, q => by
    have ih := moveB_coef k b q
    show coef (((e.1.1 + k, e.1.2), e.2) :: moveB b k) q = _
    rw [coef, coef, ih]
    by_cases h : e.1 = (q.1 - k, q.2)
    · rw [if_pos h, if_pos (by rw [h]; exact Prod.ext (by simp) rfl)]
    · rw [if_neg h, if_neg fun z => h (by rw [← z]; exact Prod.ext (by simp) rfl)]
theorem moveB_good {p mx my : Int} {b : Bk} {k nx : Int} (h : GoodB p mx my b) (h1 : ∀ e ∈ b, 0 ≤ e.1.1 + k ∧ e.1.1 + k ≤ nx) : GoodB p nx my (moveB b k) := by
  refine ⟨?_, fun e he => ?_⟩
  · rw [moveB_keys]
    rw [List.nodup_iff_pairwise_ne, List.pairwise_map]
    refine (List.nodup_iff_pairwise_ne.mp h.1).imp fun {a b} n e => n ?_
    injection e with e1 e2
    exact Prod.ext (by omega) e2
  · obtain ⟨g, hg, rfl⟩ := List.mem_map.mp he
    have z := h.2 g hg
    have z1 := h1 g hg
    unfold okT at z ⊢
    simp only at z ⊢
    omega
theorem fm_congr {α β : Type} {f g : α → Option β} : ∀ {l : List α}, (∀ x ∈ l, f x = g x) → l.filterMap f = l.filterMap g
  | [], _ => rfl
  | a :: l, h => by rw [List.filterMap_cons, List.filterMap_cons, h a (List.mem_cons_self ..), fm_congr fun x hx => h x (List.mem_cons_of_mem _ hx)]
def mvD (b : Bk) (k : Int) : D → Option (P2 × Int)
  | .tup [.int i, .int j] => some ((i + k, j), coef b (i, j))
  | _ => none
theorem mvD_keys (k : Int) {b : Bk} (hn : (b.map (·.1)).Nodup) : (keysB b).filterMap (mvD b k) = moveB b k := by
  unfold keysB moveB
  rw [List.filterMap_map, ← List.filterMap_eq_map]
  refine fm_congr fun e he => ?_
  show some ((e.1.1 + k, e.1.2), coef b (e.1.1, e.1.2)) = some ((e.1.1 + k, e.1.2), e.2)
  rw [show (e.1.1, e.1.2) = e.1 from rfl, coef_mem hn he]
theorem s_moved_up {b : Bk} {k : Int} {W R : D → Prop} (hn : (b.map (·.1)).Nodup) (hl : b.length ≤ 16000000) (hR : R (encB (moveB b k))) : pf_moved_up [encB b, .int k] W R := by
  refine ⟨rfl, ?_⟩
  simp [t_moved_up, encB]
  have nd : ((moveB b k).map (·.1)).Nodup := by
    rw [moveB_keys, List.nodup_iff_pairwise_ne, List.pairwise_map]
    refine (List.nodup_iff_pairwise_ne.mp hn).imp fun {a b} n e => n ?_
    injection e with e1 e2
    exact Prod.ext (by omega) e2
  refine dc_book (mvD b k) (keysB b) (by rw [keysB_length]; exact size_line (by omega)) (by rw [mvD_keys k hn]; exact nd) (fun d hd k0 k1 hk => ?_) (by rw [mvD_keys k hn]; exact hR)
  obtain ⟨e, he, rfl⟩ := List.mem_map.mp hd
  have lk := look_B b e.1
  rw [if_pos (List.mem_map_of_mem he)] at lk
  have ff := fits_pD e.1
  have e0 : atI [D.int e.1.1, D.int e.1.2] 0 = some (.int e.1.1) := rfl
  have e1 : atI [D.int e.1.1, D.int e.1.2] 1 = some (.int e.1.2) := rfl
  unfold pD at lk ff ⊢
  simp [e0, e1, lk]
  exact ⟨ff, hk⟩
theorem s__law_x_poly {p : Int} {m : Nat} {c : Nat} {W : WD} {R : D → Nat → Prop} (hc : c + 1000 ≤ cap) (hp : 2 ≤ p) (hp7 : p ≤ 7) (hm : m ≤ 99) (hR : ∀ ts c', GoodP p m 0 ts → c ≤ c' → c' ≤ c + 1000 → R (encP ts) c') : pf__law_x_poly [.st, .int p, .int m] c W R := by
  have hcap : cap = 1099511627776 := rfl
  refine ⟨rfl, ?_⟩
  unfold t__law_x_poly
  refine st_seq fun N0 hN0 => ?_
  simp [-lcD]
  rw [show (m : Int) + 1 = ((m + 1 : Nat) : Int) by omega]
  refine draw_ok (by omega) (by omega) (by omega) fun v hv => ?_
  simp [-lcD]
  rw [show (1 : Int) + (v : Int) = ((v + 1 : Nat) : Int) by omega]
  generalize hn : v + 1 = n
  have hn2 : n ≤ 100 := by omega
  refine ⟨by unfold smallI; omega, ?_⟩
  rw [Int.toNat_natCast]
  obtain ⟨qs, eqs, hs, hr⟩ : ∃ qs : List P2, rngD 0 1 n = qs.map (fun q => D.int q.1) ∧ qs.Pairwise (fun a b => a.1 < b.1) ∧ ∀ q ∈ qs, 0 ≤ q.1 ∧ q.1 ≤ m ∧ q.2 = 0 := by
    refine ⟨(List.range n).map fun (k : Nat) => ((k : Int), (0 : Int)), ?_, ?_, fun q hq => ?_⟩
    · rw [rng_eq, List.map_map]
      refine List.map_congr_left fun k _ => ?_
      simp
    · rw [List.pairwise_map]
      exact List.pairwise_lt_range.imp fun {a b} h => by show (a : Int) < b; omega
    · obtain ⟨k, hk, rfl⟩ := List.mem_map.mp hq
      rw [List.mem_range] at hk
      exact ⟨by show (0 : Int) ≤ k; omega, by show (k : Int) ≤ m; omega, rfl⟩
  have hl' : qs.length = n := by
    have := congrArg List.length eqs
    rw [rngD_length, List.length_map] at this
    exact this.symm
  rw [eqs]
  refine lc_inv (fun rest acc c' => ∃ (done todo : List P2) (ts : List T3), qs = done ++ todo ∧ rest = todo.map (fun q => D.int q.1) ∧ acc = ts.map encT ∧ ts.map (fun t => (t.1, t.2.1)) = done ∧ (∀ t ∈ ts, 0 ≤ t.2.2 ∧ t.2.2 ≤ p - 1) ∧ c' = c + 1 + done.length) ?_ ?_ ?_ _ [] (c + 1) ⟨[], qs, [], rfl, rfl, rfl, rfl, by simp, by simp⟩
  · rintro d ds acc c' ⟨done, todo, ts, e1, e2, rfl, e4, ht, rfl⟩ k0 k1 h0 h1
    cases todo with
    | nil => cases e2
    | cons q todo =>
      rw [List.map_cons] at e2
      cases e2
      have hlen : done.length + (todo.length + 1) = qs.length := by rw [e1]; simp
      have q2 : q.2 = 0 := (hr q (by rw [e1]; simp)).2.2
      simp
      refine draw_okI (by omega) (by omega) (by omega) fun v hv0 hv1 => ?_
      refine h1 _ _ ⟨done ++ [q], todo, ts ++ [(q.1, q.2, v)], by simp [e1], rfl, by simp [encT, q2], by simp [e4], ?_, by simp; omega⟩
      intro t ht'
      rw [List.mem_append, List.mem_singleton] at ht'
      rcases ht' with ht' | rfl
      · exact ht t ht'
      · simp; omega
  · rintro ds acc c' y ⟨done, todo, ts, e1, e2, e3, e4, _⟩
    have : ts.length ≤ qs.length := by rw [e1, ← e4]; simp
    have h3 := congrArg List.length e3
    simp at h3
    rw [sizeLine_eq]
    omega
  · rintro acc c' ⟨done, todo, ts, e1, e2, rfl, e4, ht, rfl⟩
    have e5 : todo = [] := by cases todo with
      | nil => rfl
      | cons _ _ => cases e2
    subst e5
    rw [List.append_nil] at e1
    subst e1
    have hlt : ts.length = qs.length := by rw [← e4, List.length_map]
    refine hN0 _ _ ?_
    simp
    refine lc_pure (fun d => match d with | .tup [_, _, .int k] => k != 0 | _ => false) (fun d => d) (ts.map encT) [] (by rw [sizeLine_eq]; simp; omega) (fun x hx k0 k1 hk => ?_) ?_
    · rw [List.mem_map] at hx
      obtain ⟨t, _, rfl⟩ := hx
      simpa [encT] using hk
    · have e6 : ((ts.map encT).filter fun d => match d with | .tup [_, _, .int k] => k != 0 | _ => false) = (ts.filter fun t => t.2.2 != 0).map encT := by
        rw [List.filter_map]
        rfl
      simp only [List.nil_append, List.map_id_fun', id_eq, List.map_id', e6]
      refine hR _ _ ⟨fun t ht' => ?_, ?_⟩ (by omega) (by omega)
      · rw [List.mem_filter] at ht'
        have z := ht t ht'.1
        have z2 : (t.1, t.2.1) ∈ qs := by rw [← e4]; exact List.mem_map_of_mem ht'.1
        have z3 := hr _ z2
        have z4 : t.2.2 ≠ 0 := by simpa using ht'.2
        unfold okT
        simp only at z3
        omega
      · refine List.Pairwise.filter _ ?_
        rw [← e4, List.pairwise_map] at hs
        exact hs.imp fun {a b} z => .inl z
end KC
set_option Elab.async false
set_option linter.all false
set_option maxRecDepth 100000
set_option maxHeartbeats 1000000
namespace KC
open PySem PySem.Spec L2 DL
/-! ### division, over coefficients -/
def hiB (b : Bk) : Int := topL (b.map fun e => spotI 0 e.1)
theorem topL_spec : ∀ l : List Int, (l = [] ∧ topL l = -1) ∨ (topL l ∈ l ∧ ∀ n ∈ l, n ≤ topL l)
  | [] => .inl ⟨rfl, rfl⟩
  | n :: ns => by
    obtain ⟨h1, h2, h3⟩ := fmax_ge ns n
    refine .inr ⟨?_, fun y hy => ?_⟩
    · rcases h3 with h3 | h3
      · rw [topL, h3]; exact List.mem_cons_self ..
      · exact List.mem_cons_of_mem _ h3
    · rcases List.mem_cons.mp hy with rfl | hy
      · exact h1
      · exact h2 y hy
theorem hiB_spec (b : Bk) : (b = [] ∧ hiB b = -1) ∨ (∃ e ∈ b, e.1.1 = hiB b ∧ ∀ g ∈ b, g.1.1 ≤ hiB b) := by
  rcases topL_spec (b.map fun e => spotI 0 e.1) with ⟨h1, h2⟩ | ⟨h1, h2⟩
  · exact .inl ⟨List.map_eq_nil_iff.mp h1, h2⟩
  · obtain ⟨e, he, h3⟩ := List.mem_map.mp h1
    exact .inr ⟨e, he, h3, fun g hg => h2 _ (List.mem_map_of_mem (f := fun e : P2 × Int => spotI 0 e.1) hg)⟩
theorem GoodB.count {p : Int} {mx my : Nat} {b : Bk} (h : GoodB p mx my b) : b.length ≤ (mx + 1) * (my + 1) := by
  have := len_sub (b := gridL (mx + 1) (my + 1)) h.1 fun q hq => by
    obtain ⟨e, he, rfl⟩ := List.mem_map.mp hq
    have z := h.2 e he
    unfold okT at z
    simp only at z
    exact mem_gridL.mpr ⟨by omega, by omega, by omega, by omega⟩
  rwa [List.length_map, gridL_length] at this
theorem coef_pos {p mx my : Int} {b : Bk} (h : GoodB p mx my b) {e : P2 × Int} (he : e ∈ b) : 1 ≤ coef b e.1 ∧ coef b e.1 ≤ p - 1 := by
  rw [coef_mem h.1 he]
  have z := h.2 e he
  unfold okT at z
  simp only at z
  omega
def stepR (p w k : Int) (o r : P2 → Int) : P2 → Int := fun q => (r q + (p - w) * o (q.1 - k, q.2)) % p
def stepQ (w k : Int) (f : P2 → Int) : P2 → Int := fun q => if (k, 0) = q then w else f q
def runD (p bk d : Int) (o : P2 → Int) : Nat → (P2 → Int) → (P2 → Int) → (P2 → Int) × (P2 → Int)
  | 0, f, r => (f, r)
  | m + 1, f, r => runD p bk d o m (stepQ (r (d + m, 0) * bk % p) m f) (stepR p (r (d + m, 0) * bk % p) m o r)
theorem runD_skip {p bk d : Int} {o f r : P2 → Int} {m : Nat} (h1 : r (d + m, 0) = 0) (h2 : f (m, 0) = 0) (h3 : ∀ q, r q % p = r q) : runD p bk d o (m + 1) f r = runD p bk d o m f r := by
  rw [runD, h1, Int.zero_mul, Int.zero_emod]
  have e1 : stepQ 0 m f = f := by
    funext q
    unfold stepQ
    by_cases h : ((m : Int), (0 : Int)) = q
    · rw [if_pos h, ← h, h2]
    · rw [if_neg h]
  have e2 : stepR p 0 m o r = r := by
    funext q
    unfold stepR
    rw [Int.sub_zero, Int.add_mul_emod_self_left, h3]
  rw [e1, e2]
theorem runD_skips {p bk d : Int} {o f r : P2 → Int} {k : Nat} (h3 : ∀ q, r q % p = r q) : ∀ (m : Nat), k ≤ m → (∀ j : Nat, k ≤ j → j < m → r (d + j, 0) = 0 ∧ f (j, 0) = 0) → runD p bk d o m f r = runD p bk d o k f r
  | 0, h, _ => by
    have : k = 0 := by omega
    rw [this]
  | m + 1, h, hz => by
    by_cases e : k = m + 1
    · rw [e]
    · obtain ⟨z1, z2⟩ := hz m (by omega) (by omega)
      rw [runD_skip z1 z2 h3]
      exact runD_skips h3 m (by omega) fun j h1 h2 => hz j h1 (by omega)
structure DivI (p mx d bk : Int) (N : Nat) (one oth f r : Bk) (m : Nat) : Prop where
  gf : GoodB p mx 0 f
  gr : GoodB p mx 0 r
  hf : ∀ e ∈ f, (m : Int) ≤ e.1.1
  hr : ∀ e ∈ r, e.1.1 < d + m
  id : ∀ q, (mulC f oth q + coef r q) % p = coef one q
  run : runD p bk d (coef oth) m (coef f) (coef r) = runD p bk d (coef oth) N (fun _ => 0) (coef one)
/-- what is divided by: flat, of degree d, its first number b times 1 -/
structure Lead (p d bk : Int) (oth : Bk) : Prop where
  g : GoodB p 999 0 oth
  top : ∀ e ∈ oth, e.1.1 ≤ d
  at_ : (d, 0) ∈ oth.map (·.1)
  bk : bk * coef oth (d, 0) % p = 1
theorem DivI.start {p mx d bk : Int} {one oth : Bk} (hp : 2 ≤ p) (ho : GoodB p mx 0 one) : DivI p mx d bk (hiB one - d + 1).toNat one oth [] one (hiB one - d + 1).toNat := by
  refine ⟨GoodB.nil, ho, fun e he => absurd he List.not_mem_nil, fun e he => ?_, fun q => ?_, rfl⟩
  · rcases hiB_spec one with ⟨rfl, _⟩ | ⟨_, _, _, h⟩
    · exact absurd he List.not_mem_nil
    · have := h e he
      omega
  · show (mulC [] oth q + coef one q) % p = _
    rw [show mulC [] oth q = 0 from rfl, Int.zero_add, coef_mod ho hp]
theorem DivI.down {p mx d bk : Int} {N : Nat} {one oth f r : Bk} {m k : Nat} (hp : 2 ≤ p) (h : DivI p mx d bk N one oth f r m) (hk : k ≤ m) (hr : ∀ e ∈ r, e.1.1 < d + k) : DivI p mx d bk N one oth f r k := by
  refine ⟨h.gf, h.gr, fun e he => by have := h.hf e he; omega, hr, h.id, ?_⟩
  rw [← h.run, runD_skips (fun q => coef_mod h.gr hp q) m hk fun j h1 h2 => ⟨?_, ?_⟩]
  · refine coef_out fun hm => ?_
    obtain ⟨e, he, e1⟩ := List.mem_map.mp hm
    have := hr e he
    rw [e1] at this
    simp only at this
    omega
  · refine coef_out fun hm => ?_
    obtain ⟨e, he, e1⟩ := List.mem_map.mp hm
    have := h.hf e he
    rw [e1] at this
    simp only at this
    omega
theorem rowC_one (k w : Int) : ∀ {b : Bk}, (b.map (·.1)).Nodup → ∀ q : P2, rowC ((k, 0), w) b q = w * coef b (q.1 - k, q.2)
  | [], _, q => by simp [rowC, coef]
  | e :: b, hn, q => by
    rw [List.map_cons, List.nodup_cons] at hn
    have ih := rowC_one k w hn.2 q
    unfold rowC at ih ⊢
    rw [List.map_cons, List.sum_cons, ih, coef]
    unfold plus2
    by_cases h : e.1 = (q.1 - k, q.2)
    · rw [if_pos h, if_pos (by rw [h]; exact Prod.ext (by simp; omega) (by simp)), coef_out (by rw [← h]; exact hn.1)]
      simp
    · rw [if_neg h, if_neg fun z => h (by rw [← z]; exact Prod.ext (by simp; omega) (by simp))]
      simp
theorem mulC_append (a b c : Bk) (q : P2) : mulC (a ++ b) c q = mulC a c q + mulC b c q := by
  unfold mulC
  rw [List.map_append, List.sum_append]
theorem sub_step (p w x y : Int) : (x + -w * y) % p = (x + (p - w) * y) % p := by
  rw [Int.sub_mul, show x + (p * y - w * y) = x + -w * y + p * y by rw [Int.neg_mul]; omega, Int.add_mul_emod_self_left]
theorem lead_gone {p bk r o : Int} (hb : bk * o % p = 1) (hr : r % p = r) (hp : 2 ≤ p) : (r + (p - r * bk % p) * o) % p = 0 := by
  rw [← sub_step]
  have e1 : (r + -(r * bk % p) * o) % p = (r + -(r * bk * o)) % p := by
    have h1 : r * bk % p = r * bk - p * (r * bk / p) := by have := Int.emod_add_mul_ediv (r * bk) p; omega
    rw [h1, show r + -(r * bk - p * (r * bk / p)) * o = r + -(r * bk * o) + p * (r * bk / p * o) by grind, Int.add_mul_emod_self_left]
  rw [e1]
  have h2 : bk * o = 1 + p * (bk * o / p) := by have := Int.emod_add_mul_ediv (bk * o) p; omega
  rw [Int.mul_assoc, h2, show r + -(r * (1 + p * (bk * o / p))) = p * (-(r * (bk * o / p))) by grind, Int.mul_emod_right]
theorem DivI.step {p mx d bk : Int} {N : Nat} {one oth f r r' : Bk} {m : Nat} (hp : 2 ≤ p) (h : DivI p mx d bk N one oth f r (m + 1)) (L : Lead p d bk oth) (hm : (m : Int) ≤ mx) (hw : coef r (d + m, 0) * bk % p ≠ 0) (gr : GoodB p mx 0 r') (hr : ∀ q, coef r' q = stepR p (coef r (d + m, 0) * bk % p) m (coef oth) (coef r) q) :
    DivI p mx d bk N one oth (putB f (m, 0) (coef r (d + m, 0) * bk % p)) r' m := by
  have hw1 := mod_lo (coef r (d + m, 0) * bk) hp
  generalize hww : coef r (d + m, 0) * bk % p = w at hw hr hw1 ⊢
  have nk : ((m : Int), (0 : Int)) ∉ f.map (·.1) := fun hm => by
    obtain ⟨e, he, e1⟩ := List.mem_map.mp hm
    have := h.hf e he
    rw [e1] at this
    simp only at this
    omega
  refine ⟨⟨nodup_putB _ _ h.gf.1, fun e he => ?_⟩, gr, fun e he => ?_, fun e he => ?_, fun q => ?_, ?_⟩
  · rcases mem_putB he with rfl | he
    · unfold okT
      simp only
      omega
    · exact h.gf.2 e he
  · rcases mem_putB he with rfl | he
    · exact Int.le_refl _
    · have := h.hf e he
      omega
  · have c1 := coef_pos gr he
    have e2 : e.1.2 = 0 := by have z := gr.2 e he; unfold okT at z; simp only at z; omega
    refine Classical.byContradiction fun hn => ?_
    have c2 := hr e.1
    unfold stepR at c2
    by_cases he2 : e.1.1 = d + m
    · have e3 : e.1 = (d + m, 0) := Prod.ext he2 e2
      rw [e3] at c2
      simp only at c2
      rw [show d + (m : Int) - m = d by omega, ← hww, lead_gone L.bk (coef_mod h.gr hp _) hp] at c2
      rw [e3] at c1
      omega
    · have z1 : coef r e.1 = 0 := coef_out fun hm => by
        obtain ⟨g, hg, e1⟩ := List.mem_map.mp hm
        have := h.hr g hg
        rw [e1] at this
        omega
      have z2 : coef oth (e.1.1 - m, e.1.2) = 0 := coef_out fun hm => by
        obtain ⟨g, hg, e1⟩ := List.mem_map.mp hm
        have := L.top g hg
        rw [e1] at this
        simp only at this
        omega
      rw [z1, z2] at c2
      simp at c2
      omega
  · rw [putB_new nk, mulC_append, ← h.id q, hr q]
    have : mulC [(((m : Int), (0 : Int)), w)] oth q = w * coef oth (q.1 - m, q.2) := by
      show [rowC (((m : Int), (0 : Int)), w) oth q].sum = _
      rw [List.sum_cons, List.sum_nil, Int.add_zero, rowC_one _ _ L.g.1]
    rw [this]
    unfold stepR
    rw [Int.add_emod_emod, show mulC f oth q + w * coef oth (q.1 - m, q.2) + (coef r q + (p - w) * coef oth (q.1 - m, q.2)) = mulC f oth q + coef r q + p * coef oth (q.1 - m, q.2) by rw [Int.sub_mul]; omega, Int.add_mul_emod_self_left]
  · rw [← h.run, runD, hww]
    have e1 : coef (putB f (m, 0) w) = stepQ w m (coef f) := by
      funext q
      rw [coef_put]
      rfl
    have e2 : coef r' = stepR p w m (coef oth) (coef r) := funext hr
    rw [e1, e2]
end KC
set_option Elab.async false
set_option linter.all false
set_option maxRecDepth 100000
set_option maxHeartbeats 1000000
namespace KC
open PySem PySem.Spec L2 DL
noncomputable def lbk (p : Int) (oth : Bk) : Int := bk p (coef oth (hiB oth, 0))
theorem lead_spec {p : Int} {oth : Bk} (hp : p = 2 ∨ p = 3 ∨ p = 5 ∨ p = 7) (h : GoodB p 999 0 oth) (hn : oth ≠ []) : Lead p (hiB oth) (lbk p oth) oth ∧ 0 ≤ hiB oth ∧ hiB oth ≤ 999 ∧ 1 ≤ coef oth (hiB oth, 0) ∧ coef oth (hiB oth, 0) ≤ p - 1 := by
  rcases hiB_spec oth with ⟨e, _⟩ | ⟨e, he, e1, h2⟩
  · exact absurd e hn
  · have z := h.2 e he
    unfold okT at z
    simp only at z
    have e3 : e.1 = (hiB oth, 0) := Prod.ext e1 (by show e.1.2 = 0; omega)
    have c1 := coef_pos h he
    rw [e3] at c1
    obtain ⟨_, b2, _⟩ := bk_ok hp c1.1 c1.2
    exact ⟨⟨h, h2, by rw [← e3]; exact List.mem_map_of_mem he, b2⟩, by omega, by omega, c1⟩
theorem nz_prod {p a b : Int} (hp : p = 2 ∨ p = 3 ∨ p = 5 ∨ p = 7) (h1 : 1 ≤ a) (h2 : a ≤ p - 1) (h3 : 1 ≤ b) (h4 : b ≤ p - 1) : a * b % p ≠ 0 := by
  have ha : a = 1 ∨ a = 2 ∨ a = 3 ∨ a = 4 ∨ a = 5 ∨ a = 6 := by omega
  have hb : b = 1 ∨ b = 2 ∨ b = 3 ∨ b = 4 ∨ b = 5 ∨ b = 6 := by omega
  rcases hp with rfl | rfl | rfl | rfl <;> rcases ha with rfl | rfl | rfl | rfl | rfl | rfl <;> first | omega | (rcases hb with rfl | rfl | rfl | rfl | rfl | rfl <;> first | omega | decide)
abbrev divN (one oth : Bk) : Nat := (hiB one - hiB oth + 1).toNat
abbrev DivJ (p mx : Int) (one oth f r : Bk) (m : Nat) : Prop := DivI p mx (hiB oth) (lbk p oth) (divN one oth) one oth f r m
theorem s_divide {p : Int} {mx : Nat} {one oth : Bk} {W R : D → Prop} (hp : p = 2 ∨ p = 3 ∨ p = 5 ∨ p = 7) (hmx : mx ≤ 999) (ho : GoodB p mx 0 one) (hL : GoodB p 999 0 oth) (hn : oth ≠ []) (hR : ∀ f r, DivJ p mx one oth f r 0 → R (.tup [encB f, encB r])) : pf_divide [.int p, encB one, encB oth] W R := by
  have p1 : 2 ≤ p ∧ p ≤ 7 := by omega
  obtain ⟨L, d0, d1, l1, l2⟩ := lead_spec hp hL hn
  have cone := GoodB.count (mx := mx) (my := 0) ho
  have coth := GoodB.count (mx := 999) (my := 0) hL
  refine ⟨rfl, ?_⟩
  unfold t_divide
  refine st_seq fun N0 hN0 => ?_
  simp [encB]
  refine ⟨Fine.small (m := 8191) (ho.mono (by omega) (by omega)) (Int.le_refl _), ?_⟩
  refine s_highest (.inl rfl) (by omega) ?_
  refine hN0 _ _ ?_
  refine st_seq fun N1 hN1 => ?_
  have lk := look_B oth (hiB oth, 0)
  rw [if_pos L.at_] at lk
  have ff := fits_pD (hiB oth, 0)
  have ee : topL (oth.map fun e => spotI 0 e.1) = hiB oth := rfl
  rw [ee]
  unfold pD at lk ff
  simp only at lk ff
  simp [lk]
  refine ⟨ff, s_back_of hp l1 l2 (hN1 _ _ ?_)⟩
  refine st_seq fun N2 hN2 => ?_
  unfold tWhileD
  refine ⟨fun n env c => ∃ (f r : Bk) (s7 s8 : Slot), DivJ p mx one oth f r n ∧ c = 0 ∧ env = [.val (.int p), .val (encB one), .val (encB oth), .own (encB f), .val (encB r), .val (.int (hiB oth)), .val (.int (lbk p oth)), s7, s8], ⟨_, [], one, .un, .un, DivI.start p1.1 ho, rfl, rfl⟩, ?_⟩
  rintro n env c ⟨f, r, s7, s8, hI, rfl, rfl⟩
  have cr := GoodB.count (mx := mx) (my := 0) hI.gr
  have cf' := GoodB.count (mx := mx) (my := 0) hI.gf
  have eh : ∀ b : Bk, topL (b.map fun e => spotI 0 e.1) = hiB b := fun _ => rfl
  simp only [tTestD, tOpD, tCallP, tConsD, tVarD, tVarB, tCD, tNilD, List.getElem?_cons_succ, List.getElem?_cons_zero]
  refine s_highest (.inl rfl) (by omega) ?_
  rw [eh]
  simp
  by_cases h : hiB oth ≤ hiB r
  · rw [if_pos h]
    obtain ⟨e, he, e1⟩ : ∃ e ∈ r, e.1.1 = hiB r ∧ ∀ g ∈ r, g.1.1 ≤ hiB r := by
      rcases hiB_spec r with ⟨_, z⟩ | z
      · omega
      · exact z
    obtain ⟨e1, htop⟩ := e1
    have zr := hI.gr.2 e he
    unfold okT at zr
    simp only at zr
    have ek : e.1 = (hiB r, 0) := Prod.ext e1 (by show e.1.2 = 0; omega)
    obtain ⟨m', hm'⟩ : ∃ m' : Nat, hiB r = hiB oth + m' := ⟨(hiB r - hiB oth).toNat, by omega⟩
    have hlt := hI.hr e he
    have hI2 : DivJ p mx one oth f r (m' + 1) := hI.down p1.1 (by omega) fun g hg => by
      have := htop g hg
      omega
    have cp := coef_pos hI.gr he
    rw [ek] at cp
    have lk2 := look_B r (hiB r, 0)
    rw [if_pos (by rw [← ek]; exact List.mem_map_of_mem he)] at lk2
    have ff2 := fits_pD (hiB r, 0)
    have ff3 := fits_pD ((m' : Int), 0)
    unfold pD at lk2 ff2 ff3
    simp only at lk2 ff2 ff3
    obtain ⟨_, _, b1, b2⟩ := bk_ok hp l1 l2
    replace b1 : 1 ≤ lbk p oth := b1
    replace b2 : lbk p oth ≤ p - 1 := b2
    have hw := nz_prod hp cp.1 cp.2 b1 b2
    have hwr := mod_lo (coef r (hiB r, 0) * lbk p oth) p1.1
    refine s_highest (.inl rfl) (by omega) ?_
    rw [eh]
    simp [encB, lk2]
    refine ⟨ff2, mul_ok (by omega) (by omega), by omega, ?_⟩
    rw [show hiB r - hiB oth = (m' : Int) by omega]
    refine ⟨ff3, by rw [keysB_length, sizeLine_eq]; omega, ?_⟩
    refine s_moved_up (b := oth) hL.1 (by omega) ?_
    have hmv : GoodB p mx 0 (moveB oth m') := moveB_good hL fun g hg => by
      have z := hL.2 g hg
      unfold okT at z
      simp only at z
      have := L.top g hg
      omega
    have cmv := GoodB.count (mx := mx) (my := 0) hmv
    refine s_added' (a := r) p1.1 p1.2 (by omega) hI.gr hmv (by omega) (by omega) (by omega) fun r' hr' => ?_
    refine ⟨m', by omega, putB f ((m' : Int), 0) (coef r (hiB r, 0) * lbk p oth % p), r', ?_, ?_, rfl⟩
    · have st := DivI.step p1.1 hI2 L (by omega) (by rw [← hm']; exact hw) hr'.good fun q => by
        rw [hr'.coef q, moveB_coef, hm']
        exact sub_step ..
      rw [← hm'] at st
      exact st
    · have z := put_enc ((m' : Int), 0) (coef r (hiB r, 0) * lbk p oth % p) hI.gf.1
      unfold encB at z
      injection z with _ z1 z2
      exact ⟨z1, z2⟩
  · rw [if_neg h]
    refine hN2 _ _ ?_
    have hI0 : DivJ p mx one oth f r 0 := hI.down p1.1 (by omega) fun g hg => by
      rcases hiB_spec r with ⟨z, _⟩ | ⟨_, _, _, z⟩
      · rw [z] at hg
        exact absurd hg List.not_mem_nil
      · have := z g hg
        omega
    simp
    exact hR f r hI0
/-! ### the law's division -/
theorem last_enc {p : Int} {mx : Int} {ts : List T3} (hg : GoodP p mx 0 ts) (hn : ts ≠ []) : ∃ t, atI (ts.map encT) (-1) = some (encT t) ∧ t.1 = hiB (bookOf ts) ∧ t.2.2 = coef (bookOf ts) (hiB (bookOf ts), 0) := by
  have e : ts = ts.dropLast ++ [ts.getLast hn] := (List.dropLast_concat_getLast hn).symm
  generalize ts.dropLast = us at e
  generalize ts.getLast hn = t at e
  subst e
  have tm : t ∈ us ++ [t] := by simp
  have bm : ((t.1, t.2.1), t.2.2) ∈ bookOf (us ++ [t]) := List.mem_map_of_mem (f := fun t : T3 => ((t.1, t.2.1), t.2.2)) tm
  have zt := hg.1 t tm
  unfold okT at zt
  have t0 : t.2.1 = 0 := by omega
  have eh : t.1 = hiB (bookOf (us ++ [t])) := by
    rcases hiB_spec (bookOf (us ++ [t])) with ⟨z, _⟩ | ⟨g, hgm, g1, g2⟩
    · rw [z] at bm
      exact absurd bm List.not_mem_nil
    · have h1 := g2 _ bm
      simp only at h1
      obtain ⟨u, hu, rfl⟩ := List.mem_map.mp hgm
      simp only at g1
      rcases List.mem_append.mp hu with hu | hu
      · have h2 := (List.pairwise_append.mp hg.2).2.2 u hu t (List.mem_singleton.mpr rfl)
        unfold ltT at h2
        omega
      · rw [List.mem_singleton] at hu
        rw [hu] at g1
        exact g1
  refine ⟨t, ?_, eh, ?_⟩
  · have e : ixN ((us ++ [t]).map encT).length (-1) = some us.length := by
      unfold ixN
      rw [List.length_map, List.length_append, List.length_singleton, if_neg (by omega), if_pos (by omega)]
      congr 1
      omega
    unfold atI
    rw [e]
    simp
  · rw [← eh, show (t.1, (0 : Int)) = (t.1, t.2.1) by rw [t0]]
    exact (coef_mem hg.book.1 bm).symm
theorem s__law_divided {p : Int} {mx : Nat} {one oth : List T3} {W R : D → Prop} (hp : p = 2 ∨ p = 3 ∨ p = 5 ∨ p = 7) (hmx : mx ≤ 999) (ho : GoodP p mx 0 one) (hL : GoodP p 999 0 oth) (hn : oth ≠ []) (hR : ∀ qs rs f r, DivJ p mx (bookOf one) (bookOf oth) f r 0 → GoodP p mx 0 qs → GoodP p mx 0 rs → (∀ k, cf qs k = coef f k) → (∀ k, cf rs k = coef r k) → R (.tup [encP qs, encP rs])) : pf__law_divided [.int p, encP one, encP oth] W R := by
  have p1 : 2 ≤ p ∧ p ≤ 7 := by omega
  have hnb : bookOf oth ≠ [] := fun e => hn (List.map_eq_nil_iff.mp e)
  obtain ⟨L, d0, d1, l1, l2⟩ := lead_spec hp hL.book hnb
  have cone := GoodB.count (mx := mx) (my := 0) ho.book
  have coth := GoodB.count (mx := 999) (my := 0) hL.book
  rw [bookOf_length] at cone coth
  obtain ⟨lt, lt1, lt2, lt3⟩ := last_enc hL hn
  have eh : ∀ b : Bk, topL (b.map fun e => spotI 0 e.1) = hiB b := fun _ => rfl
  obtain ⟨⟨br, hb⟩, _⟩ := bk_ok hp l1 l2
  refine ⟨rfl, ?_⟩
  unfold t__law_divided
  refine st_seq fun N0 hN0 => ?_
  simp
  refine s__law_dict ho.2 (by omega) ?_
  refine s__law_high (.inl rfl) hL (by omega) ?_
  rw [eh]
  refine hN0 _ _ ?_
  refine st_seq fun N1 hN1 => ?_
  have e2 : atI [D.int lt.1, D.int lt.2.1, D.int lt.2.2] 2 = some (.int lt.2.2) := rfl
  have lt1' : atI (oth.map encT) (-1) = some (.tup [.int lt.1, .int lt.2.1, .int lt.2.2]) := lt1
  have eP : encP oth = .tup (oth.map encT) := rfl
  simp [-lcD, eP]
  refine ⟨by unfold smallI; omega, by unfold smallI; omega, ?_⟩
  rw [show p.toNat - 1 = (p - 1).toNat by omega]
  refine lc_pure (fun d => match d with | .int i => decide (i * coef (bookOf oth) (hiB (bookOf oth), 0) % p = 1) | _ => false) (fun x => x) (rngD 1 1 (p - 1).toNat) [] (by rw [rngD_length, sizeLine_eq]; simp; omega) (fun x hx k0 k1 hk => ?_) ?_
  · obtain ⟨i, rfl, i1, i2⟩ := rng_mem x hx
    rw [← lt3] at hk l1 l2
    simp [lt1', e2]
    refine ⟨mul_ok (by omega) (by omega), by omega, ?_⟩
    simpa using hk
  · have hf : (rngD 1 1 (p - 1).toNat).filter (fun d => match d with | .int i => decide (i * coef (bookOf oth) (hiB (bookOf oth), 0) % p = 1) | _ => false) = .int (lbk p (bookOf oth)) :: br := hb
    simp only [List.nil_append, List.map_id', hf]
    have a0 : atI (D.int (lbk p (bookOf oth)) :: br) 0 = some (.int (lbk p (bookOf oth))) := atI_nat (j := 0) rfl
    simp [a0]
    refine hN1 _ _ ?_
    refine st_seq fun N2 hN2 => ?_
    rw [← eP]
    simp [-loopD]
    refine s__law_high (.inl rfl) ho (by omega) ?_
    rw [eh]
    simp only []
    refine ⟨divN (bookOf one) (bookOf oth), ?_, ?_⟩
    · have hb1 : -1 ≤ hiB (bookOf one) ∧ hiB (bookOf one) ≤ 999 := by
        rcases hiB_spec (bookOf one) with ⟨_, z⟩ | ⟨g, hg, g1, _⟩
        · omega
        · have z := ho.book.2 g hg
          unfold okT at z
          simp only at z
          omega
      have z := RgC.neg (i := hiB (bookOf one)) (j := hiB (bookOf oth) - 1) (by omega) (by omega) (by omega) (by omega)
      rwa [show hiB (bookOf one) - (hiB (bookOf oth) - 1) = hiB (bookOf one) - hiB (bookOf oth) + 1 by omega] at z
    · refine loop_inv (fun rest env c => c = 0 ∧ ∃ (f r : Bk) (s7 s8 s9 s10 s11 : Slot) (m : Nat), DivJ p mx (bookOf one) (bookOf oth) f r m ∧ rest = rngD (hiB (bookOf oth) + m - 1) (-1) m ∧ env = [.val (.int p), .val (encP one), .val (encP oth), .own (encB f), .val (encB r), .val (.int (hiB (bookOf oth))), .val (.int (lbk p (bookOf oth))), s7, s8, s9, s10, s11]) ?_ ?_ _ _ _ ⟨rfl, [], bookOf one, _, _, _, _, _, _, DivI.start p1.1 ho.book, ?_, rfl⟩
      · rintro x xs N3 hN3 env c ⟨rfl, f, r, s7, s8, s9, s10, s11, m, hI, er, rfl⟩
        cases m with
        | zero => cases er
        | succ m =>
          rw [rngD] at er
          injection er with er1 er2
          subst er1 er2
          rw [show hiB (bookOf oth) + ((m + 1 : Nat) : Int) - 1 = hiB (bookOf oth) + m by omega] at hN3 ⊢
          have cr := GoodB.count (mx := mx) (my := 0) hI.gr
          have cf' := GoodB.count (mx := mx) (my := 0) hI.gf
          have ff2 := fits_pD (hiB (bookOf oth) + m, 0)
          have ff3 := fits_pD ((m : Int), 0)
          have lf := look_B0 r (hiB (bookOf oth) + m, 0)
          unfold pD at lf ff2 ff3
          simp only at lf ff2 ff3
          have crr := coef_range hI.gr p1.1 (hiB (bookOf oth) + m, 0)
          obtain ⟨_, _, b1, b2⟩ := bk_ok hp l1 l2
          replace b1 : 1 ≤ lbk p (bookOf oth) := b1
          replace b2 : lbk p (bookOf oth) ≤ p - 1 := b2
          simp only [Tg.set, List.set_cons_succ, List.set_cons_zero]
          refine st_seq fun N4 hN4 => ?_
          simp [encB, lf]
          refine ⟨ff2, mul_ok (by omega) (by omega), by omega, hN4 _ _ ?_⟩
          generalize hw : coef r (hiB (bookOf oth) + m, 0) * lbk p (bookOf oth) % p = w
          have hwr := mod_lo (coef r (hiB (bookOf oth) + m, 0) * lbk p (bookOf oth)) p1.1
          rw [hw] at hwr
          have go : ∀ f' r' s8 s9 s10 s11, DivJ p mx (bookOf one) (bookOf oth) f' r' m → N3 [.val (.int p), .val (encP one), .val (encP oth), .own (encB f'), .val (encB r'), .val (.int (hiB (bookOf oth))), .val (.int (lbk p (bookOf oth))), .val (.int (hiB (bookOf oth) + m)), s8, s9, s10, s11] 0 := fun f' r' s8 s9 s10 s11 hI' =>
            hN3 _ _ ⟨rfl, f', r', _, _, _, _, _, m, hI', by rw [show hiB (bookOf oth) + (m : Int) + -1 = hiB (bookOf oth) + m - 1 by omega], rfl⟩
          by_cases hw0 : w = 0
          · simp [hw0]
            refine go f r _ _ _ _ (hI.down p1.1 (by omega) fun g hg => ?_)
            have h1 := hI.hr g hg
            refine Classical.byContradiction fun hge => ?_
            have zg := hI.gr.2 g hg
            unfold okT at zg
            simp only at zg
            have eg : g.1 = (hiB (bookOf oth) + m, 0) := Prod.ext (by show g.1.1 = _; omega) (by show g.1.2 = 0; omega)
            have cg := coef_pos hI.gr hg
            rw [eg] at cg
            have := nz_prod hp cg.1 cg.2 b1 b2
            rw [hw] at this
            exact this hw0
          · have hgr : ∃ g ∈ r, g.1 = (hiB (bookOf oth) + m, 0) := by
              refine Classical.byContradiction fun hno => ?_
              have z : coef r (hiB (bookOf oth) + m, 0) = 0 := coef_out fun hm => by
                obtain ⟨g, hg, e⟩ := List.mem_map.mp hm
                exact hno ⟨g, hg, e⟩
              rw [z] at hw
              simp at hw
              exact hw0 hw.symm
            obtain ⟨g, hg, eg⟩ := hgr
            have zg := hI.gr.2 g hg
            unfold okT at zg
            rw [eg] at zg
            simp only at zg
            simp [hw0, -lcD, -dict1D, eP]
            have pz := put_enc ((m : Int), 0) w hI.gf.1
            unfold pD at pz
            simp only at pz
            rw [show hiB (bookOf oth) + (m : Int) - hiB (bookOf oth) = m by omega, pz]
            refine ⟨ff3, by rw [keysB_length, sizeLine_eq]; omega, ?_⟩
            have mv : (oth.map encT).map (fun d => match d with | .tup [.int i, .int j, .int c] => itemD ((i + m, j), c) | _ => .non) = (moveB (bookOf oth) m).map itemD := by
              unfold moveB bookOf
              rw [List.map_map, List.map_map, List.map_map]
              rfl
            have hmv : GoodB p mx 0 (moveB (bookOf oth) m) := moveB_good hL.book fun g hg => by
              have z := hL.book.2 g hg
              unfold okT at z
              simp only at z
              have := L.top g hg
              omega
            have cmv := GoodB.count (mx := mx) (my := 0) hmv
            refine lc_map (fun d => match d with | .tup [.int i, .int j, .int c] => itemD ((i + m, j), c) | _ => .non) (oth.map encT) [] (by rw [List.length_map]; exact size_line (by simp; omega)) (fun x hx k1 hk => ?_) ?_
            · obtain ⟨t, ht, rfl⟩ := List.mem_map.mp hx
              have zt := hL.1 t ht
              unfold okT at zt
              have f0 : atI [D.int t.1, D.int t.2.1, D.int t.2.2] 0 = some (.int t.1) := rfl
              have f2 : atI [D.int t.1, D.int t.2.1, D.int t.2.2] 2 = some (.int t.2.2) := rfl
              unfold encT at hk ⊢
              simp [f0, f2]
              rw [show t.1 + (hiB (bookOf oth) + (m : Int)) - hiB (bookOf oth) = t.1 + m by omega]
              have t0 : t.2.1 = 0 := by omega
              simp only [t0] at hk
              exact hk
            · rw [List.nil_append, mv]
              refine dict_items hmv.1 ?_
              refine s__law_added (a := r) p1.1 p1.2 (by omega) hI.gr hmv (by omega) fun r' hr' => ?_
              refine go _ _ _ _ _ _ ?_
              have st := DivI.step p1.1 hI L (by omega) (by rw [hw]; exact hw0) hr'.good fun q => by
                rw [hr'.coef q, moveB_coef, hw]
                rfl
              rw [hw] at st
              exact st
      · rintro env c ⟨rfl, f, r, s7, s8, s9, s10, s11, m, hI, er, rfl⟩
        cases m with
        | succ m => cases er
        | zero =>
          refine hN2 _ _ ?_
          have cr := GoodB.count (mx := mx) (my := 0) hI.gr
          have cf' := GoodB.count (mx := mx) (my := 0) hI.gf
          simp [encB]
          refine s__law_poly_of hI.gf (by omega) fun qs hqs hqs2 _ => ?_
          refine s__law_poly_of hI.gr (by omega) fun rs hrs hrs2 _ => ?_
          exact hR qs rs f r hI hqs hrs hqs2 hrs2
      · unfold divN
        generalize hNN : (hiB (bookOf one) - hiB (bookOf oth) + 1).toNat = NN
        cases NN with
        | zero => rfl
        | succ k => rw [show hiB (bookOf oth) + ((k + 1 : Nat) : Int) - 1 = hiB (bookOf one) by omega]
end KC
set_option Elab.async false
set_option linter.all false
set_option maxRecDepth 100000
set_option maxHeartbeats 1000000
namespace KC
open PySem PySem.Spec L2 DL
/-- a poly without y -/
def xPoly (p : Int) (d : D) : Prop := ∃ ts, d = encP ts ∧ GoodP p 999 999 ts ∧ noY ts = true
theorem noY_of {p mx : Int} {ts : List T3} (h : GoodP p mx 0 ts) : noY ts = true := by
  unfold noY
  rw [List.all_eq_true]
  intro t ht
  have z := h.1 t ht
  unfold okT at z
  rw [beq_iff_eq]
  omega
theorem flat_of {p mx my : Int} {ts : List T3} (h : GoodP p mx my ts) (hy : noY ts = true) : GoodP p mx 0 ts := by
  refine ⟨fun t ht => ?_, h.2⟩
  have z := h.1 t ht
  unfold noY at hy
  have e := List.all_eq_true.mp hy t ht
  rw [beq_iff_eq] at e
  unfold okT at z ⊢
  omega
theorem xPoly_of {p : Int} {mx : Nat} {ts : List T3} (hm : mx ≤ 999) (h : GoodP p mx 0 ts) : xPoly p (encP ts) := ⟨ts, rfl, h.mono (by omega) (by omega), noY_of h⟩
theorem need_x_ok {p : Int} {mx : Nat} {ts : List T3} {W R : D → Prop} (hm : mx ≤ 999) (h : GoodP p mx 0 ts) (hR : R .non) : pf_need_x_poly [.int p, encP ts] W R := by
  have h9 := h.mono (nx := 999) (ny := 999) (by omega) (by omega)
  refine s_need_x_poly (judge_enc (h9.short (by omega) (by omega))) ?_
  rw [if_pos (isPoly_enc.mpr h9)]
  intro us e _
  rw [← encP_inj e, if_pos (noY_of h)]
  exact hR
theorem need_x_bad {p : Int} {d : D} {W R : D → Prop} (hj : judge d) (hx : ¬ xPoly p d) (hW : W (.exc "BadPoly" [])) : pf_need_x_poly [.int p, d] W R := by
  refine s_need_x_poly hj ?_
  by_cases h : isPolyD p d = true
  · rw [if_pos h]
    intro ts e g
    rw [if_neg fun hy => hx ⟨ts, e, g, hy⟩]
    exact hW
  · rw [if_neg h]
    exact hW
theorem prime_ok {p : Int} {W R : D → Prop} (hp : p = 2 ∨ p = 3 ∨ p = 5 ∨ p = 7) (hR : R .non) : pf_need_prime [.int p] W R := by
  refine s_need_prime rfl ?_
  rw [if_pos (prm_of hp)]
  exact hR
theorem divided_np {q d1 d2 : D} {W R : D → Prop} (hq : tyd q = true) (hn : isPrm q = false) (hW : W (.exc "BadPrime" [])) : pf_divided [q, d1, d2] W R := by
  refine ⟨rfl, ?_⟩
  simp [t_divided]
  refine s_need_prime hq ?_
  rw [if_neg (by rw [hn]; exact Bool.false_ne_true)]
  exact hW
theorem divided_b1 {p : Int} {d1 d2 : D} {W R : D → Prop} (hp : p = 2 ∨ p = 3 ∨ p = 5 ∨ p = 7) (hj : judge d1) (hx : ¬ xPoly p d1) (hW : W (.exc "BadPoly" [])) : pf_divided [.int p, d1, d2] W R := by
  refine ⟨rfl, ?_⟩
  simp [t_divided]
  refine prime_ok hp (need_x_bad hj hx hW)
theorem divided_b2 {p : Int} {mx : Nat} {one : List T3} {d2 : D} {W R : D → Prop} (hp : p = 2 ∨ p = 3 ∨ p = 5 ∨ p = 7) (hm : mx ≤ 999) (ho : GoodP p mx 0 one) (hj : judge d2) (hx : ¬ xPoly p d2) (hW : W (.exc "BadPoly" [])) : pf_divided [.int p, encP one, d2] W R := by
  refine ⟨rfl, ?_⟩
  simp [t_divided]
  exact prime_ok hp (need_x_ok hm ho (need_x_bad hj hx hW))
theorem divided_b3 {p : Int} {mx : Nat} {one : List T3} {W R : D → Prop} (hp : p = 2 ∨ p = 3 ∨ p = 5 ∨ p = 7) (hm : mx ≤ 999) (ho : GoodP p mx 0 one) (hW : W (.exc "BadPoly" [])) : pf_divided [.int p, encP one, .tup []] W R := by
  refine ⟨rfl, ?_⟩
  simp [t_divided]
  refine prime_ok hp (need_x_ok hm ho ?_)
  exact need_x_ok (mx := 0) (ts := []) (by omega) GoodP.nil hW
theorem divided_ok {p : Int} {mx my : Nat} {one oth : List T3} {W R : D → Prop} (hp : p = 2 ∨ p = 3 ∨ p = 5 ∨ p = 7) (hm : mx ≤ 999) (hm2 : my ≤ 999) (ho : GoodP p mx 0 one) (hL : GoodP p my 0 oth) (hn : oth ≠ []) (hR : ∀ qs rs f r, DivJ p mx (bookOf one) (bookOf oth) f r 0 → GoodP p mx 0 qs → GoodP p mx 0 rs → (∀ k, cf qs k = coef f k) → (∀ k, cf rs k = coef r k) → R (.tup [encP qs, encP rs])) : pf_divided [.int p, encP one, encP oth] W R := by
  have cone := GoodB.count (mx := mx) (my := 0) ho.book
  have coth := GoodB.count (mx := my) (my := 0) hL.book
  rw [bookOf_length] at cone coth
  have hnb : bookOf oth ≠ [] := fun e => hn (List.map_eq_nil_iff.mp e)
  have sh := shaped_encP oth
  refine ⟨rfl, ?_⟩
  simp [t_divided]
  refine prime_ok hp (need_x_ok hm ho (need_x_ok hm2 hL ?_))
  have en : eqvD (encP oth) (.tup []) = false := by
    show eqvD (encP oth) (encP []) = false
    rw [eqv_encP, decide_eq_false hn]
  simp [sh, en]
  refine s_book_of ho.2 (by omega) ?_
  refine s_book_of hL.2 (by omega) ?_
  refine s_divide hp hm ho.book (hL.book.mono (by omega) (by omega)) hnb fun f r hI => ?_
  have cr := GoodB.count (mx := mx) (my := 0) hI.gr
  have cf' := GoodB.count (mx := mx) (my := 0) hI.gf
  simp
  refine s_poly_of hI.gf (by omega) fun qs hqs hqs2 => ?_
  refine s_poly_of hI.gr (by omega) fun rs hrs hrs2 => ?_
  exact hR qs rs f r hI hqs hrs hqs2 hrs2
/-- both ways tell the same -/
theorem div_same {p : Int} {mx : Nat} {one oth f r f' r' : Bk} (h : DivJ p mx one oth f r 0) (k : DivJ p mx one oth f' r' 0) : coef f = coef f' ∧ coef r = coef r' := by
  have z := h.run.trans k.run.symm
  rw [runD, runD] at z
  injection z with z1 z2
  exact ⟨z1, z2⟩
theorem div_eq {p : Int} {mx : Nat} {one oth f r f' r' : Bk} {qs rs qs' rs' : List T3} (h : DivJ p mx one oth f r 0) (k : DivJ p mx one oth f' r' 0) (g1 : GoodP p mx 0 qs) (g2 : GoodP p mx 0 rs) (g3 : GoodP p mx 0 qs') (g4 : GoodP p mx 0 rs') (e1 : ∀ k, cf qs k = coef f k) (e2 : ∀ k, cf rs k = coef r k) (e3 : ∀ k, cf qs' k = coef f' k) (e4 : ∀ k, cf rs' k = coef r' k) : qs = qs' ∧ rs = rs' := by
  obtain ⟨s1, s2⟩ := div_same h k
  exact ⟨poly_ext g1 g3 fun q => by rw [show coef (bookOf qs) q = _ from e1 q, show coef (bookOf qs') q = _ from e3 q, s1], poly_ext g2 g4 fun q => by rw [show coef (bookOf rs) q = _ from e2 q, show coef (bookOf rs') q = _ from e4 q, s2]⟩
/-- what is multiplied out hangs on the coefficients alone -/
theorem mulC_perm {a a' : Bk} (b : Bk) (q : P2) (h : a.Perm a') : mulC a b q = mulC a' b q := by
  unfold mulC
  induction h with
  | nil => rfl
  | cons x _ ih => rw [List.map_cons, List.map_cons, List.sum_cons, List.sum_cons, ih]
  | swap x y l => rw [List.map_cons, List.map_cons, List.map_cons, List.map_cons, List.sum_cons, List.sum_cons, List.sum_cons, List.sum_cons]; omega
  | trans _ _ h1 h2 => exact h1.trans h2
theorem mulC_same {p mx my p' mx' my' : Int} {a a' : Bk} (ha : GoodB p mx my a) (ha' : GoodB p' mx' my' a') (h : ∀ q, coef a q = coef a' q) (b : Bk) (q : P2) : mulC a b q = mulC a' b q := by
  have nd : ∀ {a : Bk}, (a.map (·.1)).Nodup → a.Nodup := fun {a} h => by
    rw [List.nodup_iff_pairwise_ne] at h ⊢
    rw [List.pairwise_map] at h
    exact h.imp fun {x y} n e => n (by rw [e])
  have sub : ∀ {p mx my p' mx' my' : Int} {a a' : Bk}, GoodB p mx my a → GoodB p' mx' my' a' → (∀ q, coef a q = coef a' q) → ∀ e ∈ a, e ∈ a' := fun {p mx my p' mx' my' a a'} ha ha' h e he => by
    have c := coef_pos ha he
    have c2 := h e.1
    rw [coef_mem ha.1 he] at c c2
    have hm : e.1 ∈ a'.map (·.1) := Classical.byContradiction fun n => by
      rw [coef_out n] at c2
      omega
    have := coef_in hm
    rw [← c2] at this
    exact this
  exact mulC_perm b q ((List.perm_ext_iff_of_nodup (nd ha.1) (nd ha'.1)).mpr fun e => ⟨sub ha ha' h e, sub ha' ha (fun q => (h q).symm) e⟩)
end KC

set_option Elab.async false
set_option linter.all false
set_option maxRecDepth 100000
set_option maxHeartbeats 1000000
namespace K06
open PySem PySem.Spec PyProof.Rows L2 DL KC
def excs : List Str := ["BadPoly", "BadPrime"]
def rl_BadPoly : List (Str × Bool) := [("BadPoly", true), ("BadPrime", false)]
abbrev r_BadPoly (n : Str) : Option Bool := rl_BadPoly.lookup n
def rl_BadPrime : List (Str × Bool) := [("BadPrime", true), ("BadPoly", false)]
abbrev r_BadPrime (n : Str) : Option Bool := rl_BadPrime.lookup n
abbrev n_law : List Str := ["_law_script", "_law_state", "_law_turn", "_law_prime_here", "_law_one", "_law_other", "_law_due", "_law_wrong", "_law_bad", "_law_mixed_here", "_law_work"]
abbrev p_law : List Str := ["_law_script"]
def t_law (fo : FoT) : TSD :=
  (tSeqD (tForD (.one 2) (tRng1D (tConsD (tOpD addD (tCD (.int 3)) (tCallD min2D (tConsD (tCallD lenD (tConsD (tVarB 0) tNilD)) (tConsD (tCD (.int 8)) tNilD)))) tNilD))
  (tSeqD (tSetD 3 (tDrawn KC.pf__law_prime (tConsD (tVarD 1) tNilD)))
  (tSeqD (tTgD (.tup [4, 5]) (tTupD (tConsD (tDrawn KC.pf__law_x_poly (tConsD (tVarD 1) (tConsD (tVarD 3) (tConsD (tCD (.int 20)) tNilD)))) (tConsD (tDrawn KC.pf__law_x_poly (tConsD (tVarD 1) (tConsD (tVarD 3) (tConsD (tCD (.int 8)) tNilD)))) tNilD))))
  (tSeqD (tSetD 5 (tIfD (tTestD (tOpD neD (tVarB 5) (tTupD tNilD))) (tVarD 5) (tTupD (tConsD (tTupD (tConsD (tDrawn pf__law_draw (tConsD (tVarD 1) (tConsD (tCD (.int 4)) tNilD))) (tConsD (tCD (.int 0)) (tConsD (tCD (.int 1)) tNilD)))) tNilD))))
  (tSeqD (tSetD 6 (tCallP KC.pf__law_divided (tConsD (tVarD 3) (tConsD (tVarD 4) (tConsD (tVarD 5) tNilD)))))
  (tSeqD (tIfSD (tTestD (tOpD neD (tCallD reprD (tConsD (tLstD (tConsD (tCallP KC.pf_divided (tConsD (tVarD 3) (tConsD (tVarD 4) (tConsD (tVarD 5) tNilD)))) (tConsD (tCallPK KC.pf_divided [2, 1, 0] (tConsD (tVarD 5) (tConsD (tVarD 4) (tConsD (tVarD 3) tNilD)))) tNilD))) tNilD)) (tCallD reprD (tConsD (tLstD (tConsD (tVarD 6) (tConsD (tVarD 6) tNilD))) tNilD))))
  (tRetD (tCD (.bl false)))
  tNextD)
  (tSeqD (tIfSD (tOrD (tTestD (tOpD neD (tCallP KC.pf__law_plus (tConsD (tVarD 3) (tConsD (tCallP KC.pf__law_times (tConsD (tVarD 3) (tConsD (tOpD ixD (tVarB 6) (tCD (.int 0))) (tConsD (tVarD 5) tNilD)))) (tConsD (tOpD ixD (tVarB 6) (tCD (.int 1))) tNilD)))) (tVarB 4))) (tTestD (tOpD geD (tCallP KC.pf__law_high (tConsD (tOpD ixD (tVarB 6) (tCD (.int 1))) (tConsD (tCD (.int 0)) tNilD))) (tCallP KC.pf__law_high (tConsD (tVarD 5) (tConsD (tCD (.int 0)) tNilD))))))
  (tRetD (tCD (.bl false)))
  tNextD)
  (tSeqD (tTgD (.tup [7, 8]) (tTupD (tConsD (tDrawn KC.pf__law_no_prime (tConsD (tVarD 1) tNilD)) (tConsD (tDrawn KC.pf__law_no_poly (tConsD (tVarD 1) (tConsD (tVarD 3) tNilD))) tNilD))))
  (tSeqD (tSetD 9 (tCallP KC.pf__law_plus (tConsD (tVarD 3) (tConsD (tVarD 4) (tConsD (tTupD (tConsD (tTupD (tConsD (tDrawn pf__law_draw (tConsD (tVarD 1) (tConsD (tCD (.int 3)) tNilD))) (tConsD (tOpD addD (tCD (.int 1)) (tDrawn pf__law_draw (tConsD (tVarD 1) (tConsD (tCD (.int 3)) tNilD)))) (tConsD (tCD (.int 1)) tNilD)))) tNilD)) tNilD)))))
  (tSeqD (tIfSD (tNotD (tTruD (tIsX r_BadPrime (tCaughtD excs (tCallP KC.pf_divided (tConsD (tVarD 7) (tConsD (tVarD 8) (tConsD (tTupD tNilD) tNilD))))))))
  (tRetD (tCD (.bl false)))
  tNextD)
  (tForD (.one 10) (tItD (tLstD (tConsD (tLamV 0 (fo 0).1 (fo 0).2) (tConsD (tLamV 1 (fo 1).1 (fo 1).2) (tConsD (tLamV 2 (fo 2).1 (fo 2).2) (tConsD (tLamV 3 (fo 3).1 (fo 3).2) (tConsD (tLamV 4 (fo 4).1 (fo 4).2) tNilD)))))))
  (tIfSD (tNotD (tTruD (tIsX r_BadPoly (tCaughtV excs (fun k => fo (0 + k)) [(tCallP KC.pf_divided (tConsD (tVarD 3) (tConsD (tVarD 8) (tConsD (tTupD tNilD) tNilD)))), (tCallP KC.pf_divided (tConsD (tVarD 3) (tConsD (tVarD 9) (tConsD (tVarD 5) tNilD)))), (tCallP KC.pf_divided (tConsD (tVarD 3) (tConsD (tVarD 4) (tConsD (tVarD 9) tNilD)))), (tCallP KC.pf_divided (tConsD (tVarD 3) (tConsD (tVarD 4) (tConsD (tVarD 8) tNilD)))), (tCallP KC.pf_divided (tConsD (tVarD 3) (tConsD (tVarD 4) (tConsD (tTupD tNilD) tNilD))))] (tVarD 10)))))
  (tRetD (tCD (.bl false)))
  tNextD))))))))))))
  (tRetD (tCD (.bl true))))
end K06
set_option Elab.async false
set_option linter.all false
set_option maxRecDepth 100000
set_option maxHeartbeats 1000000
namespace K06
open PySem PySem.Spec PyProof.Rows L2 DL KC
def top (i : Nat) : Stmt := PySem.Challenge.pw_rowsfilled_k06_division_in_x.main.body.getD i (.Pass ⟨0, 0, 0, 0⟩)
abbrev n_is_between : List Str := ["thing", "low", "high"]
abbrev p_is_between : List Str := ["thing", "low", "high"]
abbrev st_is_between : Stmt := top 6
theorem sc_is_between : FnScope n_is_between p_is_between (defScope st_is_between) := ⟨rfl, rfl, rfl, by decide +kernel, rfl, by decide +kernel, by decide +kernel⟩
abbrev n_need_prime : List Str := ["prime"]
abbrev p_need_prime : List Str := ["prime"]
abbrev st_need_prime : Stmt := top 7
theorem sc_need_prime : FnScope n_need_prime p_need_prime (defScope st_need_prime) := ⟨rfl, rfl, rfl, by decide +kernel, rfl, by decide +kernel, by decide +kernel⟩
abbrev n_is_term : List Str := ["prime", "thing"]
abbrev p_is_term : List Str := ["prime", "thing"]
abbrev st_is_term : Stmt := top 8
theorem sc_is_term : FnScope n_is_term p_is_term (defScope st_is_term) := ⟨rfl, rfl, rfl, by decide +kernel, rfl, by decide +kernel, by decide +kernel⟩
abbrev n_polys_right : List Str := ["prime", "thing", "one", "other", "term"]
abbrev p_polys_right : List Str := ["prime", "thing"]
abbrev st_polys_right : Stmt := top 9
theorem sc_polys_right : FnScope n_polys_right p_polys_right (defScope st_polys_right) := ⟨rfl, rfl, rfl, by decide +kernel, rfl, by decide +kernel, by decide +kernel⟩
abbrev n_need_poly : List Str := ["prime", "poly"]
abbrev p_need_poly : List Str := ["prime", "poly"]
abbrev st_need_poly : Stmt := top 10
theorem sc_need_poly : FnScope n_need_poly p_need_poly (defScope st_need_poly) := ⟨rfl, rfl, rfl, by decide +kernel, rfl, by decide +kernel, by decide +kernel⟩
abbrev n_book_of : List Str := ["poly", "i", "j", "c"]
abbrev p_book_of : List Str := ["poly"]
abbrev st_book_of : Stmt := top 11
theorem sc_book_of : FnScope n_book_of p_book_of (defScope st_book_of) := ⟨rfl, rfl, rfl, by decide +kernel, rfl, by decide +kernel, by decide +kernel⟩
abbrev n_poly_of : List Str := ["book", "pair"]
abbrev p_poly_of : List Str := ["book"]
abbrev st_poly_of : Stmt := top 12
theorem sc_poly_of : FnScope n_poly_of p_poly_of (defScope st_poly_of) := ⟨rfl, rfl, rfl, by decide +kernel, rfl, by decide +kernel, by decide +kernel⟩
abbrev n_added : List Str := ["prime", "one", "other", "number", "found", "pair", "worth"]
abbrev p_added : List Str := ["prime", "one", "other", "number"]
abbrev st_added : Stmt := top 13
theorem sc_added : FnScope n_added p_added (defScope st_added) := ⟨rfl, rfl, rfl, by decide +kernel, rfl, by decide +kernel, by decide +kernel⟩
abbrev n_highest : List Str := ["book", "spot", "pair"]
abbrev p_highest : List Str := ["book", "spot"]
abbrev st_highest : Stmt := top 14
theorem sc_highest : FnScope n_highest p_highest (defScope st_highest) := ⟨rfl, rfl, rfl, by decide +kernel, rfl, by decide +kernel, by decide +kernel⟩
abbrev n_back_of : List Str := ["prime", "number", "step"]
abbrev p_back_of : List Str := ["prime", "number"]
abbrev st_back_of : Stmt := top 15
theorem sc_back_of : FnScope n_back_of p_back_of (defScope st_back_of) := ⟨rfl, rfl, rfl, by decide +kernel, rfl, by decide +kernel, by decide +kernel⟩
abbrev n_need_x_poly : List Str := ["prime", "poly", "term"]
abbrev p_need_x_poly : List Str := ["prime", "poly"]
abbrev st_need_x_poly : Stmt := top 17
theorem sc_need_x_poly : FnScope n_need_x_poly p_need_x_poly (defScope st_need_x_poly) := ⟨rfl, rfl, rfl, by decide +kernel, rfl, by decide +kernel, by decide +kernel⟩
abbrev n_moved_up : List Str := ["book", "power", "pair"]
abbrev p_moved_up : List Str := ["book", "power"]
abbrev st_moved_up : Stmt := top 18
theorem sc_moved_up : FnScope n_moved_up p_moved_up (defScope st_moved_up) := ⟨rfl, rfl, rfl, by decide +kernel, rfl, by decide +kernel, by decide +kernel⟩
abbrev n_divide : List Str := ["prime", "one", "other", "quotient", "rest", "degree", "back", "power", "number"]
abbrev p_divide : List Str := ["prime", "one", "other"]
abbrev st_divide : Stmt := top 19
theorem sc_divide : FnScope n_divide p_divide (defScope st_divide) := ⟨rfl, rfl, rfl, by decide +kernel, rfl, by decide +kernel, by decide +kernel⟩
abbrev n_divided : List Str := ["prime", "one", "other", "quotient", "rest"]
abbrev p_divided : List Str := ["prime", "one", "other"]
abbrev st_divided : Stmt := top 20
theorem sc_divided : FnScope n_divided p_divided (defScope st_divided) := ⟨rfl, rfl, rfl, by decide +kernel, rfl, by decide +kernel, by decide +kernel⟩
abbrev n__law_begun : List Str := ["_law_script", "_law_cells_here", "_law_large", "_law_cell"]
abbrev p__law_begun : List Str := ["_law_script"]
abbrev st__law_begun : Stmt := top 22
theorem sc__law_begun : FnScope n__law_begun p__law_begun (defScope st__law_begun) := ⟨rfl, rfl, rfl, by decide +kernel, rfl, by decide +kernel, by decide +kernel⟩
abbrev n__law_draw : List Str := ["_law_state", "_law_size_here", "_law_found", "_law_turn", "_law_cell", "_law_mixed_here"]
abbrev p__law_draw : List Str := ["_law_state", "_law_size_here"]
abbrev st__law_draw : Stmt := top 23
theorem sc__law_draw : FnScope n__law_draw p__law_draw (defScope st__law_draw) := ⟨rfl, rfl, rfl, by decide +kernel, rfl, by decide +kernel, by decide +kernel⟩
abbrev n__law_pick : List Str := ["_law_state", "_law_several"]
abbrev p__law_pick : List Str := ["_law_state", "_law_several"]
abbrev st__law_pick : Stmt := top 24
theorem sc__law_pick : FnScope n__law_pick p__law_pick (defScope st__law_pick) := ⟨rfl, rfl, rfl, by decide +kernel, rfl, by decide +kernel, by decide +kernel⟩
abbrev n__law_mixed : List Str := ["_law_state", "_law_several", "_law_left", "_law_found"]
abbrev p__law_mixed : List Str := ["_law_state", "_law_several"]
abbrev st__law_mixed : Stmt := top 25
theorem sc__law_mixed : FnScope n__law_mixed p__law_mixed (defScope st__law_mixed) := ⟨rfl, rfl, rfl, by decide +kernel, rfl, by decide +kernel, by decide +kernel⟩
abbrev n__law_caught : List Str := ["_law_work", "_law_caught_here", "error"]
abbrev p__law_caught : List Str := ["_law_work"]
abbrev st__law_caught : Stmt := top 26
theorem sc__law_caught : FnScope n__law_caught p__law_caught (defScope st__law_caught) := ⟨rfl, rfl, rfl, by decide +kernel, rfl, by decide +kernel, by decide +kernel⟩
abbrev n__law_is_whole : List Str := ["_law_item"]
abbrev p__law_is_whole : List Str := ["_law_item"]
abbrev st__law_is_whole : Stmt := top 27
theorem sc__law_is_whole : FnScope n__law_is_whole p__law_is_whole (defScope st__law_is_whole) := ⟨rfl, rfl, rfl, by decide +kernel, rfl, by decide +kernel, by decide +kernel⟩
abbrev n__law_is_from : List Str := ["_law_item", "_law_low", "_law_top"]
abbrev p__law_is_from : List Str := ["_law_item", "_law_low", "_law_top"]
abbrev st__law_is_from : Stmt := top 28
theorem sc__law_is_from : FnScope n__law_is_from p__law_is_from (defScope st__law_is_from) := ⟨rfl, rfl, rfl, by decide +kernel, rfl, by decide +kernel, by decide +kernel⟩
abbrev n__law_prime : List Str := ["_law_state"]
abbrev p__law_prime : List Str := ["_law_state"]
abbrev st__law_prime : Stmt := top 29
theorem sc__law_prime : FnScope n__law_prime p__law_prime (defScope st__law_prime) := ⟨rfl, rfl, rfl, by decide +kernel, rfl, by decide +kernel, by decide +kernel⟩
abbrev n__law_no_prime : List Str := ["_law_state"]
abbrev p__law_no_prime : List Str := ["_law_state"]
abbrev st__law_no_prime : Stmt := top 30
theorem sc__law_no_prime : FnScope n__law_no_prime p__law_no_prime (defScope st__law_no_prime) := ⟨rfl, rfl, rfl, by decide +kernel, rfl, by decide +kernel, by decide +kernel⟩
abbrev n__law_is_poly : List Str := ["_law_prime_here", "_law_item", "_law_term", "_law_one", "_law_other"]
abbrev p__law_is_poly : List Str := ["_law_prime_here", "_law_item"]
abbrev st__law_is_poly : Stmt := top 31
theorem sc__law_is_poly : FnScope n__law_is_poly p__law_is_poly (defScope st__law_is_poly) := ⟨rfl, rfl, rfl, by decide +kernel, rfl, by decide +kernel, by decide +kernel⟩
abbrev n__law_dict : List Str := ["_law_poly_here", "_law_term"]
abbrev p__law_dict : List Str := ["_law_poly_here"]
abbrev st__law_dict : Stmt := top 32
theorem sc__law_dict : FnScope n__law_dict p__law_dict (defScope st__law_dict) := ⟨rfl, rfl, rfl, by decide +kernel, rfl, by decide +kernel, by decide +kernel⟩
abbrev n__law_poly_of : List Str := ["_law_told", "_law_pair"]
abbrev p__law_poly_of : List Str := ["_law_told"]
abbrev st__law_poly_of : Stmt := top 33
theorem sc__law_poly_of : FnScope n__law_poly_of p__law_poly_of (defScope st__law_poly_of) := ⟨rfl, rfl, rfl, by decide +kernel, rfl, by decide +kernel, by decide +kernel⟩
abbrev n__law_added : List Str := ["_law_prime_here", "_law_one", "_law_other", "_law_number", "_law_found", "_law_pair"]
abbrev p__law_added : List Str := ["_law_prime_here", "_law_one", "_law_other", "_law_number"]
abbrev st__law_added : Stmt := top 34
theorem sc__law_added : FnScope n__law_added p__law_added (defScope st__law_added) := ⟨rfl, rfl, rfl, by decide +kernel, rfl, by decide +kernel, by decide +kernel⟩
abbrev n__law_product : List Str := ["_law_prime_here", "_law_one", "_law_other", "_law_found", "_law_i", "_law_j", "_law_k", "_law_m", "_law_pair"]
abbrev p__law_product : List Str := ["_law_prime_here", "_law_one", "_law_other"]
abbrev st__law_product : Stmt := top 35
theorem sc__law_product : FnScope n__law_product p__law_product (defScope st__law_product) := ⟨rfl, rfl, rfl, by decide +kernel, rfl, by decide +kernel, by decide +kernel⟩
abbrev n__law_plus : List Str := ["_law_prime_here", "_law_one", "_law_other"]
abbrev p__law_plus : List Str := ["_law_prime_here", "_law_one", "_law_other"]
abbrev st__law_plus : Stmt := top 36
theorem sc__law_plus : FnScope n__law_plus p__law_plus (defScope st__law_plus) := ⟨rfl, rfl, rfl, by decide +kernel, rfl, by decide +kernel, by decide +kernel⟩
abbrev n__law_times : List Str := ["_law_prime_here", "_law_one", "_law_other"]
abbrev p__law_times : List Str := ["_law_prime_here", "_law_one", "_law_other"]
abbrev st__law_times : Stmt := top 37
theorem sc__law_times : FnScope n__law_times p__law_times (defScope st__law_times) := ⟨rfl, rfl, rfl, by decide +kernel, rfl, by decide +kernel, by decide +kernel⟩
abbrev n__law_high : List Str := ["_law_poly_here", "_law_spot", "_law_term"]
abbrev p__law_high : List Str := ["_law_poly_here", "_law_spot"]
abbrev st__law_high : Stmt := top 38
theorem sc__law_high : FnScope n__law_high p__law_high (defScope st__law_high) := ⟨rfl, rfl, rfl, by decide +kernel, rfl, by decide +kernel, by decide +kernel⟩
abbrev n__law_poly : List Str := ["_law_state", "_law_prime_here", "_law_most_x", "_law_most_y", "_law_way", "_law_menu", "_law_i", "_law_found", "_law_j", "_law_term"]
abbrev p__law_poly : List Str := ["_law_state", "_law_prime_here", "_law_most_x", "_law_most_y"]
abbrev st__law_poly : Stmt := top 39
theorem sc__law_poly : FnScope n__law_poly p__law_poly (defScope st__law_poly) := ⟨rfl, rfl, rfl, by decide +kernel, rfl, by decide +kernel, by decide +kernel⟩
abbrev n__law_some : List Str := ["_law_state", "_law_prime_here", "_law_most_x", "_law_most_y", "_law_told"]
abbrev p__law_some : List Str := ["_law_state", "_law_prime_here", "_law_most_x", "_law_most_y"]
abbrev st__law_some : Stmt := top 40
theorem sc__law_some : FnScope n__law_some p__law_some (defScope st__law_some) := ⟨rfl, rfl, rfl, by decide +kernel, rfl, by decide +kernel, by decide +kernel⟩
abbrev n__law_no_poly : List Str := ["_law_state", "_law_prime_here", "_law_told", "_law_spot", "_law_i", "_law_j", "_law_number", "_law_some_here", "_law_term", "_law_item"]
abbrev p__law_no_poly : List Str := ["_law_state", "_law_prime_here"]
abbrev st__law_no_poly : Stmt := top 41
theorem sc__law_no_poly : FnScope n__law_no_poly p__law_no_poly (defScope st__law_no_poly) := ⟨rfl, rfl, rfl, by decide +kernel, rfl, by decide +kernel, by decide +kernel⟩
abbrev n__law_x_poly : List Str := ["_law_state", "_law_prime_here", "_law_most", "_law_found", "_law_i", "_law_term"]
abbrev p__law_x_poly : List Str := ["_law_state", "_law_prime_here", "_law_most"]
abbrev st__law_x_poly : Stmt := top 42
theorem sc__law_x_poly : FnScope n__law_x_poly p__law_x_poly (defScope st__law_x_poly) := ⟨rfl, rfl, rfl, by decide +kernel, rfl, by decide +kernel, by decide +kernel⟩
abbrev n__law_divided : List Str := ["_law_prime_here", "_law_one", "_law_other", "_law_found", "_law_rest", "_law_degree", "_law_lowest", "_law_power", "_law_worth", "_law_lifted", "_law_number", "_law_term"]
abbrev p__law_divided : List Str := ["_law_prime_here", "_law_one", "_law_other"]
abbrev st__law_divided : Stmt := top 43
theorem sc__law_divided : FnScope n__law_divided p__law_divided (defScope st__law_divided) := ⟨rfl, rfl, rfl, by decide +kernel, rfl, by decide +kernel, by decide +kernel⟩
abbrev st_law : Stmt := top 44
theorem sc_law : FnScope n_law p_law (defScope st_law) := ⟨rfl, rfl, rfl, by decide +kernel, rfl, by decide +kernel, by decide +kernel⟩
structure Consts (mg : Str → Option Value) : Prop where
  MOST_POWER : ∃ t, mg "MOST_POWER" = some (.int 999 t)
structure Txt (K : PySem.W.Frag) (mg : Str → Option Value) : Prop where
  B : Blt mg
  C : Consts mg
  D_is_between : Df K mg "is_between" st_is_between p_is_between
  D_need_prime : Df K mg "need_prime" st_need_prime p_need_prime
  D_is_term : Df K mg "is_term" st_is_term p_is_term
  D_polys_right : Df K mg "polys_right" st_polys_right p_polys_right
  D_need_poly : Df K mg "need_poly" st_need_poly p_need_poly
  D_book_of : Df K mg "book_of" st_book_of p_book_of
  D_poly_of : Df K mg "poly_of" st_poly_of p_poly_of
  D_added : DfD K mg "added" st_added p_added 1
  D_highest : Df K mg "highest" st_highest p_highest
  D_back_of : Df K mg "back_of" st_back_of p_back_of
  D_need_x_poly : Df K mg "need_x_poly" st_need_x_poly p_need_x_poly
  D_moved_up : Df K mg "moved_up" st_moved_up p_moved_up
  D_divide : Df K mg "divide" st_divide p_divide
  D_divided : Df K mg "divided" st_divided p_divided
  D__law_begun : Df K mg "_law_begun" st__law_begun p__law_begun
  D__law_draw : Df K mg "_law_draw" st__law_draw p__law_draw
  D__law_pick : Df K mg "_law_pick" st__law_pick p__law_pick
  D__law_mixed : Df K mg "_law_mixed" st__law_mixed p__law_mixed
  D__law_caught : Df K mg "_law_caught" st__law_caught p__law_caught
  D__law_is_whole : Df K mg "_law_is_whole" st__law_is_whole p__law_is_whole
  D__law_is_from : Df K mg "_law_is_from" st__law_is_from p__law_is_from
  D__law_prime : Df K mg "_law_prime" st__law_prime p__law_prime
  D__law_no_prime : Df K mg "_law_no_prime" st__law_no_prime p__law_no_prime
  D__law_is_poly : Df K mg "_law_is_poly" st__law_is_poly p__law_is_poly
  D__law_dict : Df K mg "_law_dict" st__law_dict p__law_dict
  D__law_poly_of : Df K mg "_law_poly_of" st__law_poly_of p__law_poly_of
  D__law_added : Df K mg "_law_added" st__law_added p__law_added
  D__law_product : Df K mg "_law_product" st__law_product p__law_product
  D__law_plus : Df K mg "_law_plus" st__law_plus p__law_plus
  D__law_times : Df K mg "_law_times" st__law_times p__law_times
  D__law_high : Df K mg "_law_high" st__law_high p__law_high
  D__law_poly : Df K mg "_law_poly" st__law_poly p__law_poly
  D__law_some : Df K mg "_law_some" st__law_some p__law_some
  D__law_no_poly : Df K mg "_law_no_poly" st__law_no_poly p__law_no_poly
  D__law_x_poly : Df K mg "_law_x_poly" st__law_x_poly p__law_x_poly
  D__law_divided : Df K mg "_law_divided" st__law_divided p__law_divided
  D_law : Df K mg "law" st_law p_law
  X_BadPoly : Exc K mg "BadPoly"
  X_BadPrime : Exc K mg "BadPrime"
  I_BadPoly : IsC K mg "BadPoly" r_BadPoly
  I_BadPrime : IsC K mg "BadPrime" r_BadPrime
  fill : ∃ CS, mg "FillError" = some (.ref CS) ∧ ∀ n ∈ excs, ∀ C, mg n = some (.ref C) → PySem.W.exmOne K (.ref C) (.ref CS) = some true
section
variable {P : Program} {w : World} {K : PySem.W.Frag} {mg : Str → Option Value} {base : Heap}
/-! ### is_between -/
theorem d_is_between (T : Txt K mg) (X : Cx) (F : Fd) (f : Addr) (cdv : Value) (A : Around) (outer : List Env) (s : Shared) (H G : Hp) (sa sl sc : Addr) (E : XK)
    (eX : X = cxOf (L2.CX P w) P w K mg base n_is_between "is_between" (defScope st_is_between) f cdv A outer s H E) (eF : F = fdP K mg sa sl sc H G (fun cls d _ H => E cls d H)) (tk : Takes X F.W) (hr : Room 0 X.A) : DSs X F (defBody st_is_between) KC.t_is_between := by
  subst eX
  subst eF
  have B := T.B
  exact (dss_one (ds_ret (de_and (de_isi .int (db_pv 0 (pv 0)) B.isinstance B.int PyProof.Rows.boot_int boot_isi) (de_and (de_not (de_isi .bool (db_pv 0 (pv 0)) B.isinstance B.bool PyProof.Rows.boot_bool boot_isi)) (de_one (de_chain (op_leD) (op_leD) (db_pv 1 (pv 1)) (db_pv 0 (pv 0)) (db_pv 2 (pv 2))))))))
theorem ok_is_between (T : Txt K mg) {f : Addr} {fd : FuncData} (Fn : Fun K "is_between" "is_between" st_is_between f fd) : FnOk P w K mg base (L2.CX P w) 1 f fd p_is_between (spP K mg KC.pf_is_between) :=
  ok_P Fn sc_is_between KC.l_is_between (d_is_between T) KC.q_is_between
theorem h_is_between (T : Txt K mg) : Has P w K mg base 1 "is_between" p_is_between (spP K mg KC.pf_is_between) := has_of T.D_is_between fun f fd Fn => ok_is_between T Fn
/-! ### need_prime -/
theorem d_need_prime (T : Txt K mg) (X : Cx) (F : Fd) (f : Addr) (cdv : Value) (A : Around) (outer : List Env) (s : Shared) (H G : Hp) (sa sl sc : Addr) (E : XK)
    (eX : X = cxOf (L2.CX P w) P w K mg base n_need_prime "need_prime" (defScope st_need_prime) f cdv A outer s H E) (eF : F = fdP K mg sa sl sc H G (fun cls d _ H => E cls d H)) (tk : Takes X F.W) (hr : Room 1 X.A) : DSs X F (defBody st_need_prime) KC.t_need_prime := by
  subst eX
  subst eF
  have h_is_between := h_is_between (P := P) (w := w) (base := base) T
  have B := T.B
  have X_BadPrime := T.X_BadPrime
  exact (dss_one (ds_if (dt_w (dw_or (dt_not (dt_tru (DB.of (de_P h_is_between (hr.mono (by decide)) tk (da_cons (de_pv 0 (pv 0)) (da_cons de_int (da_cons de_int da_nil))))))) (dw_or1 (dt_cmp (op_notInDD (hr65 hr)) (db_pv 0 (pv 0)) (DB.of (de_lst (da_cons de_int (da_cons de_int (da_cons de_int (da_cons de_int da_nil))))))))))
      (dss_one (ds_raiseX X_BadPrime tk))
      dss_nil))
theorem ok_need_prime (T : Txt K mg) {f : Addr} {fd : FuncData} (Fn : Fun K "need_prime" "need_prime" st_need_prime f fd) : FnOk P w K mg base (L2.CX P w) 2 f fd p_need_prime (spP K mg KC.pf_need_prime) :=
  ok_P Fn sc_need_prime KC.l_need_prime (d_need_prime T) KC.q_need_prime
theorem h_need_prime (T : Txt K mg) : Has P w K mg base 2 "need_prime" p_need_prime (spP K mg KC.pf_need_prime) := has_of T.D_need_prime fun f fd Fn => ok_need_prime T Fn
/-! ### is_term -/
theorem d_is_term (T : Txt K mg) (X : Cx) (F : Fd) (f : Addr) (cdv : Value) (A : Around) (outer : List Env) (s : Shared) (H G : Hp) (sa sl sc : Addr) (E : XK)
    (eX : X = cxOf (L2.CX P w) P w K mg base n_is_term "is_term" (defScope st_is_term) f cdv A outer s H E) (eF : F = fdP K mg sa sl sc H G (fun cls d _ H => E cls d H)) (tk : Takes X F.W) (hr : Room 1 X.A) : DSs X F (defBody st_is_term) KC.t_is_term := by
  subst eX
  subst eF
  have h_is_between := h_is_between (P := P) (w := w) (base := base) T
  have B := T.B
  have C := T.C
  exact (dss_cons (ds_if (dt_w (dw_or (dt_not (dt_tru (DB.of (de_isi .tup (db_pv 1 (pv 1)) B.isinstance B.tuple PyProof.Rows.boot_tuple boot_isi)))) (dw_or (dt_cmp (op_neDD hr.units) (DB.of (de_blt (call_lenD) B.len boot_len' (dab_cons (db_pv 1 (pv 1)) dab_nil))) (DB.of de_int)) (dw_or1 (dt_not (dt_tru (DB.of (de_P h_is_between (hr.mono (by decide)) tk (da_cons (de_ix (hu_of hr) (db_pv 1 (pv 1)) (DB.of de_int)) (da_cons de_int (da_cons (de_op op_subD (db_pv 0 (pv 0)) (DB.of de_int)) da_nil)))))))))))
      (dss_one (ds_ret de_bl))
      dss_nil)
      (dss_one (ds_ret (de_and (de_P h_is_between (hr.mono (by decide)) tk (da_cons (de_ix (hu_of hr) (db_pv 1 (pv 1)) (DB.of de_int)) (da_cons de_int (da_cons (de_globI C.MOST_POWER) da_nil)))) (de_one (de_P h_is_between (hr.mono (by decide)) tk (da_cons (de_ix (hu_of hr) (db_pv 1 (pv 1)) (DB.of de_int)) (da_cons de_int (da_cons (de_globI C.MOST_POWER) da_nil)))))))))
theorem ok_is_term (T : Txt K mg) {f : Addr} {fd : FuncData} (Fn : Fun K "is_term" "is_term" st_is_term f fd) : FnOk P w K mg base (L2.CX P w) 2 f fd p_is_term (spP K mg KC.pf_is_term) :=
  ok_P Fn sc_is_term KC.l_is_term (d_is_term T) KC.q_is_term
theorem h_is_term (T : Txt K mg) : Has P w K mg base 2 "is_term" p_is_term (spP K mg KC.pf_is_term) := has_of T.D_is_term fun f fd Fn => ok_is_term T Fn
/-! ### polys_right -/
theorem d_polys_right (T : Txt K mg) (X : Cx) (F : Fd) (f : Addr) (cdv : Value) (A : Around) (outer : List Env) (s : Shared) (H G : Hp) (sa sl sc : Addr) (E : XK)
    (eX : X = cxOf (L2.CX P w) P w K mg base n_polys_right "polys_right" (defScope st_polys_right) f cdv A outer s H E) (eF : F = fdP K mg sa sl sc H G (fun cls d _ H => E cls d H)) (tk : Takes X F.W) (hr : Room 2 X.A) : DSs X F (defBody st_polys_right) KC.t_polys_right := by
  subst eX
  subst eF
  have h_is_term := h_is_term (P := P) (w := w) (base := base) T
  have B := T.B
  exact (dss_cons (ds_if (dt_w (dw_or (dt_not (dt_tru (DB.of (de_isi .tup (db_pv 1 (pv 1)) B.isinstance B.tuple PyProof.Rows.boot_tuple boot_isi)))) (dw_or1 (dt_not (dt_tru (DB.of (de_blt (call_allD rfl) B.all boot_all' (dab_cons (DB.of (DE.of (do_lc (.one 4) (K := K) [("term", 4)] rfl sc_polys_right.nd (di_any (de_pv 1 (pv 1))) (blkOk_by (show blkC n_polys_right (defScope st_polys_right) _ _ = true by decide +kernel)) (fun s H C cl fp H0 G0 => (pg_name (i := 4) sc_polys_right.nd rfl (by first | exact Or.inl rfl | exact Or.inr rfl))) (fun s H C cl fp H0 G0 => dts_nil) (fun s H C cl fp H0 G0 => (de_P h_is_term (hr.mono (by decide)) takes0 (da_cons (de_pv 0 (pv 0)) (da_cons (de_pv 4 (pv 4)) da_nil))))))) dab_nil))))))))
      (dss_one (ds_ret de_bl))
      dss_nil)
      (dss_one (ds_ret (de_blt (call_allD rfl) B.all boot_all' (dab_cons (DB.of (DE.of (do_lc (.tup [2, 3]) (K := K) [("one", 2), ("other", 3)] rfl sc_polys_right.nd (di_zip B.zip (da_cons (de_pv 1 (pv 1)) (da_cons (de_slice (db_pv 1 (pv 1)) (dpo_some de_int) dpo_none) da_nil))) (blkOk_by (show blkC n_polys_right (defScope st_polys_right) _ _ = true by decide +kernel)) (fun s H C cl fp H0 G0 => (pg_tup rfl (pgs_cons (pg_name (i := 2) sc_polys_right.nd rfl (by first | exact Or.inl rfl | exact Or.inr rfl)) (pgs_cons (pg_name (i := 3) sc_polys_right.nd rfl (by first | exact Or.inl rfl | exact Or.inr rfl)) pgs_nil)))) (fun s H C cl fp H0 G0 => dts_nil) (fun s H C cl fp H0 G0 => (de_cmp (op_ltD hr.units0) (DB.of (de_slice (db_pv 2 (pv 2)) dpo_none (dpo_some de_int))) (DB.of (de_slice (db_pv 3 (pv 3)) dpo_none (dpo_some de_int)))))))) dab_nil)))))
theorem ok_polys_right (T : Txt K mg) {f : Addr} {fd : FuncData} (Fn : Fun K "polys_right" "polys_right" st_polys_right f fd) : FnOk P w K mg base (L2.CX P w) 3 f fd p_polys_right (spP K mg KC.pf_polys_right) :=
  ok_P Fn sc_polys_right KC.l_polys_right (d_polys_right T) KC.q_polys_right
theorem h_polys_right (T : Txt K mg) : Has P w K mg base 3 "polys_right" p_polys_right (spP K mg KC.pf_polys_right) := has_of T.D_polys_right fun f fd Fn => ok_polys_right T Fn
/-! ### need_poly -/
theorem d_need_poly (T : Txt K mg) (X : Cx) (F : Fd) (f : Addr) (cdv : Value) (A : Around) (outer : List Env) (s : Shared) (H G : Hp) (sa sl sc : Addr) (E : XK)
    (eX : X = cxOf (L2.CX P w) P w K mg base n_need_poly "need_poly" (defScope st_need_poly) f cdv A outer s H E) (eF : F = fdP K mg sa sl sc H G (fun cls d _ H => E cls d H)) (tk : Takes X F.W) (hr : Room 3 X.A) : DSs X F (defBody st_need_poly) KC.t_need_poly := by
  subst eX
  subst eF
  have h_polys_right := h_polys_right (P := P) (w := w) (base := base) T
  have B := T.B
  have X_BadPoly := T.X_BadPoly
  exact (dss_one (ds_if (dt_not (dt_tru (DB.of (de_P h_polys_right (hr.mono (by decide)) tk (da_cons (de_pv 0 (pv 0)) (da_cons (de_pv 1 (pv 1)) da_nil))))))
      (dss_one (ds_raiseX X_BadPoly tk))
      dss_nil))
theorem ok_need_poly (T : Txt K mg) {f : Addr} {fd : FuncData} (Fn : Fun K "need_poly" "need_poly" st_need_poly f fd) : FnOk P w K mg base (L2.CX P w) 4 f fd p_need_poly (spP K mg KC.pf_need_poly) :=
  ok_P Fn sc_need_poly KC.l_need_poly (d_need_poly T) KC.q_need_poly
theorem h_need_poly (T : Txt K mg) : Has P w K mg base 4 "need_poly" p_need_poly (spP K mg KC.pf_need_poly) := has_of T.D_need_poly fun f fd Fn => ok_need_poly T Fn
/-! ### book_of -/
theorem d_book_of (T : Txt K mg) (X : Cx) (F : Fd) (f : Addr) (cdv : Value) (A : Around) (outer : List Env) (s : Shared) (H G : Hp) (sa sl sc : Addr) (E : XK)
    (eX : X = cxOf (L2.CX P w) P w K mg base n_book_of "book_of" (defScope st_book_of) f cdv A outer s H E) (eF : F = fdP K mg sa sl sc H G (fun cls d _ H => E cls d H)) (tk : Takes X F.W) (hr : Room 0 X.A) : DSs X F (defBody st_book_of) KC.t_book_of := by
  subst eX
  subst eF

  exact (dss_one (ds_ret (DE.of (do_dc true (.tup [1, 2, 3]) (K := K) [("i", 1), ("j", 2), ("c", 3)] (hu_of hr) rfl sc_book_of.nd (di_any (de_pv 0 (pv 0))) (blkOk_by (show blkC n_book_of (defScope st_book_of) _ _ = true by decide +kernel)) (fun s H C cl fp H0 G0 => (pg_tup rfl (pgs_cons (pg_name (i := 1) sc_book_of.nd rfl (by first | exact Or.inl rfl | exact Or.inr rfl)) (pgs_cons (pg_name (i := 2) sc_book_of.nd rfl (by first | exact Or.inl rfl | exact Or.inr rfl)) (pgs_cons (pg_name (i := 3) sc_book_of.nd rfl (by first | exact Or.inl rfl | exact Or.inr rfl)) pgs_nil))))) (fun s H C cl fp H0 G0 => dts_nil) (fun s H C cl fp H0 G0 => (de_tup (da_cons (de_pv 1 (pv 1)) (da_cons (de_pv 2 (pv 2)) da_nil)))) (fun s H C cl fp H0 G0 => (de_pv 3 (pv 3)))))))
theorem ok_book_of (T : Txt K mg) {f : Addr} {fd : FuncData} (Fn : Fun K "book_of" "book_of" st_book_of f fd) : FnOk P w K mg base (L2.CX P w) 1 f fd p_book_of (spP K mg KC.pf_book_of) :=
  ok_P Fn sc_book_of KC.l_book_of (d_book_of T) KC.q_book_of
theorem h_book_of (T : Txt K mg) : Has P w K mg base 1 "book_of" p_book_of (spP K mg KC.pf_book_of) := has_of T.D_book_of fun f fd Fn => ok_book_of T Fn
/-! ### poly_of -/
theorem d_poly_of (T : Txt K mg) (X : Cx) (F : Fd) (f : Addr) (cdv : Value) (A : Around) (outer : List Env) (s : Shared) (H G : Hp) (sa sl sc : Addr) (E : XK)
    (eX : X = cxOf (L2.CX P w) P w K mg base n_poly_of "poly_of" (defScope st_poly_of) f cdv A outer s H E) (eF : F = fdP K mg sa sl sc H G (fun cls d _ H => E cls d H)) (tk : Takes X F.W) (hr : Room 0 X.A) : DSs X F (defBody st_poly_of) KC.t_poly_of := by
  subst eX
  subst eF
  have B := T.B
  exact (dss_one (ds_ret (de_ty (call_tupleD) B.tuple boot_tuple' (dab_cons (DB.of (DE.of (do_lc (.one 1) (K := K) [("pair", 1)] rfl sc_poly_of.nd (di_any (de_blt (call_sort2D rfl) B.sorted boot_sorted' (dab_cons (db_pv 0 (pv 0)) dab_nil))) (blkOk_by (show blkC n_poly_of (defScope st_poly_of) _ _ = true by decide +kernel)) (fun s H C cl fp H0 G0 => (pg_name (i := 1) sc_poly_of.nd rfl (by first | exact Or.inl rfl | exact Or.inr rfl))) (fun s H C cl fp H0 G0 => dts_nil) (fun s H C cl fp H0 G0 => (de_tup (da_cons (de_ix (hu_of hr) (db_pv 1 (pv 1)) (DB.of de_int)) (da_cons (de_ix (hu_of hr) (db_pv 1 (pv 1)) (DB.of de_int)) (da_cons (de_ix (hu_of hr) (db_pv 0 (pv 0)) (db_pv 1 (pv 1))) da_nil)))))))) dab_nil))))
theorem ok_poly_of (T : Txt K mg) {f : Addr} {fd : FuncData} (Fn : Fun K "poly_of" "poly_of" st_poly_of f fd) : FnOk P w K mg base (L2.CX P w) 1 f fd p_poly_of (spP K mg KC.pf_poly_of) :=
  ok_P Fn sc_poly_of KC.l_poly_of (d_poly_of T) KC.q_poly_of
theorem h_poly_of (T : Txt K mg) : Has P w K mg base 1 "poly_of" p_poly_of (spP K mg KC.pf_poly_of) := has_of T.D_poly_of fun f fd Fn => ok_poly_of T Fn
/-! ### added -/
theorem d_added (T : Txt K mg) (X : Cx) (F : Fd) (f : Addr) (cdv : Value) (A : Around) (outer : List Env) (s : Shared) (H G : Hp) (sa sl sc : Addr) (E : XK)
    (eX : X = cxOf (L2.CX P w) P w K mg base n_added "added" (defScope st_added) f cdv A outer s H E) (eF : F = fdP K mg sa sl sc H G (fun cls d _ H => E cls d H)) (tk : Takes X F.W) (hr : Room 0 X.A) : DSs X F (defBody st_added) KC.t_added := by
  subst eX
  subst eF
  have B := T.B
  exact (dss_cons (ds_setO 4 sc_added.nd (do_ty2 (call_dict1D rfl hr.units) B.dict boot_dict' (dab_cons (db_pv 1 (pv 1)) dab_nil)))
      (dss_cons (ds_for (.one 5) (K := K) (passes_of rfl) rfl (di_any (de_pv 2 (pv 2))) (pg_name (i := 5) sc_added.nd rfl (by first | exact Or.inl rfl | exact Or.inr rfl))
      (dss_cons (ds_set 6 sc_added.nd (de_op op_modD (DB.of (de_op op_addD (DB.of (de_get2 (hu_of hr) (db_pv 4 (pv 4)) (de_pv 5 (pv 5)) de_int ⟨rfl, rfl, rfl, rfl⟩)) (DB.of (de_op op_mulD (db_pv 3 (pv 3)) (DB.of (de_ix (hu_of hr) (db_pv 2 (pv 2)) (db_pv 5 (pv 5)))))))) (db_pv 0 (pv 0))))
      (dss_one (ds_if (dt_cmp (op_neDD hr.units) (db_pv 6 (pv 6)) (DB.of de_int))
      (dss_one (ds_put 4 (hu_of hr) (de_pv 5 (pv 5)) (de_pv 6 (pv 6))))
      (dss_one (ds_exprP (dp_dpop 4 (hu_of hr) (de_pv 5 (pv 5)) de_non)))))))
      (dss_freeze 4 (dss_one (ds_ret (de_pv 4 (pv 4)))))))
theorem hd_added (T : Txt K mg) : HasD P w K mg base 1 "added" p_added (spP K mg KC.pf_added) 1 :=
  hasD_of T.D_added fun f fd Fn => ok_PD Fn sc_added KC.l_added (d_added T) KC.q_added
theorem h_added (T : Txt K mg) : Has P w K mg base 1 "added" p_added (spP K mg KC.pf_added) := (hd_added T).has
/-! ### highest -/
theorem d_highest (T : Txt K mg) (X : Cx) (F : Fd) (f : Addr) (cdv : Value) (A : Around) (outer : List Env) (s : Shared) (H G : Hp) (sa sl sc : Addr) (E : XK)
    (eX : X = cxOf (L2.CX P w) P w K mg base n_highest "highest" (defScope st_highest) f cdv A outer s H E) (eF : F = fdP K mg sa sl sc H G (fun cls d _ H => E cls d H)) (tk : Takes X F.W) (hr : Room 0 X.A) : DSs X F (defBody st_highest) KC.t_highest := by
  subst eX
  subst eF
  have B := T.B
  exact (dss_one (ds_ret (de_bltK (call_topDfD rfl (hr65 hr)) B.max boot_max' (dab_cons (DB.of (DE.of (do_lc (.one 2) (K := K) [("pair", 2)] rfl sc_highest.nd (di_any (de_pv 0 (pv 0))) (blkOk_by (show blkC n_highest (defScope st_highest) _ _ = true by decide +kernel)) (fun s H C cl fp H0 G0 => (pg_name (i := 2) sc_highest.nd rfl (by first | exact Or.inl rfl | exact Or.inr rfl))) (fun s H C cl fp H0 G0 => dts_nil) (fun s H C cl fp H0 G0 => (de_ix (hu_of hr) (db_pv 2 (pv 2)) (db_pv 1 (pv 1))))))) dab_nil) (dk_cons (de_neg (DB.of de_int)) dk_nil))))
theorem ok_highest (T : Txt K mg) {f : Addr} {fd : FuncData} (Fn : Fun K "highest" "highest" st_highest f fd) : FnOk P w K mg base (L2.CX P w) 1 f fd p_highest (spP K mg KC.pf_highest) :=
  ok_P Fn sc_highest KC.l_highest (d_highest T) KC.q_highest
theorem h_highest (T : Txt K mg) : Has P w K mg base 1 "highest" p_highest (spP K mg KC.pf_highest) := has_of T.D_highest fun f fd Fn => ok_highest T Fn
/-! ### back_of -/
theorem d_back_of (T : Txt K mg) (X : Cx) (F : Fd) (f : Addr) (cdv : Value) (A : Around) (outer : List Env) (s : Shared) (H G : Hp) (sa sl sc : Addr) (E : XK)
    (eX : X = cxOf (L2.CX P w) P w K mg base n_back_of "back_of" (defScope st_back_of) f cdv A outer s H E) (eF : F = fdP K mg sa sl sc H G (fun cls d _ H => E cls d H)) (tk : Takes X F.W) (hr : Room 0 X.A) : DSs X F (defBody st_back_of) KC.t_back_of := by
  subst eX
  subst eF
  have B := T.B
  exact (dss_one (ds_ret (de_ix (hu_of hr) (DB.of (DE.of (do_lc (.one 2) (K := K) [("step", 2)] rfl sc_back_of.nd (di_range2 B.range (da_cons de_int (da_cons (de_pv 0 (pv 0)) da_nil))) (blkOk_by (show blkC n_back_of (defScope st_back_of) _ _ = true by decide +kernel)) (fun s H C cl fp H0 G0 => (pg_name (i := 2) sc_back_of.nd rfl (by first | exact Or.inl rfl | exact Or.inr rfl))) (fun s H C cl fp H0 G0 => (dts_one (dt_cmp (op_eqDD hr.units) (DB.of (de_op op_modD (DB.of (de_op op_mulD (db_pv 2 (pv 2)) (db_pv 1 (pv 1)))) (db_pv 0 (pv 0)))) (DB.of de_int)))) (fun s H C cl fp H0 G0 => (de_pv 2 (pv 2)))))) (DB.of de_int))))
theorem ok_back_of (T : Txt K mg) {f : Addr} {fd : FuncData} (Fn : Fun K "back_of" "back_of" st_back_of f fd) : FnOk P w K mg base (L2.CX P w) 1 f fd p_back_of (spP K mg KC.pf_back_of) :=
  ok_P Fn sc_back_of KC.l_back_of (d_back_of T) KC.q_back_of
theorem h_back_of (T : Txt K mg) : Has P w K mg base 1 "back_of" p_back_of (spP K mg KC.pf_back_of) := has_of T.D_back_of fun f fd Fn => ok_back_of T Fn
/-! ### need_x_poly -/
theorem d_need_x_poly (T : Txt K mg) (X : Cx) (F : Fd) (f : Addr) (cdv : Value) (A : Around) (outer : List Env) (s : Shared) (H G : Hp) (sa sl sc : Addr) (E : XK)
    (eX : X = cxOf (L2.CX P w) P w K mg base n_need_x_poly "need_x_poly" (defScope st_need_x_poly) f cdv A outer s H E) (eF : F = fdP K mg sa sl sc H G (fun cls d _ H => E cls d H)) (tk : Takes X F.W) (hr : Room 4 X.A) : DSs X F (defBody st_need_x_poly) KC.t_need_x_poly := by
  subst eX
  subst eF
  have h_need_poly := h_need_poly (P := P) (w := w) (base := base) T
  have B := T.B
  have X_BadPoly := T.X_BadPoly
  exact (dss_cons (ds_expr (de_P h_need_poly (hr.mono (by decide)) tk (da_cons (de_pv 0 (pv 0)) (da_cons (de_pv 1 (pv 1)) da_nil))))
      (dss_one (ds_if (dt_cmp (op_neDD hr.units) (DB.of (DE.of (do_lc (.one 2) (K := K) [("term", 2)] rfl sc_need_x_poly.nd (di_any (de_pv 1 (pv 1))) (blkOk_by (show blkC n_need_x_poly (defScope st_need_x_poly) _ _ = true by decide +kernel)) (fun s H C cl fp H0 G0 => (pg_name (i := 2) sc_need_x_poly.nd rfl (by first | exact Or.inl rfl | exact Or.inr rfl))) (fun s H C cl fp H0 G0 => (dts_one (dt_cmp (op_neDD hr.units) (DB.of (de_ix (hu_of hr) (db_pv 2 (pv 2)) (DB.of de_int))) (DB.of de_int)))) (fun s H C cl fp H0 G0 => de_int)))) (DB.of (de_lst da_nil)))
      (dss_one (ds_raiseX X_BadPoly tk))
      dss_nil)))
theorem ok_need_x_poly (T : Txt K mg) {f : Addr} {fd : FuncData} (Fn : Fun K "need_x_poly" "need_x_poly" st_need_x_poly f fd) : FnOk P w K mg base (L2.CX P w) 5 f fd p_need_x_poly (spP K mg KC.pf_need_x_poly) :=
  ok_P Fn sc_need_x_poly KC.l_need_x_poly (d_need_x_poly T) KC.q_need_x_poly
theorem h_need_x_poly (T : Txt K mg) : Has P w K mg base 5 "need_x_poly" p_need_x_poly (spP K mg KC.pf_need_x_poly) := has_of T.D_need_x_poly fun f fd Fn => ok_need_x_poly T Fn
/-! ### moved_up -/
theorem d_moved_up (T : Txt K mg) (X : Cx) (F : Fd) (f : Addr) (cdv : Value) (A : Around) (outer : List Env) (s : Shared) (H G : Hp) (sa sl sc : Addr) (E : XK)
    (eX : X = cxOf (L2.CX P w) P w K mg base n_moved_up "moved_up" (defScope st_moved_up) f cdv A outer s H E) (eF : F = fdP K mg sa sl sc H G (fun cls d _ H => E cls d H)) (tk : Takes X F.W) (hr : Room 0 X.A) : DSs X F (defBody st_moved_up) KC.t_moved_up := by
  subst eX
  subst eF
  have B := T.B
  exact (dss_one (ds_ret (DE.of (do_dc true (.one 2) (K := K) [("pair", 2)] (hu_of hr) rfl sc_moved_up.nd (di_any (de_pv 0 (pv 0))) (blkOk_by (show blkC n_moved_up (defScope st_moved_up) _ _ = true by decide +kernel)) (fun s H C cl fp H0 G0 => (pg_name (i := 2) sc_moved_up.nd rfl (by first | exact Or.inl rfl | exact Or.inr rfl))) (fun s H C cl fp H0 G0 => dts_nil) (fun s H C cl fp H0 G0 => (de_tup (da_cons (de_op op_addD (DB.of (de_ix (hu_of hr) (db_pv 2 (pv 2)) (DB.of de_int))) (db_pv 1 (pv 1))) (da_cons (de_ix (hu_of hr) (db_pv 2 (pv 2)) (DB.of de_int)) da_nil)))) (fun s H C cl fp H0 G0 => (de_ix (hu_of hr) (db_pv 0 (pv 0)) (db_pv 2 (pv 2))))))))
theorem ok_moved_up (T : Txt K mg) {f : Addr} {fd : FuncData} (Fn : Fun K "moved_up" "moved_up" st_moved_up f fd) : FnOk P w K mg base (L2.CX P w) 1 f fd p_moved_up (spP K mg KC.pf_moved_up) :=
  ok_P Fn sc_moved_up KC.l_moved_up (d_moved_up T) KC.q_moved_up
theorem h_moved_up (T : Txt K mg) : Has P w K mg base 1 "moved_up" p_moved_up (spP K mg KC.pf_moved_up) := has_of T.D_moved_up fun f fd Fn => ok_moved_up T Fn
/-! ### divide -/
theorem d_divide (T : Txt K mg) (X : Cx) (F : Fd) (f : Addr) (cdv : Value) (A : Around) (outer : List Env) (s : Shared) (H G : Hp) (sa sl sc : Addr) (E : XK)
    (eX : X = cxOf (L2.CX P w) P w K mg base n_divide "divide" (defScope st_divide) f cdv A outer s H E) (eF : F = fdP K mg sa sl sc H G (fun cls d _ H => E cls d H)) (tk : Takes X F.W) (hr : Room 1 X.A) : DSs X F (defBody st_divide) KC.t_divide := by
  subst eX
  subst eF
  have h_highest := h_highest (P := P) (w := w) (base := base) T
  have h_back_of := h_back_of (P := P) (w := w) (base := base) T
  have h_added := h_added (P := P) (w := w) (base := base) T
  have hd_added := hd_added (P := P) (w := w) (base := base) T
  have h_moved_up := h_moved_up (P := P) (w := w) (base := base) T
  have B := T.B
  exact (dss_cons (ds_par3 3 4 5 sc_divide.nd (dai_own do_dictT fun _ _ => (dai_val (DE.of (do_ty2 (call_dict1D rfl hr.units) B.dict boot_dict' (dab_cons (db_pv 1 (pv 1)) dab_nil))) (dai_val (de_P h_highest (hr.mono (by decide)) tk (da_cons (de_pv 2 (pv 2)) (da_cons de_int da_nil))) dai_nil))) (by decide) (by decide) (by decide) rfl)
      (dss_cons (ds_set 6 sc_divide.nd (de_P h_back_of (hr.mono (by decide)) tk (da_cons (de_pv 0 (pv 0)) (da_cons (de_ix (hu_of hr) (db_pv 2 (pv 2)) (DB.of (de_tup (da_cons (de_pv 5 (pv 5)) (da_cons de_int da_nil))))) da_nil))))
      (dss_cons (ds_while (passes_of rfl) (dt_cmp (op_geD hr.units0) (DB.of (de_P h_highest (hr.mono (by decide)) tk (da_cons (de_pv 4 (pv 4)) (da_cons de_int da_nil)))) (db_pv 5 (pv 5)))
      (dss_cons (ds_set 7 sc_divide.nd (de_P h_highest (hr.mono (by decide)) tk (da_cons (de_pv 4 (pv 4)) (da_cons de_int da_nil))))
      (dss_cons (ds_set 8 sc_divide.nd (de_op op_modD (DB.of (de_op op_mulD (DB.of (de_ix (hu_of hr) (db_pv 4 (pv 4)) (DB.of (de_tup (da_cons (de_pv 7 (pv 7)) (da_cons de_int da_nil)))))) (db_pv 6 (pv 6)))) (db_pv 0 (pv 0))))
      (dss_cons (ds_put 3 (hu_of hr) (de_tup (da_cons (de_op op_subD (db_pv 7 (pv 7)) (db_pv 5 (pv 5))) (da_cons de_int da_nil))) (de_pv 8 (pv 8)))
      (dss_one (ds_set 4 sc_divide.nd (de_P h_added (hr.mono (by decide)) tk (da_cons (de_pv 0 (pv 0)) (da_cons (de_pv 4 (pv 4)) (da_cons (de_P h_moved_up (hr.mono (by decide)) tk (da_cons (de_pv 2 (pv 2)) (da_cons (de_op op_subD (db_pv 7 (pv 7)) (db_pv 5 (pv 5))) da_nil))) (da_cons (de_neg (db_pv 8 (pv 8))) da_nil)))))))))))
      (dss_freeze 3 (dss_one (ds_ret (de_tup (da_cons (de_pv 3 (pv 3)) (da_cons (de_pv 4 (pv 4)) da_nil)))))))))
theorem ok_divide (T : Txt K mg) {f : Addr} {fd : FuncData} (Fn : Fun K "divide" "divide" st_divide f fd) : FnOk P w K mg base (L2.CX P w) 2 f fd p_divide (spP K mg KC.pf_divide) :=
  ok_P Fn sc_divide KC.l_divide (d_divide T) KC.q_divide
theorem h_divide (T : Txt K mg) : Has P w K mg base 2 "divide" p_divide (spP K mg KC.pf_divide) := has_of T.D_divide fun f fd Fn => ok_divide T Fn
/-! ### divided -/
theorem d_divided (T : Txt K mg) (X : Cx) (F : Fd) (f : Addr) (cdv : Value) (A : Around) (outer : List Env) (s : Shared) (H G : Hp) (sa sl sc : Addr) (E : XK)
    (eX : X = cxOf (L2.CX P w) P w K mg base n_divided "divided" (defScope st_divided) f cdv A outer s H E) (eF : F = fdP K mg sa sl sc H G (fun cls d _ H => E cls d H)) (tk : Takes X F.W) (hr : Room 5 X.A) : DSs X F (defBody st_divided) KC.t_divided := by
  subst eX
  subst eF
  have h_need_prime := h_need_prime (P := P) (w := w) (base := base) T
  have h_need_x_poly := h_need_x_poly (P := P) (w := w) (base := base) T
  have h_divide := h_divide (P := P) (w := w) (base := base) T
  have h_book_of := h_book_of (P := P) (w := w) (base := base) T
  have h_poly_of := h_poly_of (P := P) (w := w) (base := base) T
  have B := T.B
  have X_BadPoly := T.X_BadPoly
  exact (dss_cons (ds_expr (de_P h_need_prime (hr.mono (by decide)) tk (da_cons (de_pv 0 (pv 0)) da_nil)))
      (dss_cons (ds_expr (de_P h_need_x_poly (hr.mono (by decide)) tk (da_cons (de_pv 0 (pv 0)) (da_cons (de_pv 1 (pv 1)) da_nil))))
      (dss_cons (ds_expr (de_P h_need_x_poly (hr.mono (by decide)) tk (da_cons (de_pv 0 (pv 0)) (da_cons (de_pv 2 (pv 2)) da_nil))))
      (dss_cons (ds_if (dt_cmp (op_eqDD hr.units) (db_pv 2 (pv 2)) (DB.of (de_tup da_nil)))
      (dss_one (ds_raiseX X_BadPoly tk))
      dss_nil)
      (dss_cons (ds_tg (.tup [3, 4]) (K := K) (de_P h_divide (hr.mono (by decide)) tk (da_cons (de_pv 0 (pv 0)) (da_cons (de_P h_book_of (hr.mono (by decide)) tk (da_cons (de_pv 1 (pv 1)) da_nil)) (da_cons (de_P h_book_of (hr.mono (by decide)) tk (da_cons (de_pv 2 (pv 2)) da_nil)) da_nil)))) (pg_tup rfl (pgs_cons (pg_name (i := 3) sc_divided.nd rfl (by first | exact Or.inl rfl | exact Or.inr rfl)) (pgs_cons (pg_name (i := 4) sc_divided.nd rfl (by first | exact Or.inl rfl | exact Or.inr rfl)) pgs_nil))))
      (dss_one (ds_ret (de_tup (da_cons (de_P h_poly_of (hr.mono (by decide)) tk (da_cons (de_pv 3 (pv 3)) da_nil)) (da_cons (de_P h_poly_of (hr.mono (by decide)) tk (da_cons (de_pv 4 (pv 4)) da_nil)) da_nil))))))))))
theorem ok_divided (T : Txt K mg) {f : Addr} {fd : FuncData} (Fn : Fun K "divided" "divided" st_divided f fd) : FnOk P w K mg base (L2.CX P w) 6 f fd p_divided (spP K mg KC.pf_divided) :=
  ok_P Fn sc_divided KC.l_divided (d_divided T) KC.q_divided
theorem h_divided (T : Txt K mg) : Has P w K mg base 6 "divided" p_divided (spP K mg KC.pf_divided) := has_of T.D_divided fun f fd Fn => ok_divided T Fn
theorem hk_divided_2_1_0 (T : Txt K mg) : HasK P w K mg base 6 "divided" p_divided ["other", "one", "prime"] [2, 1, 0] (spP K mg KC.pf_divided) :=
  hasK_of T.D_divided (fun f fd Fn => ok_divided T Fn) (fun _ _ _ _ _ _ ws hl => match ws, hl with
    | _ :: _ :: _ :: _, _ => rfl) (by decide)
theorem ok__law_begun (T : Txt K mg) {f : Addr} {fd : FuncData} (Fn : Fun K "_law_begun" "_law_begun" st__law_begun f fd) : FnOk P w K mg base (L2.CX P w) 1 f fd p__law_begun (spBegun K mg) := by
  exact ok_begun Fn sc__law_begun rfl rfl fun X F cdv A outer s H E eX eF hr => by
    subst eX
    subst eF
    have B := T.B
    exact (pss_cons (ds_setLc 1 (.one 3) (K := K) [("_law_cell", 3)] rfl sc__law_begun.nd rfl rfl (sw_true rfl rfl rfl (by decide +kernel)) (di_any (de_pv 0 (pv 0))) (blkOk_by (show blkC n__law_begun (defScope st__law_begun) _ _ = true by decide +kernel)) (fun s H C cl fp H0 G0 => (pg_name (i := 3) sc__law_begun.nd rfl (by first | exact Or.inl rfl | exact Or.inr rfl))) (fun s H C cl fp H0 G0 => dts_nil) (fun s H C cl fp H0 G0 => (de_blt call_absD B.abs boot_abs' (dab_cons (db_pv 3 (pv 3)) dab_nil)))) (pss_cons (ds_setLc 2 (.one 3) (K := K) [("_law_cell", 3)] rfl sc__law_begun.nd rfl rfl (sw_true rfl rfl rfl (by decide +kernel)) (di_any (de_pv 1 (pv 1))) (blkOk_by (show blkC n__law_begun (defScope st__law_begun) _ _ = true by decide +kernel)) (fun s H C cl fp H0 G0 => (pg_name (i := 3) sc__law_begun.nd rfl (by first | exact Or.inl rfl | exact Or.inr rfl))) (fun s H C cl fp H0 G0 => (dts_one (dt_cmp (op_geD hr.units0) (db_pv 3 (pv 3)) (DB.of (de_op op_powD (DB.of de_int) (DB.of de_int)))))) (fun s H C cl fp H0 G0 => (de_op op_subD (db_pv 3 (pv 3)) (DB.of (de_op op_powD (DB.of de_int) (DB.of de_int)))))) (pss_one (ps_ret (pe_disp (pps_cons pe_str (pv 2) (pps_cons pe_str (pv 1) (pps_cons pe_str pe_int (pps_cons pe_str pe_int pps_nil)))) rfl rfl (by intro z; cases z) (by decide))))))
theorem h__law_begun (T : Txt K mg) : Has P w K mg base 1 "_law_begun" p__law_begun (spBegun K mg) := has_of T.D__law_begun fun f fd Fn => ok__law_begun T Fn
theorem ok__law_draw (T : Txt K mg) {f : Addr} {fd : FuncData} (Fn : Fun K "_law_draw" "_law_draw" st__law_draw f fd) : FnOk P w K mg base (L2.CX P w) 1 f fd p__law_draw (spS K mg drawPF) := by
  exact ok_draw Fn sc__law_draw rfl rfl fun X cdv A outer s H E eX hr => by
    subst eX
    have B := T.B
    exact (pss_cons (ps_while (passes_of rfl) (pw_and (pt_cmpR op_eq (pe_ix (ix_dict (hu_of hr)) (pv 0) pe_str (fun _ _ => rfl)) pe_int (nomark _)) (pw_and1 (pt_cmpR (op_neD hr.units) (pe_ix (ix_dict (hu_of hr)) (pv 0) pe_str (fun _ _ => rfl)) (pe_lst pa_nil) (nomark _)))).pt (pss_one (ps_asg (pe_bm PySem.F.plainAttrs_list PySem.F.slot_list_pop PySem.F.type_list_pop (fun pins s σ H x xs v us Q I rx rxs h => mt_popAt pins s σ H x xs v us Q I rx rxs h) (pe_ix (ix_dict (hu_of hr)) (pv 0) pe_str (fun _ _ => rfl)) (pa_cons pe_int pa_nil)) (pg_sub (pv 0) pe_str (set_dict (hu_of hr))))))
    (pss_cons (ps_if (pt_cmpR op_gt (pe_ix (ix_dict (hu_of hr)) (pv 0) pe_str (fun _ _ => rfl)) pe_int (nomark _)) (pss_cons (ps_asg (pe_op op_mod (pe_callTy call_int1 rfl B.int PyProof.Rows.boot_int (pa_cons (pe_ix (ix_dict (hu_of hr)) (pv 0) pe_str (fun _ _ => rfl)) pa_nil)) (pv 1)) (pg_name (i := 2) sc__law_draw.nd rfl (by first | exact Or.inl rfl | exact Or.inr rfl))) (pss_cons (ps_asg (pe_op op_fdiv (pe_ix (ix_dict (hu_of hr)) (pv 0) pe_str (fun _ _ => rfl)) (pv 1)) (pg_sub (pv 0) pe_str (set_dict (hu_of hr)))) (pss_one (ps_ret (pv 2))))) pss_nil)
    (pss_cons (ps_asg (pe_op op_add (pe_ix (ix_dict (hu_of hr)) (pv 0) pe_str (fun _ _ => rfl)) pe_int) (pg_name (i := 3) sc__law_draw.nd rfl (by first | exact Or.inl rfl | exact Or.inr rfl)))
    (pss_cons (ps_asg (pv 3) (pg_sub (pv 0) pe_str (set_dict (hu_of hr))))
    (pss_cons (ps_asg (pe_ifExp (pt_cmpR (op_neD hr.units) (pe_ix (ix_dict (hu_of hr)) (pv 0) pe_str (fun _ _ => rfl)) (pe_lst pa_nil) (nomark _)) (pe_ix ix_seq (pe_ix (ix_dict (hu_of hr)) (pv 0) pe_str (fun _ _ => rfl)) (pe_op op_mod (pe_callTy call_int1 rfl B.int PyProof.Rows.boot_int (pa_cons (pv 3) pa_nil)) (pe_callB call_len_seq rfl B.len boot_len' (pa_cons (pe_ix (ix_dict (hu_of hr)) (pv 0) pe_str (fun _ _ => rfl)) pa_nil))) (fun _ _ => rfl)) pe_int) (pg_name (i := 4) sc__law_draw.nd rfl (by first | exact Or.inl rfl | exact Or.inr rfl)))
    (pss_cons (ps_asg (pe_op op_mod (pe_callTy call_int1 rfl B.int PyProof.Rows.boot_int (pa_cons (pe_op op_pow (pe_op op_add (pe_op op_add (pe_op op_mod (pe_callTy call_int1 rfl B.int PyProof.Rows.boot_int (pa_cons (pv 4) pa_nil)) pe_int) (pe_op op_mul pe_int (pv 3))) pe_int) pe_int) pa_nil)) pe_int) (pg_name (i := 5) sc__law_draw.nd rfl (by first | exact Or.inl rfl | exact Or.inr rfl)))
    (pss_one (ps_ret (pe_op op_mod (pe_callTy call_int1 rfl B.int PyProof.Rows.boot_int (pa_cons (pe_op op_fdiv (pe_op op_mod (pe_callTy call_int1 rfl B.int PyProof.Rows.boot_int (pa_cons (pe_op op_pow (pe_op op_add (pv 5) (pe_op op_mul pe_int (pv 3))) pe_int) pa_nil)) pe_int) pe_int) pa_nil)) (pv 1))))))))))
theorem h__law_draw (T : Txt K mg) : Has P w K mg base 1 "_law_draw" p__law_draw (spS K mg drawPF) := has_of T.D__law_draw fun f fd Fn => ok__law_draw T Fn
/-! ### _law_pick -/
theorem d__law_pick (T : Txt K mg) (X : Cx) (F : Fd) (f : Addr) (cdv : Value) (A : Around) (outer : List Env) (s : Shared) (H G : Hp) (sa sl sc : Addr) (E : XK)
    (eX : X = cxOf (L2.CX P w) P w K mg base n__law_pick "_law_pick" (defScope st__law_pick) f cdv A outer s H E) (eF : F = fdS K mg sa sl sc H G (fun cls d _ H => E cls d H)) (tk : Takes X F.W) (hr : Room 1 X.A) : DSs X F (defBody st__law_pick) KC.t__law_pick := by
  subst eX
  subst eF
  have h__law_draw := h__law_draw (P := P) (w := w) (base := base) T
  have B := T.B
  exact (dss_one (ds_ret (de_ix (hu_of hr) (db_pv 1 (pv 1)) (DB.of (de_S h__law_draw (hr.mono (by decide)) tk (da_cons (de_pv 0 (pv 0)) (da_cons (de_blt (call_lenD) B.len boot_len' (dab_cons (db_pv 1 (pv 1)) dab_nil)) da_nil)))))))
theorem ok__law_pick (T : Txt K mg) {f : Addr} {fd : FuncData} (Fn : Fun K "_law_pick" "_law_pick" st__law_pick f fd) : FnOk P w K mg base (L2.CX P w) 2 f fd p__law_pick (spS K mg KC.pf__law_pick) :=
  ok_S Fn sc__law_pick KC.l__law_pick (d__law_pick T) KC.q__law_pick
theorem h__law_pick (T : Txt K mg) : Has P w K mg base 2 "_law_pick" p__law_pick (spS K mg KC.pf__law_pick) := has_of T.D__law_pick fun f fd Fn => ok__law_pick T Fn
/-! ### _law_mixed -/
theorem d__law_mixed (T : Txt K mg) (X : Cx) (F : Fd) (f : Addr) (cdv : Value) (A : Around) (outer : List Env) (s : Shared) (H G : Hp) (sa sl sc : Addr) (E : XK)
    (eX : X = cxOf (L2.CX P w) P w K mg base n__law_mixed "_law_mixed" (defScope st__law_mixed) f cdv A outer s H E) (eF : F = fdS K mg sa sl sc H G (fun cls d _ H => E cls d H)) (tk : Takes X F.W) (hr : Room 1 X.A) : DSs X F (defBody st__law_mixed) KC.t__law_mixed := by
  subst eX
  subst eF
  have h__law_draw := h__law_draw (P := P) (w := w) (base := base) T
  have B := T.B
  exact (dss_cons (ds_par2 2 3 sc__law_mixed.nd (dai_own (do_ty (call_listD') B.list boot_list' (dab_cons (db_pv 1 (pv 1)) dab_nil)) fun _ _ => (dai_own (do_lst da_nil) fun _ _ => dai_nil)) (by decide) rfl)
      (dss_cons (ds_while (passes_of rfl) (dt_cmp (op_neDD hr.units) (db_pv 2 (pv 2)) (DB.of (de_lst da_nil)))
      (dss_one (ds_appP 3 (dp_popAt 2 (de_S h__law_draw (hr.mono (by decide)) tk (da_cons (de_pv 0 (pv 0)) (da_cons (de_blt (call_lenD) B.len boot_len' (dab_cons (db_pv 2 (pv 2)) dab_nil)) da_nil)))))))
      (dss_freeze 3 (dss_one (ds_ret (de_pv 3 (pv 3)))))))
theorem ok__law_mixed (T : Txt K mg) {f : Addr} {fd : FuncData} (Fn : Fun K "_law_mixed" "_law_mixed" st__law_mixed f fd) : FnOk P w K mg base (L2.CX P w) 2 f fd p__law_mixed (spS K mg KC.pf__law_mixed) :=
  ok_S Fn sc__law_mixed KC.l__law_mixed (d__law_mixed T) KC.q__law_mixed
theorem h__law_mixed (T : Txt K mg) : Has P w K mg base 2 "_law_mixed" p__law_mixed (spS K mg KC.pf__law_mixed) := has_of T.D__law_mixed fun f fd Fn => ok__law_mixed T Fn
/-! ### _law_is_whole -/
theorem d__law_is_whole (T : Txt K mg) (X : Cx) (F : Fd) (f : Addr) (cdv : Value) (A : Around) (outer : List Env) (s : Shared) (H G : Hp) (sa sl sc : Addr) (E : XK)
    (eX : X = cxOf (L2.CX P w) P w K mg base n__law_is_whole "_law_is_whole" (defScope st__law_is_whole) f cdv A outer s H E) (eF : F = fdP K mg sa sl sc H G (fun cls d _ H => E cls d H)) (tk : Takes X F.W) (hr : Room 0 X.A) : DSs X F (defBody st__law_is_whole) KC.t__law_is_whole := by
  subst eX
  subst eF
  have B := T.B
  exact (dss_one (ds_ret (de_and (de_isi .int (db_pv 0 (pv 0)) B.isinstance B.int PyProof.Rows.boot_int boot_isi) (de_one (de_not (de_isi .bool (db_pv 0 (pv 0)) B.isinstance B.bool PyProof.Rows.boot_bool boot_isi))))))
theorem ok__law_is_whole (T : Txt K mg) {f : Addr} {fd : FuncData} (Fn : Fun K "_law_is_whole" "_law_is_whole" st__law_is_whole f fd) : FnOk P w K mg base (L2.CX P w) 1 f fd p__law_is_whole (spP K mg KC.pf__law_is_whole) :=
  ok_P Fn sc__law_is_whole KC.l__law_is_whole (d__law_is_whole T) KC.q__law_is_whole
theorem h__law_is_whole (T : Txt K mg) : Has P w K mg base 1 "_law_is_whole" p__law_is_whole (spP K mg KC.pf__law_is_whole) := has_of T.D__law_is_whole fun f fd Fn => ok__law_is_whole T Fn
/-! ### _law_is_from -/
theorem d__law_is_from (T : Txt K mg) (X : Cx) (F : Fd) (f : Addr) (cdv : Value) (A : Around) (outer : List Env) (s : Shared) (H G : Hp) (sa sl sc : Addr) (E : XK)
    (eX : X = cxOf (L2.CX P w) P w K mg base n__law_is_from "_law_is_from" (defScope st__law_is_from) f cdv A outer s H E) (eF : F = fdP K mg sa sl sc H G (fun cls d _ H => E cls d H)) (tk : Takes X F.W) (hr : Room 1 X.A) : DSs X F (defBody st__law_is_from) KC.t__law_is_from := by
  subst eX
  subst eF
  have h__law_is_whole := h__law_is_whole (P := P) (w := w) (base := base) T
  exact (dss_one (ds_ret (de_and (de_P h__law_is_whole (hr.mono (by decide)) tk (da_cons (de_pv 0 (pv 0)) da_nil)) (de_one (de_chain (op_leD) (op_leD) (db_pv 1 (pv 1)) (db_pv 0 (pv 0)) (db_pv 2 (pv 2)))))))
theorem ok__law_is_from (T : Txt K mg) {f : Addr} {fd : FuncData} (Fn : Fun K "_law_is_from" "_law_is_from" st__law_is_from f fd) : FnOk P w K mg base (L2.CX P w) 2 f fd p__law_is_from (spP K mg KC.pf__law_is_from) :=
  ok_P Fn sc__law_is_from KC.l__law_is_from (d__law_is_from T) KC.q__law_is_from
theorem h__law_is_from (T : Txt K mg) : Has P w K mg base 2 "_law_is_from" p__law_is_from (spP K mg KC.pf__law_is_from) := has_of T.D__law_is_from fun f fd Fn => ok__law_is_from T Fn
/-! ### _law_prime -/
theorem d__law_prime (T : Txt K mg) (X : Cx) (F : Fd) (f : Addr) (cdv : Value) (A : Around) (outer : List Env) (s : Shared) (H G : Hp) (sa sl sc : Addr) (E : XK)
    (eX : X = cxOf (L2.CX P w) P w K mg base n__law_prime "_law_prime" (defScope st__law_prime) f cdv A outer s H E) (eF : F = fdS K mg sa sl sc H G (fun cls d _ H => E cls d H)) (tk : Takes X F.W) (hr : Room 2 X.A) : DSs X F (defBody st__law_prime) KC.t__law_prime := by
  subst eX
  subst eF
  have h__law_pick := h__law_pick (P := P) (w := w) (base := base) T
  exact (dss_one (ds_ret (de_S h__law_pick (hr.mono (by decide)) tk (da_cons (de_pv 0 (pv 0)) (da_cons (de_lst (da_cons de_int (da_cons de_int (da_cons de_int (da_cons de_int da_nil))))) da_nil)))))
theorem ok__law_prime (T : Txt K mg) {f : Addr} {fd : FuncData} (Fn : Fun K "_law_prime" "_law_prime" st__law_prime f fd) : FnOk P w K mg base (L2.CX P w) 3 f fd p__law_prime (spS K mg KC.pf__law_prime) :=
  ok_S Fn sc__law_prime KC.l__law_prime (d__law_prime T) KC.q__law_prime
theorem h__law_prime (T : Txt K mg) : Has P w K mg base 3 "_law_prime" p__law_prime (spS K mg KC.pf__law_prime) := has_of T.D__law_prime fun f fd Fn => ok__law_prime T Fn
/-! ### _law_no_prime -/
theorem d__law_no_prime (T : Txt K mg) (X : Cx) (F : Fd) (f : Addr) (cdv : Value) (A : Around) (outer : List Env) (s : Shared) (H G : Hp) (sa sl sc : Addr) (E : XK)
    (eX : X = cxOf (L2.CX P w) P w K mg base n__law_no_prime "_law_no_prime" (defScope st__law_no_prime) f cdv A outer s H E) (eF : F = fdS K mg sa sl sc H G (fun cls d _ H => E cls d H)) (tk : Takes X F.W) (hr : Room 2 X.A) : DSs X F (defBody st__law_no_prime) KC.t__law_no_prime := by
  subst eX
  subst eF
  have h__law_pick := h__law_pick (P := P) (w := w) (base := base) T
  have B := T.B
  exact (dss_one (ds_ret (de_S h__law_pick (hr.mono (by decide)) tk (da_cons (de_pv 0 (pv 0)) (da_cons (de_lst (da_cons de_non (da_cons de_int (da_cons de_int (da_cons de_int (da_cons de_int (da_cons de_int (da_cons de_int (da_cons de_int (da_cons (de_neg (DB.of de_int)) (da_cons de_bl (da_cons de_str (da_cons (de_tup (da_cons de_int da_nil)) (da_cons (de_lst (da_cons de_int da_nil)) (da_cons de_dictK (da_cons de_int da_nil)))))))))))))))) da_nil)))))
theorem ok__law_no_prime (T : Txt K mg) {f : Addr} {fd : FuncData} (Fn : Fun K "_law_no_prime" "_law_no_prime" st__law_no_prime f fd) : FnOk P w K mg base (L2.CX P w) 3 f fd p__law_no_prime (spS K mg KC.pf__law_no_prime) :=
  ok_S Fn sc__law_no_prime KC.l__law_no_prime (d__law_no_prime T) KC.q__law_no_prime
theorem h__law_no_prime (T : Txt K mg) : Has P w K mg base 3 "_law_no_prime" p__law_no_prime (spS K mg KC.pf__law_no_prime) := has_of T.D__law_no_prime fun f fd Fn => ok__law_no_prime T Fn
/-! ### _law_is_poly -/
theorem d__law_is_poly (T : Txt K mg) (X : Cx) (F : Fd) (f : Addr) (cdv : Value) (A : Around) (outer : List Env) (s : Shared) (H G : Hp) (sa sl sc : Addr) (E : XK)
    (eX : X = cxOf (L2.CX P w) P w K mg base n__law_is_poly "_law_is_poly" (defScope st__law_is_poly) f cdv A outer s H E) (eF : F = fdP K mg sa sl sc H G (fun cls d _ H => E cls d H)) (tk : Takes X F.W) (hr : Room 2 X.A) : DSs X F (defBody st__law_is_poly) KC.t__law_is_poly := by
  subst eX
  subst eF
  have h__law_is_from := h__law_is_from (P := P) (w := w) (base := base) T
  have B := T.B
  exact (dss_cons (ds_if (dt_not (dt_tru (DB.of (de_isi .tup (db_pv 1 (pv 1)) B.isinstance B.tuple PyProof.Rows.boot_tuple boot_isi))))
      (dss_one (ds_ret de_bl))
      dss_nil)
      (dss_cons (ds_for (.one 2) (K := K) (passes_of rfl) rfl (di_any (de_pv 1 (pv 1))) (pg_name (i := 2) sc__law_is_poly.nd rfl (by first | exact Or.inl rfl | exact Or.inr rfl))
      (dss_cons (ds_if (dt_w (dw_or (dt_not (dt_tru (DB.of (de_isi .tup (db_pv 2 (pv 2)) B.isinstance B.tuple PyProof.Rows.boot_tuple boot_isi)))) (dw_or (dt_cmp (op_neDD hr.units) (DB.of (de_blt (call_lenD) B.len boot_len' (dab_cons (db_pv 2 (pv 2)) dab_nil))) (DB.of de_int)) (dw_or1 (dt_not (dt_tru (DB.of (de_P h__law_is_from (hr.mono (by decide)) tk (da_cons (de_ix (hu_of hr) (db_pv 2 (pv 2)) (DB.of de_int)) (da_cons de_int (da_cons (de_op op_subD (db_pv 0 (pv 0)) (DB.of de_int)) da_nil)))))))))))
      (dss_one (ds_ret de_bl))
      dss_nil)
      (dss_one (ds_if (dt_w (dw_or (dt_not (dt_tru (DB.of (de_P h__law_is_from (hr.mono (by decide)) tk (da_cons (de_ix (hu_of hr) (db_pv 2 (pv 2)) (DB.of de_int)) (da_cons de_int (da_cons de_int da_nil))))))) (dw_or1 (dt_not (dt_tru (DB.of (de_P h__law_is_from (hr.mono (by decide)) tk (da_cons (de_ix (hu_of hr) (db_pv 2 (pv 2)) (DB.of de_int)) (da_cons de_int (da_cons de_int da_nil))))))))))
      (dss_one (ds_ret de_bl))
      dss_nil))))
      (dss_one (ds_ret (de_cmp (op_eqDD hr.units) (DB.of (DE.of (do_lc (.tup [3, 4]) (K := K) [("_law_one", 3), ("_law_other", 4)] rfl sc__law_is_poly.nd (di_zip B.zip (da_cons (de_pv 1 (pv 1)) (da_cons (de_slice (db_pv 1 (pv 1)) (dpo_some de_int) dpo_none) da_nil))) (blkOk_by (show blkC n__law_is_poly (defScope st__law_is_poly) _ _ = true by decide +kernel)) (fun s H C cl fp H0 G0 => (pg_tup rfl (pgs_cons (pg_name (i := 3) sc__law_is_poly.nd rfl (by first | exact Or.inl rfl | exact Or.inr rfl)) (pgs_cons (pg_name (i := 4) sc__law_is_poly.nd rfl (by first | exact Or.inl rfl | exact Or.inr rfl)) pgs_nil)))) (fun s H C cl fp H0 G0 => (dts_one (dt_cmp (op_geD hr.units0) (DB.of (de_slice (db_pv 3 (pv 3)) dpo_none (dpo_some de_int))) (DB.of (de_slice (db_pv 4 (pv 4)) dpo_none (dpo_some de_int)))))) (fun s H C cl fp H0 G0 => de_int)))) (DB.of (de_lst da_nil)))))))
theorem ok__law_is_poly (T : Txt K mg) {f : Addr} {fd : FuncData} (Fn : Fun K "_law_is_poly" "_law_is_poly" st__law_is_poly f fd) : FnOk P w K mg base (L2.CX P w) 3 f fd p__law_is_poly (spP K mg KC.pf__law_is_poly) :=
  ok_P Fn sc__law_is_poly KC.l__law_is_poly (d__law_is_poly T) KC.q__law_is_poly
theorem h__law_is_poly (T : Txt K mg) : Has P w K mg base 3 "_law_is_poly" p__law_is_poly (spP K mg KC.pf__law_is_poly) := has_of T.D__law_is_poly fun f fd Fn => ok__law_is_poly T Fn
/-! ### _law_dict -/
theorem d__law_dict (T : Txt K mg) (X : Cx) (F : Fd) (f : Addr) (cdv : Value) (A : Around) (outer : List Env) (s : Shared) (H G : Hp) (sa sl sc : Addr) (E : XK)
    (eX : X = cxOf (L2.CX P w) P w K mg base n__law_dict "_law_dict" (defScope st__law_dict) f cdv A outer s H E) (eF : F = fdP K mg sa sl sc H G (fun cls d _ H => E cls d H)) (tk : Takes X F.W) (hr : Room 0 X.A) : DSs X F (defBody st__law_dict) KC.t__law_dict := by
  subst eX
  subst eF
  have B := T.B
  exact (dss_one (ds_ret (DE.of (do_ty2 (call_dict1D rfl hr.units) B.dict boot_dict' (dab_cons (DB.of (DE.of (do_lc (.one 1) (K := K) [("_law_term", 1)] rfl sc__law_dict.nd (di_any (de_pv 0 (pv 0))) (blkOk_by (show blkC n__law_dict (defScope st__law_dict) _ _ = true by decide +kernel)) (fun s H C cl fp H0 G0 => (pg_name (i := 1) sc__law_dict.nd rfl (by first | exact Or.inl rfl | exact Or.inr rfl))) (fun s H C cl fp H0 G0 => dts_nil) (fun s H C cl fp H0 G0 => (de_tup (da_cons (de_tup (da_cons (de_ix (hu_of hr) (db_pv 1 (pv 1)) (DB.of de_int)) (da_cons (de_ix (hu_of hr) (db_pv 1 (pv 1)) (DB.of de_int)) da_nil))) (da_cons (de_ix (hu_of hr) (db_pv 1 (pv 1)) (DB.of de_int)) da_nil))))))) dab_nil)))))
theorem ok__law_dict (T : Txt K mg) {f : Addr} {fd : FuncData} (Fn : Fun K "_law_dict" "_law_dict" st__law_dict f fd) : FnOk P w K mg base (L2.CX P w) 1 f fd p__law_dict (spP K mg KC.pf__law_dict) :=
  ok_P Fn sc__law_dict KC.l__law_dict (d__law_dict T) KC.q__law_dict
theorem h__law_dict (T : Txt K mg) : Has P w K mg base 1 "_law_dict" p__law_dict (spP K mg KC.pf__law_dict) := has_of T.D__law_dict fun f fd Fn => ok__law_dict T Fn
/-! ### _law_poly_of -/
theorem d__law_poly_of (T : Txt K mg) (X : Cx) (F : Fd) (f : Addr) (cdv : Value) (A : Around) (outer : List Env) (s : Shared) (H G : Hp) (sa sl sc : Addr) (E : XK)
    (eX : X = cxOf (L2.CX P w) P w K mg base n__law_poly_of "_law_poly_of" (defScope st__law_poly_of) f cdv A outer s H E) (eF : F = fdP K mg sa sl sc H G (fun cls d _ H => E cls d H)) (tk : Takes X F.W) (hr : Room 0 X.A) : DSs X F (defBody st__law_poly_of) KC.t__law_poly_of := by
  subst eX
  subst eF
  have B := T.B
  exact (dss_one (ds_ret (de_ty (call_tupleD) B.tuple boot_tuple' (dab_cons (DB.of (DE.of (do_lc (.one 1) (K := K) [("_law_pair", 1)] rfl sc__law_poly_of.nd (di_any (de_blt (call_sort2D rfl) B.sorted boot_sorted' (dab_cons (db_pv 0 (pv 0)) dab_nil))) (blkOk_by (show blkC n__law_poly_of (defScope st__law_poly_of) _ _ = true by decide +kernel)) (fun s H C cl fp H0 G0 => (pg_name (i := 1) sc__law_poly_of.nd rfl (by first | exact Or.inl rfl | exact Or.inr rfl))) (fun s H C cl fp H0 G0 => dts_nil) (fun s H C cl fp H0 G0 => (de_op op_addD (db_pv 1 (pv 1)) (DB.of (de_tup (da_cons (de_ix (hu_of hr) (db_pv 0 (pv 0)) (db_pv 1 (pv 1))) da_nil)))))))) dab_nil))))
theorem ok__law_poly_of (T : Txt K mg) {f : Addr} {fd : FuncData} (Fn : Fun K "_law_poly_of" "_law_poly_of" st__law_poly_of f fd) : FnOk P w K mg base (L2.CX P w) 1 f fd p__law_poly_of (spP K mg KC.pf__law_poly_of) :=
  ok_P Fn sc__law_poly_of KC.l__law_poly_of (d__law_poly_of T) KC.q__law_poly_of
theorem h__law_poly_of (T : Txt K mg) : Has P w K mg base 1 "_law_poly_of" p__law_poly_of (spP K mg KC.pf__law_poly_of) := has_of T.D__law_poly_of fun f fd Fn => ok__law_poly_of T Fn
/-! ### _law_added -/
theorem d__law_added (T : Txt K mg) (X : Cx) (F : Fd) (f : Addr) (cdv : Value) (A : Around) (outer : List Env) (s : Shared) (H G : Hp) (sa sl sc : Addr) (E : XK)
    (eX : X = cxOf (L2.CX P w) P w K mg base n__law_added "_law_added" (defScope st__law_added) f cdv A outer s H E) (eF : F = fdP K mg sa sl sc H G (fun cls d _ H => E cls d H)) (tk : Takes X F.W) (hr : Room 0 X.A) : DSs X F (defBody st__law_added) KC.t__law_added := by
  subst eX
  subst eF
  have B := T.B
  exact (dss_cons (ds_setO 4 sc__law_added.nd (do_ty2 (call_dict1D rfl hr.units) B.dict boot_dict' (dab_cons (DB.of (DE.of (do_lc (.one 5) (K := K) [("_law_pair", 5)] rfl sc__law_added.nd (di_any (de_pv 1 (pv 1))) (blkOk_by (show blkC n__law_added (defScope st__law_added) _ _ = true by decide +kernel)) (fun s H C cl fp H0 G0 => (pg_name (i := 5) sc__law_added.nd rfl (by first | exact Or.inl rfl | exact Or.inr rfl))) (fun s H C cl fp H0 G0 => dts_nil) (fun s H C cl fp H0 G0 => (de_tup (da_cons (de_pv 5 (pv 5)) (da_cons (de_ix (hu_of hr) (db_pv 1 (pv 1)) (db_pv 5 (pv 5))) da_nil))))))) dab_nil)))
      (dss_cons (ds_for (.one 5) (K := K) (passes_of rfl) rfl (di_any (de_pv 2 (pv 2))) (pg_name (i := 5) sc__law_added.nd rfl (by first | exact Or.inl rfl | exact Or.inr rfl))
      (dss_one (ds_put 4 (hu_of hr) (de_pv 5 (pv 5)) (de_op op_modD (DB.of (de_ty (call_int1D) B.int boot_int' (dab_cons (DB.of (de_op op_addD (DB.of (de_get2 (hu_of hr) (db_pv 4 (pv 4)) (de_pv 5 (pv 5)) de_int ⟨rfl, rfl, rfl, rfl⟩)) (DB.of (de_op op_mulD (db_pv 3 (pv 3)) (DB.of (de_ix (hu_of hr) (db_pv 2 (pv 2)) (db_pv 5 (pv 5)))))))) dab_nil))) (db_pv 0 (pv 0))))))
      (dss_freeze 4 (dss_one (ds_ret (DE.of (do_ty2 (call_dict1D rfl hr.units) B.dict boot_dict' (dab_cons (DB.of (DE.of (do_lc (.one 5) (K := K) [("_law_pair", 5)] rfl sc__law_added.nd (di_any (de_pv 4 (pv 4))) (blkOk_by (show blkC n__law_added (defScope st__law_added) _ _ = true by decide +kernel)) (fun s H C cl fp H0 G0 => (pg_name (i := 5) sc__law_added.nd rfl (by first | exact Or.inl rfl | exact Or.inr rfl))) (fun s H C cl fp H0 G0 => (dts_one (dt_cmp (op_neDD hr.units) (DB.of (de_ix (hu_of hr) (db_pv 4 (pv 4)) (db_pv 5 (pv 5)))) (DB.of de_int)))) (fun s H C cl fp H0 G0 => (de_tup (da_cons (de_pv 5 (pv 5)) (da_cons (de_ix (hu_of hr) (db_pv 4 (pv 4)) (db_pv 5 (pv 5))) da_nil))))))) dab_nil))))))))
theorem ok__law_added (T : Txt K mg) {f : Addr} {fd : FuncData} (Fn : Fun K "_law_added" "_law_added" st__law_added f fd) : FnOk P w K mg base (L2.CX P w) 1 f fd p__law_added (spP K mg KC.pf__law_added) :=
  ok_P Fn sc__law_added KC.l__law_added (d__law_added T) KC.q__law_added
theorem h__law_added (T : Txt K mg) : Has P w K mg base 1 "_law_added" p__law_added (spP K mg KC.pf__law_added) := has_of T.D__law_added fun f fd Fn => ok__law_added T Fn
/-! ### _law_product -/
theorem d__law_product (T : Txt K mg) (X : Cx) (F : Fd) (f : Addr) (cdv : Value) (A : Around) (outer : List Env) (s : Shared) (H G : Hp) (sa sl sc : Addr) (E : XK)
    (eX : X = cxOf (L2.CX P w) P w K mg base n__law_product "_law_product" (defScope st__law_product) f cdv A outer s H E) (eF : F = fdP K mg sa sl sc H G (fun cls d _ H => E cls d H)) (tk : Takes X F.W) (hr : Room 0 X.A) : DSs X F (defBody st__law_product) KC.t__law_product := by
  subst eX
  subst eF
  have B := T.B
  exact (dss_cons (ds_setO 3 sc__law_product.nd do_dictT)
      (dss_cons (ds_for (.tup [4, 5]) (K := K) (passes_of rfl) rfl (di_any (de_pv 1 (pv 1))) (pg_tup rfl (pgs_cons (pg_name (i := 4) sc__law_product.nd rfl (by first | exact Or.inl rfl | exact Or.inr rfl)) (pgs_cons (pg_name (i := 5) sc__law_product.nd rfl (by first | exact Or.inl rfl | exact Or.inr rfl)) pgs_nil)))
      (dss_one (ds_for (.tup [6, 7]) (K := K) (passes_of rfl) rfl (di_any (de_pv 2 (pv 2))) (pg_tup rfl (pgs_cons (pg_name (i := 6) sc__law_product.nd rfl (by first | exact Or.inl rfl | exact Or.inr rfl)) (pgs_cons (pg_name (i := 7) sc__law_product.nd rfl (by first | exact Or.inl rfl | exact Or.inr rfl)) pgs_nil)))
      (dss_one (ds_put 3 (hu_of hr) (de_tup (da_cons (de_op op_addD (db_pv 4 (pv 4)) (db_pv 6 (pv 6))) (da_cons (de_op op_addD (db_pv 5 (pv 5)) (db_pv 7 (pv 7))) da_nil))) (de_op op_addD (DB.of (de_get2 (hu_of hr) (db_pv 3 (pv 3)) (de_tup (da_cons (de_op op_addD (db_pv 4 (pv 4)) (db_pv 6 (pv 6))) (da_cons (de_op op_addD (db_pv 5 (pv 5)) (db_pv 7 (pv 7))) da_nil))) de_int ⟨rfl, rfl, rfl, rfl⟩)) (DB.of (de_op op_mulD (DB.of (de_ix (hu_of hr) (db_pv 1 (pv 1)) (DB.of (de_tup (da_cons (de_pv 4 (pv 4)) (da_cons (de_pv 5 (pv 5)) da_nil)))))) (DB.of (de_ix (hu_of hr) (db_pv 2 (pv 2)) (DB.of (de_tup (da_cons (de_pv 6 (pv 6)) (da_cons (de_pv 7 (pv 7)) da_nil))))))))))))))
      (dss_freeze 3 (dss_one (ds_ret (DE.of (do_ty2 (call_dict1D rfl hr.units) B.dict boot_dict' (dab_cons (DB.of (DE.of (do_lc (.one 8) (K := K) [("_law_pair", 8)] rfl sc__law_product.nd (di_any (de_pv 3 (pv 3))) (blkOk_by (show blkC n__law_product (defScope st__law_product) _ _ = true by decide +kernel)) (fun s H C cl fp H0 G0 => (pg_name (i := 8) sc__law_product.nd rfl (by first | exact Or.inl rfl | exact Or.inr rfl))) (fun s H C cl fp H0 G0 => (dts_one (dt_cmp (op_neDD hr.units) (DB.of (de_op op_modD (DB.of (de_ty (call_int1D) B.int boot_int' (dab_cons (DB.of (de_ix (hu_of hr) (db_pv 3 (pv 3)) (db_pv 8 (pv 8)))) dab_nil))) (db_pv 0 (pv 0)))) (DB.of de_int)))) (fun s H C cl fp H0 G0 => (de_tup (da_cons (de_pv 8 (pv 8)) (da_cons (de_op op_modD (DB.of (de_ty (call_int1D) B.int boot_int' (dab_cons (DB.of (de_ix (hu_of hr) (db_pv 3 (pv 3)) (db_pv 8 (pv 8)))) dab_nil))) (db_pv 0 (pv 0))) da_nil))))))) dab_nil))))))))
theorem ok__law_product (T : Txt K mg) {f : Addr} {fd : FuncData} (Fn : Fun K "_law_product" "_law_product" st__law_product f fd) : FnOk P w K mg base (L2.CX P w) 1 f fd p__law_product (spP K mg KC.pf__law_product) :=
  ok_P Fn sc__law_product KC.l__law_product (d__law_product T) KC.q__law_product
theorem h__law_product (T : Txt K mg) : Has P w K mg base 1 "_law_product" p__law_product (spP K mg KC.pf__law_product) := has_of T.D__law_product fun f fd Fn => ok__law_product T Fn
/-! ### _law_plus -/
theorem d__law_plus (T : Txt K mg) (X : Cx) (F : Fd) (f : Addr) (cdv : Value) (A : Around) (outer : List Env) (s : Shared) (H G : Hp) (sa sl sc : Addr) (E : XK)
    (eX : X = cxOf (L2.CX P w) P w K mg base n__law_plus "_law_plus" (defScope st__law_plus) f cdv A outer s H E) (eF : F = fdP K mg sa sl sc H G (fun cls d _ H => E cls d H)) (tk : Takes X F.W) (hr : Room 1 X.A) : DSs X F (defBody st__law_plus) KC.t__law_plus := by
  subst eX
  subst eF
  have h__law_poly_of := h__law_poly_of (P := P) (w := w) (base := base) T
  have h__law_added := h__law_added (P := P) (w := w) (base := base) T
  have h__law_dict := h__law_dict (P := P) (w := w) (base := base) T
  exact (dss_one (ds_ret (de_P h__law_poly_of (hr.mono (by decide)) tk (da_cons (de_P h__law_added (hr.mono (by decide)) tk (da_cons (de_pv 0 (pv 0)) (da_cons (de_P h__law_dict (hr.mono (by decide)) tk (da_cons (de_pv 1 (pv 1)) da_nil)) (da_cons (de_P h__law_dict (hr.mono (by decide)) tk (da_cons (de_pv 2 (pv 2)) da_nil)) (da_cons de_int da_nil))))) da_nil))))
theorem ok__law_plus (T : Txt K mg) {f : Addr} {fd : FuncData} (Fn : Fun K "_law_plus" "_law_plus" st__law_plus f fd) : FnOk P w K mg base (L2.CX P w) 2 f fd p__law_plus (spP K mg KC.pf__law_plus) :=
  ok_P Fn sc__law_plus KC.l__law_plus (d__law_plus T) KC.q__law_plus
theorem h__law_plus (T : Txt K mg) : Has P w K mg base 2 "_law_plus" p__law_plus (spP K mg KC.pf__law_plus) := has_of T.D__law_plus fun f fd Fn => ok__law_plus T Fn
/-! ### _law_times -/
theorem d__law_times (T : Txt K mg) (X : Cx) (F : Fd) (f : Addr) (cdv : Value) (A : Around) (outer : List Env) (s : Shared) (H G : Hp) (sa sl sc : Addr) (E : XK)
    (eX : X = cxOf (L2.CX P w) P w K mg base n__law_times "_law_times" (defScope st__law_times) f cdv A outer s H E) (eF : F = fdP K mg sa sl sc H G (fun cls d _ H => E cls d H)) (tk : Takes X F.W) (hr : Room 1 X.A) : DSs X F (defBody st__law_times) KC.t__law_times := by
  subst eX
  subst eF
  have h__law_poly_of := h__law_poly_of (P := P) (w := w) (base := base) T
  have h__law_product := h__law_product (P := P) (w := w) (base := base) T
  have h__law_dict := h__law_dict (P := P) (w := w) (base := base) T
  exact (dss_one (ds_ret (de_P h__law_poly_of (hr.mono (by decide)) tk (da_cons (de_P h__law_product (hr.mono (by decide)) tk (da_cons (de_pv 0 (pv 0)) (da_cons (de_P h__law_dict (hr.mono (by decide)) tk (da_cons (de_pv 1 (pv 1)) da_nil)) (da_cons (de_P h__law_dict (hr.mono (by decide)) tk (da_cons (de_pv 2 (pv 2)) da_nil)) da_nil)))) da_nil))))
theorem ok__law_times (T : Txt K mg) {f : Addr} {fd : FuncData} (Fn : Fun K "_law_times" "_law_times" st__law_times f fd) : FnOk P w K mg base (L2.CX P w) 2 f fd p__law_times (spP K mg KC.pf__law_times) :=
  ok_P Fn sc__law_times KC.l__law_times (d__law_times T) KC.q__law_times
theorem h__law_times (T : Txt K mg) : Has P w K mg base 2 "_law_times" p__law_times (spP K mg KC.pf__law_times) := has_of T.D__law_times fun f fd Fn => ok__law_times T Fn
/-! ### _law_high -/
theorem d__law_high (T : Txt K mg) (X : Cx) (F : Fd) (f : Addr) (cdv : Value) (A : Around) (outer : List Env) (s : Shared) (H G : Hp) (sa sl sc : Addr) (E : XK)
    (eX : X = cxOf (L2.CX P w) P w K mg base n__law_high "_law_high" (defScope st__law_high) f cdv A outer s H E) (eF : F = fdP K mg sa sl sc H G (fun cls d _ H => E cls d H)) (tk : Takes X F.W) (hr : Room 0 X.A) : DSs X F (defBody st__law_high) KC.t__law_high := by
  subst eX
  subst eF
  have B := T.B
  exact (dss_one (ds_ret (de_blt (call_topD rfl (hr65 hr)) B.max boot_max' (dab_cons (DB.of (de_op op_addD (DB.of (de_lst (da_cons (de_neg (DB.of de_int)) da_nil))) (DB.of (DE.of (do_lc (.one 2) (K := K) [("_law_term", 2)] rfl sc__law_high.nd (di_any (de_pv 0 (pv 0))) (blkOk_by (show blkC n__law_high (defScope st__law_high) _ _ = true by decide +kernel)) (fun s H C cl fp H0 G0 => (pg_name (i := 2) sc__law_high.nd rfl (by first | exact Or.inl rfl | exact Or.inr rfl))) (fun s H C cl fp H0 G0 => dts_nil) (fun s H C cl fp H0 G0 => (de_ix (hu_of hr) (db_pv 2 (pv 2)) (db_pv 1 (pv 1))))))))) dab_nil))))
theorem ok__law_high (T : Txt K mg) {f : Addr} {fd : FuncData} (Fn : Fun K "_law_high" "_law_high" st__law_high f fd) : FnOk P w K mg base (L2.CX P w) 1 f fd p__law_high (spP K mg KC.pf__law_high) :=
  ok_P Fn sc__law_high KC.l__law_high (d__law_high T) KC.q__law_high
theorem h__law_high (T : Txt K mg) : Has P w K mg base 1 "_law_high" p__law_high (spP K mg KC.pf__law_high) := has_of T.D__law_high fun f fd Fn => ok__law_high T Fn
/-! ### _law_poly -/
theorem d__law_poly (T : Txt K mg) (X : Cx) (F : Fd) (f : Addr) (cdv : Value) (A : Around) (outer : List Env) (s : Shared) (H G : Hp) (sa sl sc : Addr) (E : XK)
    (eX : X = cxOf (L2.CX P w) P w K mg base n__law_poly "_law_poly" (defScope st__law_poly) f cdv A outer s H E) (eF : F = fdS K mg sa sl sc H G (fun cls d _ H => E cls d H)) (tk : Takes X F.W) (hr : Room 2 X.A) : DSs X F (defBody st__law_poly) KC.t__law_poly := by
  subst eX
  subst eF
  have h__law_draw := h__law_draw (P := P) (w := w) (base := base) T
  have h__law_pick := h__law_pick (P := P) (w := w) (base := base) T
  have h__law_mixed := h__law_mixed (P := P) (w := w) (base := base) T
  have B := T.B
  exact (dss_cons (ds_set 4 sc__law_poly.nd (de_S h__law_draw (hr.mono (by decide)) tk (da_cons (de_pv 0 (pv 0)) (da_cons de_int da_nil))))
      (dss_cons (ds_if (dt_cmp (op_eqDD hr.units) (db_pv 4 (pv 4)) (DB.of de_int))
      (dss_one (ds_ret (de_S h__law_pick (hr.mono (by decide)) tk (da_cons (de_pv 0 (pv 0)) (da_cons (de_lst (da_cons (de_tup da_nil) (da_cons (de_tup (da_cons (de_tup (da_cons de_int (da_cons de_int (da_cons de_int da_nil)))) da_nil)) (da_cons (de_tup (da_cons (de_tup (da_cons de_int (da_cons de_int (da_cons (de_op op_subD (db_pv 1 (pv 1)) (DB.of de_int)) da_nil)))) da_nil)) (da_cons (de_tup (da_cons (de_tup (da_cons (de_pv 2 (pv 2)) (da_cons (de_pv 3 (pv 3)) (da_cons de_int da_nil)))) da_nil)) da_nil))))) da_nil)))))
      dss_nil)
      (dss_cons (ds_set 5 sc__law_poly.nd (de_lst da_nil))
      (dss_cons (ds_for (.one 6) (K := K) (passes_of rfl) rfl (di_range1 B.range (da_cons (de_op op_addD (db_pv 2 (pv 2)) (DB.of de_int)) da_nil)) (pg_name (i := 6) sc__law_poly.nd rfl (by first | exact Or.inl rfl | exact Or.inr rfl))
      (dss_one (ds_set 5 sc__law_poly.nd (de_op op_addD (db_pv 5 (pv 5)) (DB.of (DE.of (do_lc (.one 8) (K := K) [("_law_j", 8)] rfl sc__law_poly.nd (di_range1 B.range (da_cons (de_op op_addD (db_pv 3 (pv 3)) (DB.of de_int)) da_nil)) (blkOk_by (show blkC n__law_poly (defScope st__law_poly) _ _ = true by decide +kernel)) (fun s H C cl fp H0 G0 => (pg_name (i := 8) sc__law_poly.nd rfl (by first | exact Or.inl rfl | exact Or.inr rfl))) (fun s H C cl fp H0 G0 => dts_nil) (fun s H C cl fp H0 G0 => (de_tup (da_cons (de_pv 6 (pv 6)) (da_cons (de_pv 8 (pv 8)) da_nil)))))))))))
      (dss_cons (ds_if (dt_cmp (op_ltD hr.units0) (db_pv 4 (pv 4)) (DB.of de_int))
      (dss_one (ds_set 5 sc__law_poly.nd (de_slice (DB.of (de_S h__law_mixed (hr.mono (by decide)) tk (da_cons (de_pv 0 (pv 0)) (da_cons (de_pv 5 (pv 5)) da_nil)))) dpo_none (dpo_some (de_op op_addD (DB.of de_int) (DB.of (de_S h__law_draw (hr.mono (by decide)) tk (da_cons (de_pv 0 (pv 0)) (da_cons de_int da_nil)))))))))
      dss_nil)
      (dss_cons (ds_setLc 7 (.tup [6, 8]) (K := K) [("_law_i", 6), ("_law_j", 8)] rfl sc__law_poly.nd rfl rfl (sw_true rfl rfl rfl (by decide +kernel)) (di_any (de_blt (call_sort2D rfl) B.sorted boot_sorted' (dab_cons (db_pv 5 (pv 5)) dab_nil))) (blkOk_by (show blkC n__law_poly (defScope st__law_poly) _ _ = true by decide +kernel)) (fun s H C cl fp H0 G0 => (pg_tup rfl (pgs_cons (pg_name (i := 6) sc__law_poly.nd rfl (by first | exact Or.inl rfl | exact Or.inr rfl)) (pgs_cons (pg_name (i := 8) sc__law_poly.nd rfl (by first | exact Or.inl rfl | exact Or.inr rfl)) pgs_nil)))) (fun s H C cl fp H0 G0 => dts_nil) (fun s H C cl fp H0 G0 => (de_tup (da_cons (de_pv 6 (pv 6)) (da_cons (de_pv 8 (pv 8)) (da_cons (de_S h__law_draw (hr.mono (by decide)) takes0 (da_cons (de_pv 0 (pv 0)) (da_cons (de_pv 1 (pv 1)) da_nil))) da_nil))))))
      (dss_freeze 7 (dss_one (ds_ret (de_ty (call_tupleD) B.tuple boot_tuple' (dab_cons (DB.of (DE.of (do_lc (.one 9) (K := K) [("_law_term", 9)] rfl sc__law_poly.nd (di_any (de_pv 7 (pv 7))) (blkOk_by (show blkC n__law_poly (defScope st__law_poly) _ _ = true by decide +kernel)) (fun s H C cl fp H0 G0 => (pg_name (i := 9) sc__law_poly.nd rfl (by first | exact Or.inl rfl | exact Or.inr rfl))) (fun s H C cl fp H0 G0 => (dts_one (dt_cmp (op_neDD hr.units) (DB.of (de_ix (hu_of hr) (db_pv 9 (pv 9)) (DB.of de_int))) (DB.of de_int)))) (fun s H C cl fp H0 G0 => (de_pv 9 (pv 9)))))) dab_nil)))))))))))
theorem ok__law_poly (T : Txt K mg) {f : Addr} {fd : FuncData} (Fn : Fun K "_law_poly" "_law_poly" st__law_poly f fd) : FnOk P w K mg base (L2.CX P w) 3 f fd p__law_poly (spS K mg KC.pf__law_poly) :=
  ok_S Fn sc__law_poly KC.l__law_poly (d__law_poly T) KC.q__law_poly
theorem h__law_poly (T : Txt K mg) : Has P w K mg base 3 "_law_poly" p__law_poly (spS K mg KC.pf__law_poly) := has_of T.D__law_poly fun f fd Fn => ok__law_poly T Fn
/-! ### _law_some -/
theorem d__law_some (T : Txt K mg) (X : Cx) (F : Fd) (f : Addr) (cdv : Value) (A : Around) (outer : List Env) (s : Shared) (H G : Hp) (sa sl sc : Addr) (E : XK)
    (eX : X = cxOf (L2.CX P w) P w K mg base n__law_some "_law_some" (defScope st__law_some) f cdv A outer s H E) (eF : F = fdS K mg sa sl sc H G (fun cls d _ H => E cls d H)) (tk : Takes X F.W) (hr : Room 3 X.A) : DSs X F (defBody st__law_some) KC.t__law_some := by
  subst eX
  subst eF
  have h__law_poly := h__law_poly (P := P) (w := w) (base := base) T
  have h__law_draw := h__law_draw (P := P) (w := w) (base := base) T
  have B := T.B
  exact (dss_cons (ds_set 4 sc__law_some.nd (de_S h__law_poly (hr.mono (by decide)) tk (da_cons (de_pv 0 (pv 0)) (da_cons (de_pv 1 (pv 1)) (da_cons (de_pv 2 (pv 2)) (da_cons (de_pv 3 (pv 3)) da_nil))))))
      (dss_one (ds_ret (de_if (dt_cmp (op_neDD hr.units) (db_pv 4 (pv 4)) (DB.of (de_tup da_nil))) (de_pv 4 (pv 4)) (de_tup (da_cons (de_tup (da_cons (de_S h__law_draw (hr.mono (by decide)) tk (da_cons (de_pv 0 (pv 0)) (da_cons (de_op op_addD (db_pv 2 (pv 2)) (DB.of de_int)) da_nil))) (da_cons (de_S h__law_draw (hr.mono (by decide)) tk (da_cons (de_pv 0 (pv 0)) (da_cons (de_op op_addD (db_pv 3 (pv 3)) (DB.of de_int)) da_nil))) (da_cons (de_op op_addD (DB.of de_int) (DB.of (de_S h__law_draw (hr.mono (by decide)) tk (da_cons (de_pv 0 (pv 0)) (da_cons (de_op op_subD (db_pv 1 (pv 1)) (DB.of de_int)) da_nil))))) da_nil)))) da_nil))))))
theorem ok__law_some (T : Txt K mg) {f : Addr} {fd : FuncData} (Fn : Fun K "_law_some" "_law_some" st__law_some f fd) : FnOk P w K mg base (L2.CX P w) 4 f fd p__law_some (spS K mg KC.pf__law_some) :=
  ok_S Fn sc__law_some KC.l__law_some (d__law_some T) KC.q__law_some
theorem h__law_some (T : Txt K mg) : Has P w K mg base 4 "_law_some" p__law_some (spS K mg KC.pf__law_some) := has_of T.D__law_some fun f fd Fn => ok__law_some T Fn
/-! ### _law_no_poly -/
theorem d__law_no_poly (T : Txt K mg) (X : Cx) (F : Fd) (f : Addr) (cdv : Value) (A : Around) (outer : List Env) (s : Shared) (H G : Hp) (sa sl sc : Addr) (E : XK)
    (eX : X = cxOf (L2.CX P w) P w K mg base n__law_no_poly "_law_no_poly" (defScope st__law_no_poly) f cdv A outer s H E) (eF : F = fdS K mg sa sl sc H G (fun cls d _ H => E cls d H)) (tk : Takes X F.W) (hr : Room 4 X.A) : DSs X F (defBody st__law_no_poly) KC.t__law_no_poly := by
  subst eX
  subst eF
  have h__law_some := h__law_some (P := P) (w := w) (base := base) T
  have h__law_draw := h__law_draw (P := P) (w := w) (base := base) T
  have h__law_pick := h__law_pick (P := P) (w := w) (base := base) T
  have h__law_is_poly := h__law_is_poly (P := P) (w := w) (base := base) T
  have B := T.B
  exact (dss_cons (ds_set 2 sc__law_no_poly.nd (de_S h__law_some (hr.mono (by decide)) tk (da_cons (de_pv 0 (pv 0)) (da_cons (de_pv 1 (pv 1)) (da_cons de_int (da_cons de_int da_nil))))))
      (dss_cons (ds_set 3 sc__law_no_poly.nd (de_S h__law_draw (hr.mono (by decide)) tk (da_cons (de_pv 0 (pv 0)) (da_cons (de_blt (call_lenD) B.len boot_len' (dab_cons (db_pv 2 (pv 2)) dab_nil)) da_nil))))
      (dss_cons (ds_tg (.tup [4, 5, 6]) (K := K) (de_ix (hu_of hr) (db_pv 2 (pv 2)) (db_pv 3 (pv 3))) (pg_tup rfl (pgs_cons (pg_name (i := 4) sc__law_no_poly.nd rfl (by first | exact Or.inl rfl | exact Or.inr rfl)) (pgs_cons (pg_name (i := 5) sc__law_no_poly.nd rfl (by first | exact Or.inl rfl | exact Or.inr rfl)) (pgs_cons (pg_name (i := 6) sc__law_no_poly.nd rfl (by first | exact Or.inl rfl | exact Or.inr rfl)) pgs_nil)))))
      (dss_cons (ds_setO 7 sc__law_no_poly.nd (do_lst (da_cons (de_tup (da_cons (de_pv 4 (pv 4)) (da_cons (de_pv 5 (pv 5)) (da_cons de_int da_nil)))) (da_cons (de_tup (da_cons (de_pv 4 (pv 4)) (da_cons (de_pv 5 (pv 5)) (da_cons (de_pv 1 (pv 1)) da_nil)))) (da_cons (de_tup (da_cons (de_pv 4 (pv 4)) (da_cons (de_pv 5 (pv 5)) (da_cons (de_neg (DB.of de_int)) da_nil)))) (da_cons (de_tup (da_cons (de_neg (DB.of de_int)) (da_cons (de_pv 5 (pv 5)) (da_cons (de_pv 6 (pv 6)) da_nil)))) (da_cons (de_tup (da_cons de_int (da_cons (de_pv 5 (pv 5)) (da_cons (de_pv 6 (pv 6)) da_nil)))) (da_cons (de_tup (da_cons (de_pv 4 (pv 4)) (da_cons de_int (da_cons (de_pv 6 (pv 6)) da_nil)))) (da_cons (de_tup (da_cons (de_pv 4 (pv 4)) (da_cons (de_pv 5 (pv 5)) da_nil))) (da_cons (de_tup (da_cons (de_pv 4 (pv 4)) (da_cons (de_pv 5 (pv 5)) (da_cons (de_pv 6 (pv 6)) (da_cons de_int da_nil))))) da_nil))))))))))
      (dss_cons (ds_setLc 7 (.one 8) (K := K) [("_law_term", 8)] rfl sc__law_no_poly.nd rfl rfl (sw_true rfl rfl rfl (by decide +kernel)) (di_any (de_op op_addD (db_pv 7 (pv 7)) (DB.of (de_lst (da_cons (de_lst (da_cons (de_pv 4 (pv 4)) (da_cons (de_pv 5 (pv 5)) (da_cons (de_pv 6 (pv 6)) da_nil)))) (da_cons de_non (da_cons (de_tup (da_cons (de_pv 4 (pv 4)) (da_cons (de_pv 5 (pv 5)) (da_cons de_bl da_nil)))) (da_cons (de_tup (da_cons (de_pv 4 (pv 4)) (da_cons (de_pv 5 (pv 5)) (da_cons de_str da_nil)))) (da_cons (de_tup (da_cons de_non (da_cons (de_pv 5 (pv 5)) (da_cons (de_pv 6 (pv 6)) da_nil)))) da_nil))))))))) (blkOk_by (show blkC n__law_no_poly (defScope st__law_no_poly) _ _ = true by decide +kernel)) (fun s H C cl fp H0 G0 => (pg_name (i := 8) sc__law_no_poly.nd rfl (by first | exact Or.inl rfl | exact Or.inr rfl))) (fun s H C cl fp H0 G0 => dts_nil) (fun s H C cl fp H0 G0 => (de_op op_addD (DB.of (de_op op_addD (DB.of (de_slice (db_pv 2 (pv 2)) dpo_none (dpo_some (de_pv 3 (pv 3))))) (DB.of (de_tup (da_cons (de_pv 8 (pv 8)) da_nil))))) (DB.of (de_slice (db_pv 2 (pv 2)) (dpo_some (de_op op_addD (db_pv 3 (pv 3)) (DB.of de_int))) dpo_none)))))
      (dss_cons (ds_if (dt_cmp (op_ltD hr.units0) (db_pv 4 (pv 4)) (DB.of de_int))
      (dss_one (ds_app 7 (de_op op_addD (DB.of (de_op op_addD (DB.of (de_slice (db_pv 2 (pv 2)) dpo_none (dpo_some (de_pv 3 (pv 3))))) (DB.of (de_tup (da_cons (de_tup (da_cons (de_cmp (op_eqDD hr.units) (db_pv 4 (pv 4)) (DB.of de_int)) (da_cons (de_pv 5 (pv 5)) (da_cons (de_pv 6 (pv 6)) da_nil)))) da_nil))))) (DB.of (de_slice (db_pv 2 (pv 2)) (dpo_some (de_op op_addD (db_pv 3 (pv 3)) (DB.of de_int))) dpo_none)))))
      dss_nil)
      (dss_cons (ds_set 7 sc__law_no_poly.nd (de_op op_addD (db_pv 7 (pv 7)) (DB.of (de_lst (da_cons (DE.of (do_ty (call_listD') B.list boot_list' (dab_cons (db_pv 2 (pv 2)) dab_nil))) (da_cons (de_op op_addD (db_pv 2 (pv 2)) (DB.of (de_slice (db_pv 2 (pv 2)) (dpo_some (de_neg (DB.of de_int))) dpo_none))) (da_cons (de_if (dt_cmp (op_eqDD hr.units) (DB.of (de_blt (call_lenD) B.len boot_len' (dab_cons (db_pv 2 (pv 2)) dab_nil))) (DB.of de_int)) (de_op op_addD (DB.of (de_tup (da_cons (de_ix (hu_of hr) (db_pv 2 (pv 2)) (DB.of (de_neg (DB.of de_int)))) da_nil))) (DB.of (de_slice (db_pv 2 (pv 2)) dpo_none (dpo_some de_int)))) (de_revT (db_pv 2 (pv 2)))) (da_cons de_non (da_cons de_int (da_cons de_str (da_cons de_dictK (da_cons (de_tup (da_cons de_int da_nil)) da_nil))))))))))))
      (dss_one (ds_ret (de_S h__law_pick (hr.mono (by decide)) tk (da_cons (de_pv 0 (pv 0)) (da_cons (DE.of (do_lc (.one 9) (K := K) [("_law_item", 9)] rfl sc__law_no_poly.nd (di_any (de_pv 7 (pv 7))) (blkOk_by (show blkC n__law_no_poly (defScope st__law_no_poly) _ _ = true by decide +kernel)) (fun s H C cl fp H0 G0 => (pg_name (i := 9) sc__law_no_poly.nd rfl (by first | exact Or.inl rfl | exact Or.inr rfl))) (fun s H C cl fp H0 G0 => (dts_one (dt_not (dt_tru (DB.of (de_P h__law_is_poly (hr.mono (by decide)) takes0 (da_cons (de_pv 1 (pv 1)) (da_cons (de_pv 9 (pv 9)) da_nil)))))))) (fun s H C cl fp H0 G0 => (de_pv 9 (pv 9))))) da_nil))))))))))))
theorem ok__law_no_poly (T : Txt K mg) {f : Addr} {fd : FuncData} (Fn : Fun K "_law_no_poly" "_law_no_poly" st__law_no_poly f fd) : FnOk P w K mg base (L2.CX P w) 5 f fd p__law_no_poly (spS K mg KC.pf__law_no_poly) :=
  ok_S Fn sc__law_no_poly KC.l__law_no_poly (d__law_no_poly T) KC.q__law_no_poly
theorem h__law_no_poly (T : Txt K mg) : Has P w K mg base 5 "_law_no_poly" p__law_no_poly (spS K mg KC.pf__law_no_poly) := has_of T.D__law_no_poly fun f fd Fn => ok__law_no_poly T Fn
/-! ### _law_x_poly -/
theorem d__law_x_poly (T : Txt K mg) (X : Cx) (F : Fd) (f : Addr) (cdv : Value) (A : Around) (outer : List Env) (s : Shared) (H G : Hp) (sa sl sc : Addr) (E : XK)
    (eX : X = cxOf (L2.CX P w) P w K mg base n__law_x_poly "_law_x_poly" (defScope st__law_x_poly) f cdv A outer s H E) (eF : F = fdS K mg sa sl sc H G (fun cls d _ H => E cls d H)) (tk : Takes X F.W) (hr : Room 1 X.A) : DSs X F (defBody st__law_x_poly) KC.t__law_x_poly := by
  subst eX
  subst eF
  have h__law_draw := h__law_draw (P := P) (w := w) (base := base) T
  have B := T.B
  exact (dss_cons (ds_setLc 3 (.one 4) (K := K) [("_law_i", 4)] rfl sc__law_x_poly.nd rfl rfl (sw_true rfl rfl rfl (by decide +kernel)) (di_range1 B.range (da_cons (de_op op_addD (DB.of de_int) (DB.of (de_S h__law_draw (hr.mono (by decide)) tk (da_cons (de_pv 0 (pv 0)) (da_cons (de_op op_addD (db_pv 2 (pv 2)) (DB.of de_int)) da_nil))))) da_nil)) (blkOk_by (show blkC n__law_x_poly (defScope st__law_x_poly) _ _ = true by decide +kernel)) (fun s H C cl fp H0 G0 => (pg_name (i := 4) sc__law_x_poly.nd rfl (by first | exact Or.inl rfl | exact Or.inr rfl))) (fun s H C cl fp H0 G0 => dts_nil) (fun s H C cl fp H0 G0 => (de_tup (da_cons (de_pv 4 (pv 4)) (da_cons de_int (da_cons (de_S h__law_draw (hr.mono (by decide)) takes0 (da_cons (de_pv 0 (pv 0)) (da_cons (de_pv 1 (pv 1)) da_nil))) da_nil))))))
      (dss_freeze 3 (dss_one (ds_ret (de_ty (call_tupleD) B.tuple boot_tuple' (dab_cons (DB.of (DE.of (do_lc (.one 5) (K := K) [("_law_term", 5)] rfl sc__law_x_poly.nd (di_any (de_pv 3 (pv 3))) (blkOk_by (show blkC n__law_x_poly (defScope st__law_x_poly) _ _ = true by decide +kernel)) (fun s H C cl fp H0 G0 => (pg_name (i := 5) sc__law_x_poly.nd rfl (by first | exact Or.inl rfl | exact Or.inr rfl))) (fun s H C cl fp H0 G0 => (dts_one (dt_cmp (op_neDD hr.units) (DB.of (de_ix (hu_of hr) (db_pv 5 (pv 5)) (DB.of de_int))) (DB.of de_int)))) (fun s H C cl fp H0 G0 => (de_pv 5 (pv 5)))))) dab_nil))))))
theorem ok__law_x_poly (T : Txt K mg) {f : Addr} {fd : FuncData} (Fn : Fun K "_law_x_poly" "_law_x_poly" st__law_x_poly f fd) : FnOk P w K mg base (L2.CX P w) 2 f fd p__law_x_poly (spS K mg KC.pf__law_x_poly) :=
  ok_S Fn sc__law_x_poly KC.l__law_x_poly (d__law_x_poly T) KC.q__law_x_poly
theorem h__law_x_poly (T : Txt K mg) : Has P w K mg base 2 "_law_x_poly" p__law_x_poly (spS K mg KC.pf__law_x_poly) := has_of T.D__law_x_poly fun f fd Fn => ok__law_x_poly T Fn
/-! ### _law_divided -/
theorem d__law_divided (T : Txt K mg) (X : Cx) (F : Fd) (f : Addr) (cdv : Value) (A : Around) (outer : List Env) (s : Shared) (H G : Hp) (sa sl sc : Addr) (E : XK)
    (eX : X = cxOf (L2.CX P w) P w K mg base n__law_divided "_law_divided" (defScope st__law_divided) f cdv A outer s H E) (eF : F = fdP K mg sa sl sc H G (fun cls d _ H => E cls d H)) (tk : Takes X F.W) (hr : Room 1 X.A) : DSs X F (defBody st__law_divided) KC.t__law_divided := by
  subst eX
  subst eF
  have h__law_dict := h__law_dict (P := P) (w := w) (base := base) T
  have h__law_high := h__law_high (P := P) (w := w) (base := base) T
  have h__law_added := h__law_added (P := P) (w := w) (base := base) T
  have h__law_poly_of := h__law_poly_of (P := P) (w := w) (base := base) T
  have B := T.B
  exact (dss_cons (ds_parC [3, 4, 5] (K := K) (dai_own do_dictT fun _ _ => (dai_val (de_P h__law_dict (hr.mono (by decide)) tk (da_cons (de_pv 1 (pv 1)) da_nil)) (dai_val (de_P h__law_high (hr.mono (by decide)) tk (da_cons (de_pv 2 (pv 2)) (da_cons de_int da_nil))) dai_nil))) (pg_tup rfl (pgs_cons (pg_name (i := 3) sc__law_divided.nd rfl (by first | exact Or.inl rfl | exact Or.inr rfl)) (pgs_cons (pg_name (i := 4) sc__law_divided.nd rfl (by first | exact Or.inl rfl | exact Or.inr rfl)) (pgs_cons (pg_name (i := 5) sc__law_divided.nd rfl (by first | exact Or.inl rfl | exact Or.inr rfl)) pgs_nil)))) (by decide))
      (dss_cons (ds_set 6 sc__law_divided.nd (de_ix (hu_of hr) (DB.of (DE.of (do_lc (.one 10) (K := K) [("_law_number", 10)] rfl sc__law_divided.nd (di_range2 B.range (da_cons de_int (da_cons (de_pv 0 (pv 0)) da_nil))) (blkOk_by (show blkC n__law_divided (defScope st__law_divided) _ _ = true by decide +kernel)) (fun s H C cl fp H0 G0 => (pg_name (i := 10) sc__law_divided.nd rfl (by first | exact Or.inl rfl | exact Or.inr rfl))) (fun s H C cl fp H0 G0 => (dts_one (dt_cmp (op_eqDD hr.units) (DB.of (de_op op_modD (DB.of (de_ty (call_int1D) B.int boot_int' (dab_cons (DB.of (de_op op_mulD (db_pv 10 (pv 10)) (DB.of (de_ix (hu_of hr) (DB.of (de_ix (hu_of hr) (db_pv 2 (pv 2)) (DB.of (de_neg (DB.of de_int))))) (DB.of de_int))))) dab_nil))) (db_pv 0 (pv 0)))) (DB.of de_int)))) (fun s H C cl fp H0 G0 => (de_pv 10 (pv 10)))))) (DB.of de_int)))
      (dss_cons (ds_for (.one 7) (K := K) (passes_of rfl) rfl (di_range3 B.range (da_cons (de_P h__law_high (hr.mono (by decide)) tk (da_cons (de_pv 1 (pv 1)) (da_cons de_int da_nil))) (da_cons (de_op op_subD (db_pv 5 (pv 5)) (DB.of de_int)) (da_cons (de_neg (DB.of de_int)) da_nil)))) (pg_name (i := 7) sc__law_divided.nd rfl (by first | exact Or.inl rfl | exact Or.inr rfl))
      (dss_cons (ds_set 8 sc__law_divided.nd (de_op op_modD (DB.of (de_ty (call_int1D) B.int boot_int' (dab_cons (DB.of (de_op op_mulD (DB.of (de_get2 (hu_of hr) (db_pv 4 (pv 4)) (de_tup (da_cons (de_pv 7 (pv 7)) (da_cons de_int da_nil))) de_int ⟨rfl, rfl, rfl, rfl⟩)) (db_pv 6 (pv 6)))) dab_nil))) (db_pv 0 (pv 0))))
      (dss_one (ds_if (dt_cmp (op_neDD hr.units) (db_pv 8 (pv 8)) (DB.of de_int))
      (dss_cons (ds_put 3 (hu_of hr) (de_tup (da_cons (de_op op_subD (db_pv 7 (pv 7)) (db_pv 5 (pv 5))) (da_cons de_int da_nil))) (de_pv 8 (pv 8)))
      (dss_cons (ds_set 9 sc__law_divided.nd (DE.of (do_ty2 (call_dict1D rfl hr.units) B.dict boot_dict' (dab_cons (DB.of (DE.of (do_lc (.one 11) (K := K) [("_law_term", 11)] rfl sc__law_divided.nd (di_any (de_pv 2 (pv 2))) (blkOk_by (show blkC n__law_divided (defScope st__law_divided) _ _ = true by decide +kernel)) (fun s H C cl fp H0 G0 => (pg_name (i := 11) sc__law_divided.nd rfl (by first | exact Or.inl rfl | exact Or.inr rfl))) (fun s H C cl fp H0 G0 => dts_nil) (fun s H C cl fp H0 G0 => (de_tup (da_cons (de_tup (da_cons (de_op op_subD (DB.of (de_op op_addD (DB.of (de_ix (hu_of hr) (db_pv 11 (pv 11)) (DB.of de_int))) (db_pv 7 (pv 7)))) (db_pv 5 (pv 5))) (da_cons de_int da_nil))) (da_cons (de_ix (hu_of hr) (db_pv 11 (pv 11)) (DB.of de_int)) da_nil))))))) dab_nil))))
      (dss_one (ds_set 4 sc__law_divided.nd (de_P h__law_added (hr.mono (by decide)) tk (da_cons (de_pv 0 (pv 0)) (da_cons (de_pv 4 (pv 4)) (da_cons (de_pv 9 (pv 9)) (da_cons (de_op op_subD (db_pv 0 (pv 0)) (db_pv 8 (pv 8))) da_nil)))))))))
      dss_nil))))
      (dss_freeze 3 (dss_one (ds_ret (de_tup (da_cons (de_P h__law_poly_of (hr.mono (by decide)) tk (da_cons (de_pv 3 (pv 3)) da_nil)) (da_cons (de_P h__law_poly_of (hr.mono (by decide)) tk (da_cons (de_pv 4 (pv 4)) da_nil)) da_nil)))))))))
theorem ok__law_divided (T : Txt K mg) {f : Addr} {fd : FuncData} (Fn : Fun K "_law_divided" "_law_divided" st__law_divided f fd) : FnOk P w K mg base (L2.CX P w) 2 f fd p__law_divided (spP K mg KC.pf__law_divided) :=
  ok_P Fn sc__law_divided KC.l__law_divided (d__law_divided T) KC.q__law_divided
theorem h__law_divided (T : Txt K mg) : Has P w K mg base 2 "_law_divided" p__law_divided (spP K mg KC.pf__law_divided) := has_of T.D__law_divided fun f fd Fn => ok__law_divided T Fn
/-! ### law -/
theorem fo_mk {a0 b0 a1 b1 a2 b2 a3 b3 a4 b4 : Addr → Addr → HO} {Q : FoT → Prop} (h : ∀ fo : FoT, fo 0 = (a0, b0) → fo 1 = (a1, b1) → fo 2 = (a2, b2) → fo 3 = (a3, b3) → fo 4 = (a4, b4) → Q fo) : ∃ fo, Q fo := ⟨mkFo [(a0, b0), (a1, b1), (a2, b2), (a3, b3), (a4, b4)], h _ rfl rfl rfl rfl rfl⟩
theorem d_law (T : Txt K mg) {TT : List (Addr × Str)} {c P0 : Addr} (X : Cx) (f : Addr) (cdv : Value) (A : Around) (outer : List Env) (s : Shared) (H : Hp) (E : XK)
    (eX : X = cxOf (L2.CX P w) P w K mg base n_law "law" (defScope st_law) f cdv A outer s H E) (hr : Room 9 X.A) (TB : LamX.TabB base mg c P0) (hcode : X.env.code = .ref c) (hmT : (P0, X.env.qual ++ "<lambda>") ∈ TT) (hu : ∀ p ∈ TT, p.1 = P0 → p.2 = X.env.qual ++ "<lambda>") (hgd : X.A.guards = some []) : ∃ fo : FoT, ∀ (F : Fd) (G : Hp) (sa sl sc : Addr), F = fdL K mg sa sl sc TT G → NoTbl F → DSs X F (defBody st_law).tail (t_law fo) := by
  subst eX
  have h__law_prime := h__law_prime (P := P) (w := w) (base := base) T
  have h__law_x_poly := h__law_x_poly (P := P) (w := w) (base := base) T
  have h__law_draw := h__law_draw (P := P) (w := w) (base := base) T
  have h__law_divided := h__law_divided (P := P) (w := w) (base := base) T
  have h_divided := h_divided (P := P) (w := w) (base := base) T
  have h__law_plus := h__law_plus (P := P) (w := w) (base := base) T
  have h__law_times := h__law_times (P := P) (w := w) (base := base) T
  have h__law_high := h__law_high (P := P) (w := w) (base := base) T
  have h__law_no_prime := h__law_no_prime (P := P) (w := w) (base := base) T
  have h__law_no_poly := h__law_no_poly (P := P) (w := w) (base := base) T
  have hk_divided := hk_divided_2_1_0 (P := P) (w := w) (base := base) T
  have B := T.B
  have I_BadPoly := T.I_BadPoly
  have I_BadPrime := T.I_BadPrime
  have D_caught := T.D__law_caught
  obtain ⟨CS, mFill, hFill⟩ := T.fill
  have tk : Takes (cxOf (L2.CX P w) P w K mg base n_law "law" (defScope st_law) f cdv A outer s H E) noW := takes0
  refine' fo_mk ?hfo
  case hfo =>
    intro fo e0 e1 e2 e3 e4 F G sa sl sc eF nt
    subst eF
    exact (dss_cons (ds_for (.one 2) (K := K) (passes_of rfl) rfl (di_range1 B.range (da_cons (de_op op_addD (DB.of de_int) (DB.of (de_blt (call_min2D rfl) B.min boot_min' (dab_cons (DB.of (de_blt (call_lenD) B.len boot_len' (dab_cons (db_pv 0 (pv 0)) dab_nil))) (dab_cons (DB.of de_int) dab_nil))))) da_nil)) (pg_name (i := 2) sc_law.nd rfl (by first | exact Or.inl rfl | exact Or.inr rfl))
      (dss_cons (ds_set 3 sc_law.nd (de_S h__law_prime (hr.mono (by decide)) tk (da_cons (de_pv 1 (pv 1)) da_nil)))
      (dss_cons (ds_tg (.tup [4, 5]) (K := K) (de_tup (da_cons (de_S h__law_x_poly (hr.mono (by decide)) tk (da_cons (de_pv 1 (pv 1)) (da_cons (de_pv 3 (pv 3)) (da_cons de_int da_nil)))) (da_cons (de_S h__law_x_poly (hr.mono (by decide)) tk (da_cons (de_pv 1 (pv 1)) (da_cons (de_pv 3 (pv 3)) (da_cons de_int da_nil)))) da_nil))) (pg_tup rfl (pgs_cons (pg_name (i := 4) sc_law.nd rfl (by first | exact Or.inl rfl | exact Or.inr rfl)) (pgs_cons (pg_name (i := 5) sc_law.nd rfl (by first | exact Or.inl rfl | exact Or.inr rfl)) pgs_nil))))
      (dss_cons (ds_set 5 sc_law.nd (de_if (dt_cmp (op_neDD hr.units) (db_pv 5 (pv 5)) (DB.of (de_tup da_nil))) (de_pv 5 (pv 5)) (de_tup (da_cons (de_tup (da_cons (de_S h__law_draw (hr.mono (by decide)) tk (da_cons (de_pv 1 (pv 1)) (da_cons de_int da_nil))) (da_cons de_int (da_cons de_int da_nil)))) da_nil))))
      (dss_cons (ds_set 6 sc_law.nd (de_P h__law_divided (hr.mono (by decide)) tk (da_cons (de_pv 3 (pv 3)) (da_cons (de_pv 4 (pv 4)) (da_cons (de_pv 5 (pv 5)) da_nil)))))
      (dss_cons (ds_if (dt_cmp (op_neDD hr.units) (DB.of (de_blt (call_reprD hgd (hr65 hr)) B.repr boot_repr' (dab_cons (DB.of (de_lst (da_cons (de_P h_divided (hr.mono (by decide)) tk (da_cons (de_pv 3 (pv 3)) (da_cons (de_pv 4 (pv 4)) (da_cons (de_pv 5 (pv 5)) da_nil)))) (da_cons (de_PK hk_divided (hr.mono (by decide)) tk (dk_cons (de_pv 5 (pv 5)) (dk_cons (de_pv 4 (pv 4)) (dk_cons (de_pv 3 (pv 3)) dk_nil)))) da_nil)))) dab_nil))) (DB.of (de_blt (call_reprD hgd (hr65 hr)) B.repr boot_repr' (dab_cons (DB.of (de_lst (da_cons (de_pv 6 (pv 6)) (da_cons (de_pv 6 (pv 6)) da_nil)))) dab_nil))))
      (dss_one (ds_ret de_bl))
      dss_nil)
      (dss_cons (ds_if (dt_w (dw_or (dt_cmp (op_neDD hr.units) (DB.of (de_P h__law_plus (hr.mono (by decide)) tk (da_cons (de_pv 3 (pv 3)) (da_cons (de_P h__law_times (hr.mono (by decide)) tk (da_cons (de_pv 3 (pv 3)) (da_cons (de_ix (hu_of hr) (db_pv 6 (pv 6)) (DB.of de_int)) (da_cons (de_pv 5 (pv 5)) da_nil)))) (da_cons (de_ix (hu_of hr) (db_pv 6 (pv 6)) (DB.of de_int)) da_nil))))) (db_pv 4 (pv 4))) (dw_or1 (dt_cmp (op_geD hr.units0) (DB.of (de_P h__law_high (hr.mono (by decide)) tk (da_cons (de_ix (hu_of hr) (db_pv 6 (pv 6)) (DB.of de_int)) (da_cons de_int da_nil)))) (DB.of (de_P h__law_high (hr.mono (by decide)) tk (da_cons (de_pv 5 (pv 5)) (da_cons de_int da_nil))))))))
      (dss_one (ds_ret de_bl))
      dss_nil)
      (dss_cons (ds_tg (.tup [7, 8]) (K := K) (de_tup (da_cons (de_S h__law_no_prime (hr.mono (by decide)) tk (da_cons (de_pv 1 (pv 1)) da_nil)) (da_cons (de_S h__law_no_poly (hr.mono (by decide)) tk (da_cons (de_pv 1 (pv 1)) (da_cons (de_pv 3 (pv 3)) da_nil))) da_nil))) (pg_tup rfl (pgs_cons (pg_name (i := 7) sc_law.nd rfl (by first | exact Or.inl rfl | exact Or.inr rfl)) (pgs_cons (pg_name (i := 8) sc_law.nd rfl (by first | exact Or.inl rfl | exact Or.inr rfl)) pgs_nil))))
      (dss_cons (ds_set 9 sc_law.nd (de_P h__law_plus (hr.mono (by decide)) tk (da_cons (de_pv 3 (pv 3)) (da_cons (de_pv 4 (pv 4)) (da_cons (de_tup (da_cons (de_tup (da_cons (de_S h__law_draw (hr.mono (by decide)) tk (da_cons (de_pv 1 (pv 1)) (da_cons de_int da_nil))) (da_cons (de_op op_addD (DB.of de_int) (DB.of (de_S h__law_draw (hr.mono (by decide)) tk (da_cons (de_pv 1 (pv 1)) (da_cons de_int da_nil))))) (da_cons de_int da_nil)))) da_nil)) da_nil)))))
      (dss_cons (ds_if (dt_not (dt_tru (DB.of (de_isX I_BadPrime (DB.of (de_caught (k := 6) D_caught sc__law_caught rfl (Or.inl rfl) (fun g cdv => caught_gives "error" rfl sc__law_caught.nd rfl mFill (by decide) rfl rfl (by decide) (by decide) (by decide) (by decide)) TB hcode hmT hu nt hFill (hr.mono (by decide)) (LamX.lamS_by (show LamX.lamSB (defScope st_law) _ = true by decide +kernel)) (fun A outer s H E f c' hr H0 G0 => (de_P h_divided (hr.mono (by decide)) (takes_of rfl rfl rfl rfl) (da_cons (de_pv 7 (pv 7)) (da_cons (de_pv 8 (pv 8)) (da_cons (de_tup da_nil) da_nil))))))) B.isinstance))))
      (dss_one (ds_ret de_bl))
      dss_nil)
      (dss_one (ds_for (.one 10) (K := K) (passes_of rfl) rfl (di_any (de_lst (da_cons (de_lamV (k := 0) (φ := (fo 0).1) (ψ := (fo 0).2) (congrArg Prod.fst e0) (congrArg Prod.snd e0) TB hcode hmT hu nt (fun _ => rfl) (LamX.lamS_by (show LamX.lamSB (defScope st_law) _ = true by decide +kernel))) (da_cons (de_lamV (k := 1) (φ := (fo 1).1) (ψ := (fo 1).2) (congrArg Prod.fst e1) (congrArg Prod.snd e1) TB hcode hmT hu nt (fun _ => rfl) (LamX.lamS_by (show LamX.lamSB (defScope st_law) _ = true by decide +kernel))) (da_cons (de_lamV (k := 2) (φ := (fo 2).1) (ψ := (fo 2).2) (congrArg Prod.fst e2) (congrArg Prod.snd e2) TB hcode hmT hu nt (fun _ => rfl) (LamX.lamS_by (show LamX.lamSB (defScope st_law) _ = true by decide +kernel))) (da_cons (de_lamV (k := 3) (φ := (fo 3).1) (ψ := (fo 3).2) (congrArg Prod.fst e3) (congrArg Prod.snd e3) TB hcode hmT hu nt (fun _ => rfl) (LamX.lamS_by (show LamX.lamSB (defScope st_law) _ = true by decide +kernel))) (da_cons (de_lamV (k := 4) (φ := (fo 4).1) (ψ := (fo 4).2) (congrArg Prod.fst e4) (congrArg Prod.snd e4) TB hcode hmT hu nt (fun _ => rfl) (LamX.lamS_by (show LamX.lamSB (defScope st_law) _ = true by decide +kernel))) da_nil))))))) (pg_name (i := 10) sc_law.nd rfl (by first | exact Or.inl rfl | exact Or.inr rfl))
      (dss_one (ds_if (dt_not (dt_tru (DB.of (de_isX I_BadPoly (DB.of (de_caughtV (m := 6) (fo := fun k => fo (0 + k)) D_caught sc__law_caught rfl (Or.inl rfl) (fun g cdv => caught_gives "error" rfl sc__law_caught.nd rfl mFill (by decide) rfl rfl (by decide) (by decide) (by decide) (by decide)) hmT nt hFill (hr.mono (by decide)) (de_pv 10 (pv 10)) (lamks_cons (lamK_mk _ _ _ (congrArg Prod.fst e0) (congrArg Prod.snd e0) (LamX.lamS_by (show LamX.lamSB (defScope st_law) _ = true by decide +kernel)) (fun A outer s H E f c' hr H0 G0 => (de_P h_divided (hr.mono (by decide)) (takes_of rfl rfl rfl rfl) (da_cons (de_pv 3 (pv 3)) (da_cons (de_pv 8 (pv 8)) (da_cons (de_tup da_nil) da_nil)))))) (lamks_cons (lamK_mk _ _ _ (congrArg Prod.fst e1) (congrArg Prod.snd e1) (LamX.lamS_by (show LamX.lamSB (defScope st_law) _ = true by decide +kernel)) (fun A outer s H E f c' hr H0 G0 => (de_P h_divided (hr.mono (by decide)) (takes_of rfl rfl rfl rfl) (da_cons (de_pv 3 (pv 3)) (da_cons (de_pv 9 (pv 9)) (da_cons (de_pv 5 (pv 5)) da_nil)))))) (lamks_cons (lamK_mk _ _ _ (congrArg Prod.fst e2) (congrArg Prod.snd e2) (LamX.lamS_by (show LamX.lamSB (defScope st_law) _ = true by decide +kernel)) (fun A outer s H E f c' hr H0 G0 => (de_P h_divided (hr.mono (by decide)) (takes_of rfl rfl rfl rfl) (da_cons (de_pv 3 (pv 3)) (da_cons (de_pv 4 (pv 4)) (da_cons (de_pv 9 (pv 9)) da_nil)))))) (lamks_cons (lamK_mk _ _ _ (congrArg Prod.fst e3) (congrArg Prod.snd e3) (LamX.lamS_by (show LamX.lamSB (defScope st_law) _ = true by decide +kernel)) (fun A outer s H E f c' hr H0 G0 => (de_P h_divided (hr.mono (by decide)) (takes_of rfl rfl rfl rfl) (da_cons (de_pv 3 (pv 3)) (da_cons (de_pv 4 (pv 4)) (da_cons (de_pv 8 (pv 8)) da_nil)))))) (lamks_cons (lamK_mk _ _ _ (congrArg Prod.fst e4) (congrArg Prod.snd e4) (LamX.lamS_by (show LamX.lamSB (defScope st_law) _ = true by decide +kernel)) (fun A outer s H E f c' hr H0 G0 => (de_P h_divided (hr.mono (by decide)) (takes_of rfl rfl rfl rfl) (da_cons (de_pv 3 (pv 3)) (da_cons (de_pv 4 (pv 4)) (da_cons (de_tup da_nil) da_nil)))))) lamks_nil))))))) B.isinstance))))
      (dss_one (ds_ret de_bl))
      dss_nil))))))))))))))
      (dss_one (ds_ret de_bl)))
theorem law_here {fa f3 c P0 : Addr} {h : Heap} {oc : Value} {od an : Option Addr} {osl : Array (Option Value)} {kV doc pm cdv ct : Value} (T : Txt K mg) (KX : K.In h) (G : h.Ns mainGlobals mg) (hfa : mg "law" = some (.ref fa)) (a3 : PySem.W.nsIn K mainGlobals "law" = some (some (.ref f3))) (lk : K.lookup f3 = some ⟨oc, od, .func (PySem.W.fnOf "law" "law" (defArgs st_law) (defBody st_law) (defScope st_law) .none kV doc pm an cdv ct), osl⟩) (hcd : PySem.W.codeIn K cdv "law" = true) (kp : PySem.W.keepIn K (.ref f3) = true) (cdv_eq : cdv = .ref c) (hc : PySem.W.CodeHd h c P0) (ht : h.get? P0 = some { cls := .none, data := .fields #[] }) (hk : K.lookup P0 = none)
    (main : ∀ (fo : FoT) (ns : List Int), ns.length ≤ 63 → t_law fo lawD ((envAt n_law.length [.scr ns]).set 1 (.val .st)) 0) : LawHere PySem.Challenge.rw_rowsfilled_k06_division_in_x w K 63 mg fa h := by
  have e := hfa.symm.trans (PySem.W.mg_of KX G a3)
  cases e
  refine ⟨[(c, P0)], (fun p hp => by rw [List.mem_singleton.mp hp]; exact ht), (fun p hp => by rw [List.mem_singleton.mp hp]; exact hk), (fun p hp => by rw [List.mem_singleton.mp hp]; exact hc), fun s base H a ns hl tb tH tO hS e0 => ?_⟩
  have Fn := fun_mk (st := st_law) lk hcd kp
  refine law_runC (st := st_law) (k := 9) (N := n_law) lk hcd (Fn.binds fun _ _ _ _ _ _ us hl => match us, hl with | [_], _ => rfl) sc_law ⟨rfl, by decide, by decide⟩ e0 fun hr => ?_
  obtain ⟨fo, dl⟩ := d_law (base := base) T _ fa cdv callerA [] s H (fun _ _ _ => False) rfl hr (tb (c, P0) (List.mem_singleton.mpr rfl)) cdv_eq (List.mem_singleton.mpr rfl) (fun p hp _ => by rw [List.mem_singleton.mp hp]) guards_law
  exact law_PSs (Q := fun v _ => v = .bl true) (i := 1) (y := "_law_state") (T := [(P0, (cxOf (L2.CX PySem.Challenge.rw_rowsfilled_k06_division_in_x.prog w) PySem.Challenge.rw_rowsfilled_k06_division_in_x.prog w K mg base n_law "law" (defScope st_law) fa cdv callerA [] s H (fun _ _ _ => False)).env.qual ++ "<lambda>")]) (rest := (defBody st_law).tail) (by rfl) (by rfl) (h__law_begun T) (hr.mono (by decide)) sc_law.nd (by rfl) (by first | exact Or.inl rfl | exact Or.inr rfl) (by first | exact .inl rfl | exact .inr rfl) (pv 0) (by decide) (by rfl) (by rfl)
    (fun sa sl sc G ng => dl _ G sa sl sc rfl (noTbl_L ng)) (main fo ns hl) (fun p hp => by rw [List.mem_singleton.mp hp]; exact tH _ (List.mem_singleton.mpr rfl)) hS hl (fun _ => rfl)
end
end K06
set_option Elab.async false
set_option linter.all false
set_option maxRecDepth 100000
set_option maxHeartbeats 1000000
namespace K06
open PySem PySem.Spec L2 DL KC
theorem main : ∀ (fo : FoT) (ns : List Int), ns.length ≤ 63 → t_law fo lawD ((envAt n_law.length [.scr ns]).set 1 (.val .st)) 0 := by
  intro fo ns hns
  unfold t_law
  refine st_seq fun N0 hN0 => ?_
  simp [-loopD]
  obtain ⟨m, hm, hm2⟩ : ∃ m : Nat, (3 + if 8 < (ns.length : Int) then 8 else (ns.length : Int)) = (m : Int) ∧ m ≤ 11 := by
    by_cases h : 8 < (ns.length : Int)
    · exact ⟨11, by rw [if_pos h]; rfl, by omega⟩
    · exact ⟨3 + ns.length, by rw [if_neg h]; simp, by omega⟩
  rw [hm]
  refine ⟨by unfold smallI; omega, ?_⟩
  rw [Int.toNat_natCast]
  refine loop_rng (fun k env c => c ≤ k * 100000 ∧ ∃ s2 s3 s4 s5 s6 s7 s8 s9 s10, env = [.val (.scr ns), .val .st, s2, s3, s4, s5, s6, s7, s8, s9, s10]) 0 m ?_ ?_ _ _ ⟨by simp, _, _, _, _, _, _, _, _, _, rfl⟩
  · rintro k hk N hN env c ⟨hc, s2, s3, s4, s5, s6, s7, s8, s9, s10, rfl⟩
    have hk2 : c + 100000 ≤ (k + 1) * 100000 := by omega
    have hcap : (k + 1) * 100000 ≤ cap := by unfold cap; omega
    simp only [Tg.set, List.set_cons_succ, List.set_cons_zero]
    refine st_seq fun N1 hN1 => ?_
    simp
    refine s__law_prime (by omega) fun p hp => hN1 _ _ ?_
    have p1 : 2 ≤ p ∧ p ≤ 7 := by omega
    refine st_seq fun N2 hN2 => ?_
    simp
    refine s__law_x_poly (m := 20) (by omega) p1.1 p1.2 (by omega) fun one c1 ho h1 h2 => ?_
    refine s__law_x_poly (m := 8) (by omega) p1.1 p1.2 (by omega) fun oth0 c2 ho0 h3 h4 => hN2 _ _ ?_
    refine st_seq fun N3 hN3 => ?_
    have go : ∀ oth c3, oth ≠ [] → GoodP p 8 0 oth → c3 ≤ c2 + 1 → N3 [.val (.scr ns), .val .st, .val (.int k), .val (.int p), .val (encP one), .val (encP oth), s6, s7, s8, s9, s10] c3 := by
      intro oth c3 hn hL hc3
      refine hN3 _ _ ?_
      have lo := GoodB.count (mx := 20) (my := 0) ho.book
      have ll := GoodB.count (mx := 8) (my := 0) hL.book
      rw [bookOf_length] at lo ll
      refine st_seq fun N4 hN4 => ?_
      simp
      refine s__law_divided (mx := 20) hp (by omega) ho (hL.mono (by omega) (by omega)) hn fun qs rs f r hI hqs hrs hq hr => hN4 _ _ ?_
      have lq := GoodB.count (mx := 20) (my := 0) hqs.book
      have lr := GoodB.count (mx := 20) (my := 0) hrs.book
      rw [bookOf_length] at lq lr
      have dv : ∀ {W R : D → Prop}, R (.tup [encP qs, encP rs]) → pf_divided [.int p, encP one, encP oth] W R := fun {W R} h => by
        refine divided_ok (mx := 20) (my := 8) hp (by omega) (by omega) ho hL hn fun qs' rs' f' r' hI' g1 g2 e1 e2 => ?_
        obtain ⟨z1, z2⟩ := div_eq hI' hI g1 g2 hqs hrs e1 e2 hq hr
        rw [z1, z2]
        exact h
      refine st_seq fun N5 hN5 => ?_
      simp
      refine dv ?_
      refine dv ?_
      have nq := num_encP (p := p) hqs.1 (by omega) (by omega) (by omega)
      have nr := num_encP (p := p) hrs.1 (by omega) (by omega) (by omega)
      have nx : numD (.tup [encP qs, encP rs]) = true := by simp [numD, numL, nq, nr]
      have dx : (toPy (.tup [encP qs, encP rs])).depth ≤ 50 := by
        have z1 := depth_encP qs
        have z2 := depth_encP rs
        simp only [toPy, toPyL, PyData.depth, PyData.depthAll]
        omega
      have wx : wid (.tup [encP qs, encP rs]) ≤ 1000000 := by
        simp only [wid, widL, wid_encP]
        omega
      obtain ⟨w5, w6⟩ := show2 nx nx dx dx wx wx
      refine ⟨w5, w5, w6, w6, rfl, hN5 _ _ ?_⟩
      refine st_seq fun N6 hN6 => ?_
      have a0 : atI [encP qs, encP rs] 0 = some (encP qs) := rfl
      have a1 : atI [encP qs, encP rs] 1 = some (encP rs) := rfl
      simp [a0, a1]
      have hmul : qs.length * oth.length ≤ 16000000 := Nat.le_trans (Nat.mul_le_mul lq ll) (by omega)
      refine s__law_times p1.1 p1.2 hqs hL hmul (by omega) (by omega) fun ts hts htq htl => ?_
      have lts : ts.length ≤ 1000 := Nat.le_trans htl (Nat.le_trans (Nat.mul_le_mul lq ll) (by omega))
      refine s__law_plus (m := 28) p1.1 p1.2 (hts.mono (by omega) (by omega)) (hrs.mono (by omega) (by omega)) (by omega) (by omega) fun ws hws hwq hwl => ?_
      have ews : ws = one := poly_ext hws ho fun q => by
        rw [show coef (bookOf ws) q = _ from hwq q, htq q, hr q, mulC_same hqs.book hI.gf hq, ← hI.id q, Int.add_emod, Int.emod_emod, ← Int.add_emod]
      subst ews
      have shw := shaped_encP ws
      have eqw : eqvD (encP ws) (encP ws) = true := by rw [eqv_encP, decide_eq_true rfl]
      simp [shw, eqw]
      refine s__law_high (.inl rfl) hrs (by omega) ?_
      refine s__law_high (.inl rfl) hL (by omega) ?_
      have hlt : hiB (bookOf rs) < hiB (bookOf oth) := by
        have hnb : bookOf oth ≠ [] := fun e => hn (List.map_eq_nil_iff.mp e)
        obtain ⟨_, d0, _⟩ := lead_spec hp (hL.book.mono (by omega) (by omega)) hnb
        rcases hiB_spec (bookOf rs) with ⟨_, z⟩ | ⟨g, hg, g1, _⟩
        · omega
        · have c1 := coef_pos hrs.book hg
          rw [show coef (bookOf rs) g.1 = _ from hr g.1] at c1
          have hm : g.1 ∈ r.map (·.1) := Classical.byContradiction fun n => by
            rw [coef_out n] at c1
            omega
          obtain ⟨e, he, e1⟩ := List.mem_map.mp hm
          have := hI.hr e he
          rw [e1] at this
          omega
      have eh : ∀ b : Bk, topL (b.map fun e => spotI 0 e.1) = hiB b := fun _ => rfl
      rw [eh, eh]
      simp [show ¬ hiB (bookOf oth) ≤ hiB (bookOf rs) by omega]
      refine hN6 _ _ ?_
      refine st_seq fun N7 hN7 => ?_
      simp
      refine s__law_no_prime (by omega) fun d1 hd1 => ?_
      refine s__law_no_poly (by omega) p1.1 p1.2 fun d2 c4 jd nd h5 h6 => hN7 _ _ ?_
      obtain ⟨t1, t2⟩ := noPrimes_ok hd1
      refine st_seq fun N8 hN8 => ?_
      simp
      refine draw_ok (n := 3) (by omega) (by omega) (by omega) fun v hv => ?_
      refine draw_ok (n := 3) (by omega) (by omega) (by omega) fun w hw => ?_
      simp
      have gone : GoodP p 28 28 [((v : Int), 1 + (w : Int), 1)] := ⟨fun t ht => by
        rw [List.mem_singleton] at ht
        subst ht
        unfold okT
        simp only
        omega, List.pairwise_singleton _ _⟩
      refine s__law_plus (m := 28) (us := [((v : Int), 1 + (w : Int), 1)]) p1.1 p1.2 (ho.mono (by omega) (by omega)) gone (by omega) (by simp) fun mix hmix hmq hml => hN8 _ _ ?_
      have jm : judge (encP mix) := judge_enc (by simp at hml; omega)
      have nxm : ¬ xPoly p (encP mix) := fun ⟨ts2, e, g, hy⟩ => by
        have e := encP_inj e
        subst e
        have z := hmq ((v : Int), 1 + (w : Int))
        have out : ∀ {l : List T3}, noY l = true → cf l ((v : Int), 1 + (w : Int)) = 0 := fun {l} hy => coef_out fun hm => by
          obtain ⟨e, he, e1⟩ := List.mem_map.mp hm
          obtain ⟨t, ht, rfl⟩ := List.mem_map.mp he
          have := List.all_eq_true.mp hy t ht
          rw [beq_iff_eq] at this
          injection e1 with _ e2
          omega
        rw [out hy, out (noY_of ho)] at z
        have c1 : cf [((v : Int), 1 + (w : Int), 1)] ((v : Int), 1 + (w : Int)) = 1 := by simp [cf, bookOf, coef]
        rw [c1, Int.zero_add, Int.emod_eq_of_lt (by omega) (by omega)] at z
        omega
      have nxb : ¬ xPoly p d2 := fun ⟨ts2, e, g, _⟩ => by
        rw [e, isPoly_enc.mpr g] at nd
        cases nd
      refine st_seq fun N9 hN9 => ?_
      simp
      refine divided_np t1 t2 ?_
      refine ⟨by decide +kernel, by decide +kernel, hN9 _ _ ?_⟩
      simp [-loopD]
      refine loop_inv (fun rest env c6 => (∀ x ∈ rest, x = .fn 0 (fo 0).1 (fo 0).2 ∨ x = .fn 1 (fo 1).1 (fo 1).2 ∨ x = .fn 2 (fo 2).1 (fo 2).2 ∨ x = .fn 3 (fo 3).1 (fo 3).2 ∨ x = .fn 4 (fo 4).1 (fo 4).2) ∧ c6 = c4 + 1 + 1 ∧ ∃ s10, env = [.val (.scr ns), .val .st, .val (.int k), .val (.int p), .val (encP ws), .val (encP oth), .val (.tup [encP qs, encP rs]), .val d1, .val d2, .val (encP mix), s10]) ?_ ?_ _ _ _ ⟨?_, rfl, _, rfl⟩
      · rintro x xs N10 hN10 env c6 ⟨hx, rfl, s10, rfl⟩
        have hx0 := hx x (List.mem_cons_self ..)
        have next : ∀ s10, N10 [.val (.scr ns), .val .st, .val (.int k), .val (.int p), .val (encP ws), .val (encP oth), .val (.tup [encP qs, encP rs]), .val d1, .val d2, .val (encP mix), s10] (c4 + 1 + 1) := fun s10 => hN10 _ _ ⟨fun y hy => hx y (List.mem_cons_of_mem _ hy), rfl, _, rfl⟩
        rcases hx0 with rfl | rfl | rfl | rfl | rfl
        · simp
          refine divided_b1 hp jd nxb ?_
          exact ⟨by decide +kernel, by decide +kernel, next _⟩
        · simp
          refine divided_b1 hp jm nxm ?_
          exact ⟨by decide +kernel, by decide +kernel, next _⟩
        · simp
          refine divided_b2 (mx := 20) hp (by omega) ho jm nxm ?_
          exact ⟨by decide +kernel, by decide +kernel, next _⟩
        · simp
          refine divided_b2 (mx := 20) hp (by omega) ho jd nxb ?_
          exact ⟨by decide +kernel, by decide +kernel, next _⟩
        · simp
          refine divided_b3 (mx := 20) hp (by omega) ho ?_
          exact ⟨by decide +kernel, by decide +kernel, next _⟩
      · rintro env c6 ⟨_, rfl, s10, rfl⟩
        exact hN _ _ ⟨by omega, _, _, _, _, _, _, _, _, _, rfl⟩
      · intro x hx
        simpa using hx
    have fin := go
    by_cases h0 : oth0 = []
    · subst h0
      simp [encP]
      refine draw_ok (n := 4) (by omega) (by omega) (by omega) fun v hv => ?_
      refine go [((v : Int), 0, 1)] _ (by simp) ⟨fun t ht => ?_, List.pairwise_singleton _ _⟩ (by omega)
      rw [List.mem_singleton] at ht
      subst ht
      unfold okT
      simp only
      omega
    · have sh := shaped_encP oth0
      have en : eqvD (encP oth0) (.tup []) = false := by
        show eqvD (encP oth0) (encP []) = false
        rw [eqv_encP, decide_eq_false h0]
      simp [sh, en]
      exact go oth0 _ h0 ho0 (by omega)
  · rintro env c ⟨_, s2, s3, s4, s5, s6, s7, s8, s9, s10, rfl⟩
    refine hN0 _ _ ?_
    simp
end K06
set_option Elab.async false
set_option linter.all false
set_option maxRecDepth 100000
set_option maxHeartbeats 8000000
open PySem PySem.W PyProof.Rows
set_option pp.maxSteps 300
theorem PySem.Challenge.cw_rowsfilled_k06_division_in_x_holds : PySem.Challenge.rw_rowsfilled_k06_division_in_x.Holds := by
  w_on; o_law; k_head; (case hw => w_witness2)
  k_fill
  refine DL.walk_hereT (l := PySem.Challenge.rw_rowsfilled_k06_division_in_x) (n := 63) rfl (by decide) rfl (fun w h Y => PySem.W.km_in_of Y) ?F
  case F =>
    intro w mg mb mean fa h Y KX Tp G hmg
    refine' K06.law_here (T := ⟨?zB, ?zC, ?zD_is_between, ?zD_need_prime, ?zD_is_term, ?zD_polys_right, ?zD_need_poly, ?zD_book_of, ?zD_poly_of, ?zD_added, ?zD_highest, ?zD_back_of, ?zD_need_x_poly, ?zD_moved_up, ?zD_divide, ?zD_divided, ?zD__law_begun, ?zD__law_draw, ?zD__law_pick, ?zD__law_mixed, ?zD__law_caught, ?zD__law_is_whole, ?zD__law_is_from, ?zD__law_prime, ?zD__law_no_prime, ?zD__law_is_poly, ?zD__law_dict, ?zD__law_poly_of, ?zD__law_added, ?zD__law_product, ?zD__law_plus, ?zD__law_times, ?zD__law_high, ?zD__law_poly, ?zD__law_some, ?zD__law_no_poly, ?zD__law_x_poly, ?zD__law_divided, ?zD_law, ?zX_BadPoly, ?zX_BadPrime, ?zI_BadPoly, ?zI_BadPrime, ?zfill⟩) KX G hmg ?za3 ?zlk ?zhcd ?zkp ?zcdv ?zhc ?zht ?zhk ?zmain
    case za3 => k_is
    case zlk => k_is
    case zhcd => k_is
    case zkp => k_is
    case zcdv => rfl
    case zht => exact PySem.W.km_tabs_of Y _ (List.mem_singleton.mpr rfl)
    case zhc => refine' PySem.W.codeHd_of_K KX ?_; kernel_rfl
    case zhk => kernel_rfl
    case zmain => exact K06.main
    case zB => (refine' ⟨?_, ?_, ?_, ?_, ?_, ?_, ?_, ?_, ?_, ?_, ?_, ?_, ?_, ?_, ?_, ?_, ?_, ?_, ?_, ?_, ?_⟩ <;> (refine' PySem.W.mg_none_of KX G ?_; k_is))
    case zC => (refine' ⟨?_⟩ <;> (refine' DL.const_mk KX G ?a ?e; (case a => k_is); (case e => exact ⟨_, rfl⟩)))
    case zD_is_between => (refine' DL.df_mk KX G ?a ?l ?c ?k (fun _ _ _ _ _ _ us hl => match us, hl with | [_, _, _], _ => rfl); (case a => k_is); (case l => k_is); (case c => k_is); (case k => k_is))
    case zD_need_prime => (refine' DL.df_mk KX G ?a ?l ?c ?k (fun _ _ _ _ _ _ us hl => match us, hl with | [_], _ => rfl); (case a => k_is); (case l => k_is); (case c => k_is); (case k => k_is))
    case zD_is_term => (refine' DL.df_mk KX G ?a ?l ?c ?k (fun _ _ _ _ _ _ us hl => match us, hl with | [_, _], _ => rfl); (case a => k_is); (case l => k_is); (case c => k_is); (case k => k_is))
    case zD_polys_right => (refine' DL.df_mk KX G ?a ?l ?c ?k (fun _ _ _ _ _ _ us hl => match us, hl with | [_, _], _ => rfl); (case a => k_is); (case l => k_is); (case c => k_is); (case k => k_is))
    case zD_need_poly => (refine' DL.df_mk KX G ?a ?l ?c ?k (fun _ _ _ _ _ _ us hl => match us, hl with | [_, _], _ => rfl); (case a => k_is); (case l => k_is); (case c => k_is); (case k => k_is))
    case zD_book_of => (refine' DL.df_mk KX G ?a ?l ?c ?k (fun _ _ _ _ _ _ us hl => match us, hl with | [_], _ => rfl); (case a => k_is); (case l => k_is); (case c => k_is); (case k => k_is))
    case zD_poly_of => (refine' DL.df_mk KX G ?a ?l ?c ?k (fun _ _ _ _ _ _ us hl => match us, hl with | [_], _ => rfl); (case a => k_is); (case l => k_is); (case c => k_is); (case k => k_is))
    case zD_added => (refine' DL.dfd_mk KX G ?a ?l ?t ?i ?c ?k (m := 3) rfl (fun _ _ _ _ _ _ _ us its hl hi => match us, its, hl, hi with | [_, _, _], [_], _, _ => ⟨_, rfl, rfl⟩) (fun _ _ _ _ _ _ _ us its hl hi => match us, its, hl, hi with | [_, _, _, _], [_], _, _ => ⟨_, rfl, rfl⟩); (case a => k_is); (case l => k_is); (case t => k_is); (case i => exact ⟨_, rfl⟩); (case c => k_is); (case k => k_is))
    case zD_highest => (refine' DL.df_mk KX G ?a ?l ?c ?k (fun _ _ _ _ _ _ us hl => match us, hl with | [_, _], _ => rfl); (case a => k_is); (case l => k_is); (case c => k_is); (case k => k_is))
    case zD_back_of => (refine' DL.df_mk KX G ?a ?l ?c ?k (fun _ _ _ _ _ _ us hl => match us, hl with | [_, _], _ => rfl); (case a => k_is); (case l => k_is); (case c => k_is); (case k => k_is))
    case zD_need_x_poly => (refine' DL.df_mk KX G ?a ?l ?c ?k (fun _ _ _ _ _ _ us hl => match us, hl with | [_, _], _ => rfl); (case a => k_is); (case l => k_is); (case c => k_is); (case k => k_is))
    case zD_moved_up => (refine' DL.df_mk KX G ?a ?l ?c ?k (fun _ _ _ _ _ _ us hl => match us, hl with | [_, _], _ => rfl); (case a => k_is); (case l => k_is); (case c => k_is); (case k => k_is))
    case zD_divide => (refine' DL.df_mk KX G ?a ?l ?c ?k (fun _ _ _ _ _ _ us hl => match us, hl with | [_, _, _], _ => rfl); (case a => k_is); (case l => k_is); (case c => k_is); (case k => k_is))
    case zD_divided => (refine' DL.df_mk KX G ?a ?l ?c ?k (fun _ _ _ _ _ _ us hl => match us, hl with | [_, _, _], _ => rfl); (case a => k_is); (case l => k_is); (case c => k_is); (case k => k_is))
    case zD__law_begun => (refine' DL.df_mk KX G ?a ?l ?c ?k (fun _ _ _ _ _ _ us hl => match us, hl with | [_], _ => rfl); (case a => k_is); (case l => k_is); (case c => k_is); (case k => k_is))
    case zD__law_draw => (refine' DL.df_mk KX G ?a ?l ?c ?k (fun _ _ _ _ _ _ us hl => match us, hl with | [_, _], _ => rfl); (case a => k_is); (case l => k_is); (case c => k_is); (case k => k_is))
    case zD__law_pick => (refine' DL.df_mk KX G ?a ?l ?c ?k (fun _ _ _ _ _ _ us hl => match us, hl with | [_, _], _ => rfl); (case a => k_is); (case l => k_is); (case c => k_is); (case k => k_is))
    case zD__law_mixed => (refine' DL.df_mk KX G ?a ?l ?c ?k (fun _ _ _ _ _ _ us hl => match us, hl with | [_, _], _ => rfl); (case a => k_is); (case l => k_is); (case c => k_is); (case k => k_is))
    case zD__law_caught => (refine' DL.df_mk KX G ?a ?l ?c ?k (fun _ _ _ _ _ _ us hl => match us, hl with | [_], _ => rfl); (case a => k_is); (case l => k_is); (case c => k_is); (case k => k_is))
    case zD__law_is_whole => (refine' DL.df_mk KX G ?a ?l ?c ?k (fun _ _ _ _ _ _ us hl => match us, hl with | [_], _ => rfl); (case a => k_is); (case l => k_is); (case c => k_is); (case k => k_is))
    case zD__law_is_from => (refine' DL.df_mk KX G ?a ?l ?c ?k (fun _ _ _ _ _ _ us hl => match us, hl with | [_, _, _], _ => rfl); (case a => k_is); (case l => k_is); (case c => k_is); (case k => k_is))
    case zD__law_prime => (refine' DL.df_mk KX G ?a ?l ?c ?k (fun _ _ _ _ _ _ us hl => match us, hl with | [_], _ => rfl); (case a => k_is); (case l => k_is); (case c => k_is); (case k => k_is))
    case zD__law_no_prime => (refine' DL.df_mk KX G ?a ?l ?c ?k (fun _ _ _ _ _ _ us hl => match us, hl with | [_], _ => rfl); (case a => k_is); (case l => k_is); (case c => k_is); (case k => k_is))
    case zD__law_is_poly => (refine' DL.df_mk KX G ?a ?l ?c ?k (fun _ _ _ _ _ _ us hl => match us, hl with | [_, _], _ => rfl); (case a => k_is); (case l => k_is); (case c => k_is); (case k => k_is))
    case zD__law_dict => (refine' DL.df_mk KX G ?a ?l ?c ?k (fun _ _ _ _ _ _ us hl => match us, hl with | [_], _ => rfl); (case a => k_is); (case l => k_is); (case c => k_is); (case k => k_is))
    case zD__law_poly_of => (refine' DL.df_mk KX G ?a ?l ?c ?k (fun _ _ _ _ _ _ us hl => match us, hl with | [_], _ => rfl); (case a => k_is); (case l => k_is); (case c => k_is); (case k => k_is))
    case zD__law_added => (refine' DL.df_mk KX G ?a ?l ?c ?k (fun _ _ _ _ _ _ us hl => match us, hl with | [_, _, _, _], _ => rfl); (case a => k_is); (case l => k_is); (case c => k_is); (case k => k_is))
    case zD__law_product => (refine' DL.df_mk KX G ?a ?l ?c ?k (fun _ _ _ _ _ _ us hl => match us, hl with | [_, _, _], _ => rfl); (case a => k_is); (case l => k_is); (case c => k_is); (case k => k_is))
    case zD__law_plus => (refine' DL.df_mk KX G ?a ?l ?c ?k (fun _ _ _ _ _ _ us hl => match us, hl with | [_, _, _], _ => rfl); (case a => k_is); (case l => k_is); (case c => k_is); (case k => k_is))
    case zD__law_times => (refine' DL.df_mk KX G ?a ?l ?c ?k (fun _ _ _ _ _ _ us hl => match us, hl with | [_, _, _], _ => rfl); (case a => k_is); (case l => k_is); (case c => k_is); (case k => k_is))
    case zD__law_high => (refine' DL.df_mk KX G ?a ?l ?c ?k (fun _ _ _ _ _ _ us hl => match us, hl with | [_, _], _ => rfl); (case a => k_is); (case l => k_is); (case c => k_is); (case k => k_is))
    case zD__law_poly => (refine' DL.df_mk KX G ?a ?l ?c ?k (fun _ _ _ _ _ _ us hl => match us, hl with | [_, _, _, _], _ => rfl); (case a => k_is); (case l => k_is); (case c => k_is); (case k => k_is))
    case zD__law_some => (refine' DL.df_mk KX G ?a ?l ?c ?k (fun _ _ _ _ _ _ us hl => match us, hl with | [_, _, _, _], _ => rfl); (case a => k_is); (case l => k_is); (case c => k_is); (case k => k_is))
    case zD__law_no_poly => (refine' DL.df_mk KX G ?a ?l ?c ?k (fun _ _ _ _ _ _ us hl => match us, hl with | [_, _], _ => rfl); (case a => k_is); (case l => k_is); (case c => k_is); (case k => k_is))
    case zD__law_x_poly => (refine' DL.df_mk KX G ?a ?l ?c ?k (fun _ _ _ _ _ _ us hl => match us, hl with | [_, _, _], _ => rfl); (case a => k_is); (case l => k_is); (case c => k_is); (case k => k_is))
    case zD__law_divided => (refine' DL.df_mk KX G ?a ?l ?c ?k (fun _ _ _ _ _ _ us hl => match us, hl with | [_, _, _], _ => rfl); (case a => k_is); (case l => k_is); (case c => k_is); (case k => k_is))
    case zD_law => (refine' DL.df_mk KX G ?a ?l ?c ?k (fun _ _ _ _ _ _ us hl => match us, hl with | [_], _ => rfl); (case a => k_is); (case l => k_is); (case c => k_is); (case k => k_is))
    case zX_BadPoly => (refine' DL.exc_mk PySem.F.excBase_ValueError KX G ?a ?b ?c ?d ?e; (case a => k_is); (case b => k_is); (case c => k_exc); (case d => k_is); (case e => k_is))
    case zX_BadPrime => (refine' DL.exc_mk PySem.F.excBase_ValueError KX G ?a ?b ?c ?d ?e; (case a => k_is); (case b => k_is); (case c => k_exc); (case d => k_is); (case e => k_is))
    case zI_BadPoly => (refine' DL.isc_mk (rs := K06.rl_BadPoly) KX G ?a ?n (DL.all_cons ?r0 (DL.all_cons ?r1 DL.all_nil)); (case a => k_is); (case n => kernel_rfl); (case r0 => (refine' DL.isc_one ?a ?b1 ?b2 ?b3 ?b4 ?b5 ?b6 ?b7 ?b8 ?c; (case a => k_is); (case b1 => k_is); (case b2 => k_is); (case b3 => k_is); (case b4 => k_is); (case b5 => k_is); (case b6 => k_is); (case b7 => k_is); (case b8 => k_is); (case c => kernel_rfl))); (case r1 => (refine' DL.isc_one ?a ?b1 ?b2 ?b3 ?b4 ?b5 ?b6 ?b7 ?b8 ?c; (case a => k_is); (case b1 => k_is); (case b2 => k_is); (case b3 => k_is); (case b4 => k_is); (case b5 => k_is); (case b6 => k_is); (case b7 => k_is); (case b8 => k_is); (case c => kernel_rfl))))
    case zI_BadPrime => (refine' DL.isc_mk (rs := K06.rl_BadPrime) KX G ?a ?n (DL.all_cons ?r0 (DL.all_cons ?r1 DL.all_nil)); (case a => k_is); (case n => kernel_rfl); (case r0 => (refine' DL.isc_one ?a ?b1 ?b2 ?b3 ?b4 ?b5 ?b6 ?b7 ?b8 ?c; (case a => k_is); (case b1 => k_is); (case b2 => k_is); (case b3 => k_is); (case b4 => k_is); (case b5 => k_is); (case b6 => k_is); (case b7 => k_is); (case b8 => k_is); (case c => kernel_rfl))); (case r1 => (refine' DL.isc_one ?a ?b1 ?b2 ?b3 ?b4 ?b5 ?b6 ?b7 ?b8 ?c; (case a => k_is); (case b1 => k_is); (case b2 => k_is); (case b3 => k_is); (case b4 => k_is); (case b5 => k_is); (case b6 => k_is); (case b7 => k_is); (case b8 => k_is); (case c => kernel_rfl))))
    case zfill => (refine' DL.fill_mk (ns := K06.excs) KX G ?a (DL.all_cons ?r0 (DL.all_cons ?r1 DL.all_nil)); (case a => k_is); (case r0 => (refine' DL.fill_one ?a ?b ?c ?d ?e; (case a => k_is); (case b => k_is); (case c => k_is); (case d => k_is); (case e => first | rfl | k_is))); (case r1 => (refine' DL.fill_one ?a ?b ?c ?d ?e; (case a => k_is); (case b => k_is); (case c => k_is); (case d => k_is); (case e => first | rfl | k_is))))
