import PyProof.Rows.All
import Wide.All
import OpenK.AllK
import Wide.FinOn
import HandS.ForMost
import HandS.ForExc
import HandS.Lambda
import HandS.TupAny
import HandS.TupLe
import HandS.TupMul
import HandS.TupLen
import HandS.Wide
import HandS.WideBits
import HandS.Deep
import HandS.IsInst
import HandS.Style
import HandS.Zip
import HandS.Rev
import HandS.Walk
import HandS.Small
import HandS.SortRule
import HandS.SortInts
import HandS.ExcValue
import HandS.ExcIs
import HandS.EndTab
import HandS.Ends
import PyProof.ReprRoads
import KE.KNest
import PySem.Challenge.RW_rowsfilled_k01_polys_judged
set_option Elab.async false
set_option linter.all false
set_option maxRecDepth 100000
set_option maxHeartbeats 4000000
/-! DL0: data as trees over the abstract heap: values D, their standing Rp, a frame's slots told as trees (Sim), readings over trees (lift..). -/
namespace DL
open PySem PySem.Spec PyProof.Rows L2

/-- a value as a tree; st: the law's own state; scr: the script; exc: an exception of the class of this name, with what it holds -/
inductive D where
  | non
  | bl (b : Bool)
  | int (i : Int)
  | str (x : Str)
  | tup (ds : List D)
  | lst (ds : List D)
  | dic (t : Bool) (ks vs : List D)
  | st
  | scr (ns : List Int)
  | exc (n : Str) (as : List D)

/-- what stays through a law's run -/
structure Wz where
  K : PySem.W.Frag
  mg : Str → Option Value
  sa : Addr
  sl : Addr
  sc : Addr
/-- .. and whether the law's state is at hand -/
structure Wd extends Wz where
  sf : Bool
  /-- the tables of code objects that are kept in sight -/
  tabs : List (Addr × Str)
def Wd.S (Z : Wd) (b : Addr) : Prop := Z.sf = true ∧ (b = Z.sa ∨ b = Z.sl)
/-- the state's own things -/
def Wd.T (Z : Wd) (b : Addr) : Prop := Z.sf = true ∧ (b = Z.sa ∨ b = Z.sl ∨ b = Z.sc)
theorem Wd.S.t {Z : Wd} {b : Addr} (h : Z.S b) : Z.T b := ⟨h.1, h.2.elim .inl fun z => .inr (.inl z)⟩

def kD : Key → D
  | .inl i => .int i
  | .inr x => .str x

/-- an exception object that is held as a value -/
def ExD (cls : Value) (dx : Option Addr) (a : Addr) : HO := .ext fun h => ∃ (oe : Obj) (vs : Array Value), h.get? a = some oe ∧ Zc cls dx oe ∧ oe.data = .fields vs

mutual
def Rp (Z : Wz) (H : Hp) : D → V → Prop
  | .non, v => v = .non
  | .bl b, v => v = .bl b
  | .int i, v => v = .int i
  | .str x, v => v = .str x
  | .tup ds, v => ∃ (a : Addr) (vs : List V), v = .ref a ∧ H a = some (.tup vs) ∧ RpL Z H ds vs
  | .lst ds, v => ∃ (a : Addr) (vs : List V), v = .ref a ∧ H a = some (.lst vs) ∧ RpL Z H ds vs
  | .scr ns, v => ∃ a : Addr, v = .ref a ∧ SqL Z.K H a (ns.map V.int)
  | .dic false ks ds, v => ∃ (a : Addr) (o : Obj) (kvs : List (Key × V)), v = .ref a ∧ H a = some (.frz o (.dK kvs)) ∧ ks = kvs.map (fun p => kD p.1) ∧ RpL Z H ds (kvs.map (fun p => p.2))
  | .dic true ks ds, v => ∃ (a : Addr) (o : Obj) (kvs : List (List Key × V)), v = .ref a ∧ H a = some (.frz o (.dT kvs)) ∧ ks = kvs.map (fun p => D.tup (p.1.map kD)) ∧ RpL Z H ds (kvs.map (fun p => p.2))
  | .st, v => v = .ref Z.sa
  | .exc n as, v => ∃ (a C : Addr) (dx : Option Addr) (vs : List V), v = .ref a ∧ Z.mg n = some (.ref C) ∧ H a = some (ExD (.ref C) dx a) ∧ RpL Z H as vs ∧
      ((dx = none ∧ vs = []) ∨ ∃ (x : Addr) (f : Str) (w : V), dx = some x ∧ vs = [w] ∧ H x = some (.xd [(f, w)]))
def RpL (Z : Wz) (H : Hp) : List D → List V → Prop
  | [], vs => vs = []
  | d :: ds, vs => ∃ (v : V) (r : List V), vs = v :: r ∧ Rp Z H d v ∧ RpL Z H ds r
end

section
variable {Z : Wz} {G H H' : Hp}
theorem sqT_mono {K : PySem.W.Frag} {a : Addr} {xs : List V} (e : Same G H) (h : SqT K G a xs) : SqT K H a xs := by
  rcases h with (h | ⟨o, h⟩) | h
  · exact .inl (.inl (e _ _ h))
  · exact .inl (.inr ⟨o, e _ _ h⟩)
  · exact .inr h
mutual
theorem Rp.mono (e : Same G H) : ∀ (d : D) (v : V), Rp Z G d v → Rp Z H d v
  | .non, _, h => by unfold Rp at h ⊢; exact h
  | .bl _, _, h => by unfold Rp at h ⊢; exact h
  | .int _, _, h => by unfold Rp at h ⊢; exact h
  | .str _, _, h => by unfold Rp at h ⊢; exact h
  | .st, _, h => by unfold Rp at h ⊢; exact h
  | .tup ds, _, h => by
    unfold Rp at h ⊢
    obtain ⟨a, vs, rfl, h1, h2⟩ := h
    exact ⟨a, vs, rfl, e _ _ h1, RpL.mono e ds vs h2⟩
  | .lst ds, _, h => by
    unfold Rp at h ⊢
    obtain ⟨a, vs, rfl, h1, h2⟩ := h
    exact ⟨a, vs, rfl, e _ _ h1, RpL.mono e ds vs h2⟩
  | .scr ns, _, h => by
    unfold Rp at h ⊢
    obtain ⟨a, rfl, h1⟩ := h
    exact ⟨a, rfl, e.seq h1⟩
  | .dic false ks ds, _, h => by
    unfold Rp at h ⊢
    obtain ⟨a, o, kvs, rfl, h1, h2, h3⟩ := h
    exact ⟨a, o, kvs, rfl, e _ _ h1, h2, RpL.mono e ds _ h3⟩
  | .dic true ks ds, _, h => by
    unfold Rp at h ⊢
    obtain ⟨a, o, kvs, rfl, h1, h2, h3⟩ := h
    exact ⟨a, o, kvs, rfl, e _ _ h1, h2, RpL.mono e ds _ h3⟩
  | .exc n as, _, h => by
    unfold Rp at h ⊢
    obtain ⟨a, C, dx, vs, rfl, h1, h2, h3, h4⟩ := h
    refine ⟨a, C, dx, vs, rfl, h1, e _ _ h2, RpL.mono e as vs h3, ?_⟩
    rcases h4 with h4 | ⟨x, f, w, e1, e2, e3⟩
    · exact .inl h4
    · exact .inr ⟨x, f, w, e1, e2, e _ _ e3⟩
theorem RpL.mono (e : Same G H) : ∀ (ds : List D) (vs : List V), RpL Z G ds vs → RpL Z H ds vs
  | [], _, h => by unfold RpL at h ⊢; exact h
  | d :: ds, _, h => by
    unfold RpL at h ⊢
    obtain ⟨v, r, rfl, h1, h2⟩ := h
    exact ⟨v, r, rfl, Rp.mono e d v h1, RpL.mono e ds r h2⟩
end
theorem rp_non {v : V} : Rp Z H .non v ↔ v = .non := by unfold Rp; exact Iff.rfl
theorem rp_bl {b : Bool} {v : V} : Rp Z H (.bl b) v ↔ v = .bl b := by unfold Rp; exact Iff.rfl
theorem rp_int {i : Int} {v : V} : Rp Z H (.int i) v ↔ v = .int i := by unfold Rp; exact Iff.rfl
theorem rp_str {x : Str} {v : V} : Rp Z H (.str x) v ↔ v = .str x := by unfold Rp; exact Iff.rfl
theorem rp_st {v : V} : Rp Z H .st v ↔ v = .ref Z.sa := by unfold Rp; exact Iff.rfl
theorem rp_tup {ds : List D} {v : V} : Rp Z H (.tup ds) v ↔ ∃ (a : Addr) (vs : List V), v = .ref a ∧ H a = some (.tup vs) ∧ RpL Z H ds vs := by rw [Rp]
theorem rp_lst {ds : List D} {v : V} : Rp Z H (.lst ds) v ↔ ∃ (a : Addr) (vs : List V), v = .ref a ∧ H a = some (.lst vs) ∧ RpL Z H ds vs := by rw [Rp]
theorem rp_scr {ns : List Int} {v : V} : Rp Z H (.scr ns) v ↔ ∃ a : Addr, v = .ref a ∧ SqL Z.K H a (ns.map V.int) := by rw [Rp]
theorem rp_dicK {ks ds : List D} {v : V} : Rp Z H (.dic false ks ds) v ↔ ∃ (a : Addr) (o : Obj) (kvs : List (Key × V)), v = .ref a ∧ H a = some (.frz o (.dK kvs)) ∧ ks = kvs.map (fun p => kD p.1) ∧ RpL Z H ds (kvs.map (fun p => p.2)) := by rw [Rp]
theorem rp_dicT {ks ds : List D} {v : V} : Rp Z H (.dic true ks ds) v ↔ ∃ (a : Addr) (o : Obj) (kvs : List (List Key × V)), v = .ref a ∧ H a = some (.frz o (.dT kvs)) ∧ ks = kvs.map (fun p => D.tup (p.1.map kD)) ∧ RpL Z H ds (kvs.map (fun p => p.2)) := by rw [Rp]
theorem rp_exc {n : Str} {as : List D} {v : V} : Rp Z H (.exc n as) v ↔ ∃ (a C : Addr) (dx : Option Addr) (vs : List V), v = .ref a ∧ Z.mg n = some (.ref C) ∧ H a = some (ExD (.ref C) dx a) ∧ RpL Z H as vs ∧
      ((dx = none ∧ vs = []) ∨ ∃ (x : Addr) (f : Str) (w : V), dx = some x ∧ vs = [w] ∧ H x = some (.xd [(f, w)])) := by rw [Rp]
theorem rpL_nil {vs : List V} : RpL Z H [] vs ↔ vs = [] := by unfold RpL; exact Iff.rfl
theorem rpL_cons {d : D} {ds : List D} {vs : List V} : RpL Z H (d :: ds) vs ↔ ∃ (v : V) (r : List V), vs = v :: r ∧ Rp Z H d v ∧ RpL Z H ds r := by rw [RpL]
theorem RpL.cons {d : D} {ds : List D} {v : V} {vs : List V} (h : Rp Z H d v) (t : RpL Z H ds vs) : RpL Z H (d :: ds) (v :: vs) := rpL_cons.mpr ⟨v, vs, rfl, h, t⟩
theorem RpL.nil : RpL Z H [] [] := rpL_nil.mpr rfl
theorem RpL.length : ∀ {ds : List D} {vs : List V}, RpL Z H ds vs → ds.length = vs.length
  | [], _, h => by rw [rpL_nil] at h; subst h; rfl
  | d :: ds, _, h => by
    obtain ⟨v, r, rfl, _, h2⟩ := rpL_cons.mp h
    rw [List.length_cons, List.length_cons, RpL.length h2]
theorem RpL.get : ∀ {ds : List D} {vs : List V} {i : Nat} {d : D}, RpL Z H ds vs → ds[i]? = some d → ∃ v, vs[i]? = some v ∧ Rp Z H d v
  | [], _, _, _, _, e => by simp at e
  | d :: ds, _, 0, _, h, e => by
    obtain ⟨v, r, rfl, h1, _⟩ := rpL_cons.mp h
    simp at e; subst e
    exact ⟨v, rfl, h1⟩
  | d :: ds, _, i + 1, _, h, e => by
    obtain ⟨v, r, rfl, _, h2⟩ := rpL_cons.mp h
    obtain ⟨w, e1, e2⟩ := RpL.get (i := i) h2 (by simpa using e)
    exact ⟨w, by simpa using e1, e2⟩
theorem RpL.get' {ds : List D} {vs : List V} {i : Nat} {v : V} (h : RpL Z H ds vs) (e : vs[i]? = some v) : ∃ d, ds[i]? = some d ∧ Rp Z H d v := by
  have hl : i < ds.length := by rw [h.length]; exact (List.getElem?_eq_some_iff.mp e).1
  obtain ⟨w, e1, e2⟩ := h.get (List.getElem?_eq_getElem hl)
  rw [e] at e1; cases e1
  exact ⟨_, List.getElem?_eq_getElem hl, e2⟩
theorem RpL.append : ∀ {ds es : List D} {vs ws : List V}, RpL Z H ds vs → RpL Z H es ws → RpL Z H (ds ++ es) (vs ++ ws)
  | [], _, _, _, h, k => by rw [rpL_nil] at h; subst h; exact k
  | d :: ds, _, _, _, h, k => by
    obtain ⟨v, r, rfl, h1, h2⟩ := rpL_cons.mp h
    exact RpL.cons h1 (RpL.append h2 k)
theorem RpL.take : ∀ (n : Nat) {ds : List D} {vs : List V}, RpL Z H ds vs → RpL Z H (ds.take n) (vs.take n)
  | 0, _, _, _ => RpL.nil
  | n + 1, [], _, h => by rw [rpL_nil] at h; subst h; exact RpL.nil
  | n + 1, d :: ds, _, h => by
    obtain ⟨v, r, rfl, h1, h2⟩ := rpL_cons.mp h
    exact RpL.cons h1 (RpL.take n h2)
theorem RpL.drop : ∀ (n : Nat) {ds : List D} {vs : List V}, RpL Z H ds vs → RpL Z H (ds.drop n) (vs.drop n)
  | 0, _, _, h => h
  | n + 1, [], _, h => by rw [rpL_nil] at h; subst h; exact RpL.nil
  | n + 1, d :: ds, _, h => by
    obtain ⟨v, r, rfl, h1, h2⟩ := rpL_cons.mp h
    exact RpL.drop n h2
theorem RpL.reverse : ∀ {ds : List D} {vs : List V}, RpL Z H ds vs → RpL Z H ds.reverse vs.reverse
  | [], _, h => by rw [rpL_nil] at h; subst h; exact RpL.nil
  | d :: ds, _, h => by
    obtain ⟨v, r, rfl, h1, h2⟩ := rpL_cons.mp h
    rw [List.reverse_cons, List.reverse_cons]
    exact RpL.append (RpL.reverse h2) (RpL.cons h1 RpL.nil)
theorem RpL.set : ∀ (i : Nat) {ds : List D} {vs : List V} {d : D} {v : V}, RpL Z H ds vs → Rp Z H d v → RpL Z H (ds.set i d) (vs.set i v)
  | _, [], _, _, _, h, _ => by rw [rpL_nil] at h; subst h; exact RpL.nil
  | 0, d :: ds, _, _, _, h, k => by
    obtain ⟨v, r, rfl, h1, h2⟩ := rpL_cons.mp h
    exact RpL.cons k h2
  | i + 1, d :: ds, _, _, _, h, k => by
    obtain ⟨v, r, rfl, h1, h2⟩ := rpL_cons.mp h
    exact RpL.cons h1 (RpL.set i h2 k)
theorem RpL.erase : ∀ (i : Nat) {ds : List D} {vs : List V}, RpL Z H ds vs → RpL Z H (ds.eraseIdx i) (vs.eraseIdx i)
  | _, [], _, h => by rw [rpL_nil] at h; subst h; exact RpL.nil
  | 0, d :: ds, _, h => by
    obtain ⟨v, r, rfl, h1, h2⟩ := rpL_cons.mp h
    exact h2
  | i + 1, d :: ds, _, h => by
    obtain ⟨v, r, rfl, h1, h2⟩ := rpL_cons.mp h
    exact RpL.cons h1 (RpL.erase i h2)
end

/-! ### slots -/
inductive Slot where
  | un
  | val (d : D)
  | own (d : D)
abbrev EnvD := List Slot

/-- a list or a dict at a that its slot alone holds; its items stand in the part Hf that never changes -/
def OwnRp (Z : Wz) (Hf H : Hp) (a : Addr) : D → Prop
  | .lst ds => ∃ vs, H a = some (.lst vs) ∧ RpL Z Hf ds vs
  | .dic false ks ds => ∃ kvs : List (Key × V), H a = some (.dK kvs) ∧ ks = kvs.map (fun p => kD p.1) ∧ RpL Z Hf ds (kvs.map (fun p => p.2))
  | .dic true ks ds => ∃ kvs : List (List Key × V), H a = some (.dT kvs) ∧ ks = kvs.map (fun p => D.tup (p.1.map kD)) ∧ RpL Z Hf ds (kvs.map (fun p => p.2))
  | _ => False

/-- the law's state: a dict of four entries, its list of large numbers, its list of cells -/
def StAt (Z : Wz) (H : Hp) (c : Nat) : Prop := ∃ (l t : Int) (ls cs : List Int), H Z.sa = some (.dK [(.inr "large", .ref Z.sl), (.inr "cells", .ref Z.sc), (.inr "left", .int l), (.inr "turn", .int t)]) ∧
  H Z.sl = some (.lst (ls.map V.int)) ∧ H Z.sc = some (.lst (cs.map V.int)) ∧ 0 ≤ l ∧ 0 ≤ t ∧ t ≤ (c : Int) ∧ (∀ z ∈ ls, 0 ≤ z) ∧ (∀ z ∈ cs, 0 ≤ z) ∧ cs.length ≤ 63 ∧ Z.sa ≠ Z.sl ∧ Z.sa ≠ Z.sc ∧ Z.sl ≠ Z.sc
def StOk (Z : Wd) (H : Hp) (c : Nat) : Prop := Z.sf = true → StAt Z.toWz H c

/-- new, or a tuple that stood already -/
def NewB (o : Option HO) : Prop := o = none ∨ ∃ xs, o = some (.tup xs)
/-- the frame's slots σ and the heap H, told as trees: Hf the part that never changes -/
structure Sim (Z : Wd) (H0 G0 : Hp) (σ : L2.St) (H Hf : Hp) (env : EnvD) (c : Nat) : Prop where
  sub : Same Hf H
  g0 : Same G0 Hf
  new : ∀ b, Hf b ≠ none → G0 b = none → NewB (H0 b)
  keep : ∀ b o, H0 b = some o → ¬ Z.S b → H b = some o
  len : env.length = σ.length
  val : ∀ (i : Nat) (d : D), env[i]? = some (Slot.val d) → ∃ v, σ[i]? = some (some v) ∧ Rp Z.toWz Hf d v
  own : ∀ (i : Nat) (d : D), env[i]? = some (Slot.own d) → ∃ a, σ[i]? = some (some (.ref a)) ∧ Hf a = none ∧ H0 a = none ∧ ¬ Z.T a ∧ OwnRp Z.toWz Hf H a d
  inj : ∀ (i j : Nat) (d e : D) (a : Addr), env[i]? = some (Slot.own d) → env[j]? = some (Slot.own e) → σ[i]? = some (some (.ref a)) → σ[j]? = some (some (.ref a)) → i = j
  st : StOk Z H c
  stf : ∀ b, Z.S b → Hf b = none
  tab : LamX.Tabs Z.tabs H
  ntb : ∀ b ps, Hf b = some (.tbl ps) → G0 b = some (.tbl ps)
/-- a table, a code object -/
def IsTab (o : HO) : Prop := (∃ ps, o = .tbl ps) ∨ ∃ c q, o = LamX.CodeO c q
theorem tabs_keep {T : List (Addr × Str)} {H H' : Hp} (k : ∀ b o, H b = some o → IsTab o → H' b = some o) (t : LamX.Tabs T H) : LamX.Tabs T H' := fun p hp => by
  obtain ⟨ps, h1, h2, h3⟩ := t p hp
  refine ⟨ps, k _ _ h1 (.inl ⟨_, rfl⟩), h2, fun pos cv hc => ?_⟩
  obtain ⟨c, e1, e2⟩ := h3 pos cv hc
  exact ⟨c, e1, k _ _ e2 (.inr ⟨_, _, rfl⟩)⟩
theorem ntab_lst {vs : List V} : ¬ IsTab (.lst vs) := fun h => by rcases h with ⟨ps, h⟩ | ⟨c, q, h⟩ <;> cases h
theorem ntab_dK {kvs : List (Key × V)} : ¬ IsTab (.dK kvs) := fun h => by rcases h with ⟨ps, h⟩ | ⟨c, q, h⟩ <;> cases h
theorem ntab_dT {kvs : List (List Key × V)} : ¬ IsTab (.dT kvs) := fun h => by rcases h with ⟨ps, h⟩ | ⟨c, q, h⟩ <;> cases h
/-- what a slot alone holds is no table -/
theorem OwnRp.ntab {Z : Wz} {Hf H : Hp} {a : Addr} {o : HO} (e : H a = some o) : ∀ {d : D}, OwnRp Z Hf H a d → ¬ IsTab o
  | .lst _, ⟨_, h, _⟩ => by rw [e] at h; cases h; exact ntab_lst
  | .dic false _ _, ⟨_, h, _⟩ => by rw [e] at h; cases h; exact ntab_dK
  | .dic true _ _, ⟨_, h, _⟩ => by rw [e] at h; cases h; exact ntab_dT

/-- what stands but for the state's own things -/
def Keep (Z : Wd) (H H' : Hp) : Prop := ∀ b o, H b = some o → ¬ Z.S b → (Z.tabs ≠ [] ∧ ∃ ps, o = .tbl ps) ∨ ∃ o', H' b = some o' ∧ ((∃ ps, o' = .tbl ps) → ∃ ps, o = .tbl ps)
theorem Keep.refl {Z : Wd} {H : Hp} : Keep Z H H := fun _ o h _ => .inr ⟨o, h, id⟩
theorem Keep.trans {Z : Wd} {H H1 H2 : Hp} (a : Keep Z H H1) (b : Keep Z H1 H2) : Keep Z H H2 := fun c o h n => by
  rcases a c o h n with z | ⟨o1, h1, t1⟩
  · exact .inl z
  · rcases b c o1 h1 n with ⟨z, t⟩ | ⟨o2, h2, t2⟩
    · exact .inl ⟨z, t1 t⟩
    · exact .inr ⟨o2, h2, fun t => t1 (t2 t)⟩
theorem Keep.of {Z : Wd} {H H' : Hp} (e : Same H H') : Keep Z H H' := fun b o h _ => .inr ⟨o, e b o h, id⟩
/-- .. exactly -/
def KeepX (Z : Wd) (H H' : Hp) : Prop := ∀ b o, H b = some o → ¬ Z.S b → H' b = some o
theorem KeepX.refl {Z : Wd} {H : Hp} : KeepX Z H H := fun _ _ h _ => h
theorem KeepX.trans {Z : Wd} {H H1 H2 : Hp} (a : KeepX Z H H1) (b : KeepX Z H1 H2) : KeepX Z H H2 := fun c o h n => b c o (a c o h n) n
theorem KeepX.of {Z : Wd} {H H' : Hp} (e : Same H H') : KeepX Z H H' := fun b o h _ => e b o h
theorem Keep.upd {Z : Wd} {H H1 H2 : Hp} {p : Addr} (k : Keep Z H H1) (hp : H1 p = none) (k2 : Keep Z H1 H2) (o : HO) : Keep Z H (upd H2 p o) := fun b u e n => by
  rcases k b u e n with h | ⟨u1, h1, t1⟩
  · exact .inl h
  · rcases k2 b u1 h1 n with ⟨z, t⟩ | ⟨u2, h2, t2⟩
    · exact .inl ⟨z, t1 t⟩
    · exact .inr ⟨u2, by rw [upd_ne (ne_of_none h1 hp)]; exact h2, fun t => t1 (t2 t)⟩

/-- a value that is read and not kept: it stands, or a slot alone holds it -/
def BRp (Z : Wz) (Hf : Hp) (σ : L2.St) (env : EnvD) (d : D) (v : V) : Prop := Rp Z Hf d v ∨ ∃ i : Nat, env[i]? = some (Slot.own d) ∧ σ[i]? = some (some v)
/-- .. as it stands -/
def VRp (Z : Wz) (Hf H : Hp) (d : D) (v : V) : Prop := Rp Z Hf d v ∨ ∃ a, v = .ref a ∧ OwnRp Z Hf H a d
theorem BRp.mono {Z : Wz} {Hf Hf' : Hp} {σ : L2.St} {env : EnvD} {d : D} {v : V} (e : Same Hf Hf') (h : BRp Z Hf σ env d v) : BRp Z Hf' σ env d v := h.elim (fun h => .inl (Rp.mono e _ _ h)) .inr
theorem BRp.at {Z : Wd} {H0 G0 H Hf : Hp} {σ : L2.St} {env : EnvD} {c : Nat} {d : D} {v : V} (S : Sim Z H0 G0 σ H Hf env c) (h : BRp Z.toWz Hf σ env d v) : VRp Z.toWz Hf H d v := by
  rcases h with h | ⟨i, h1, h2⟩
  · exact .inl h
  · obtain ⟨a, e, _, _, _, o⟩ := S.own i d h1
    rw [h2] at e
    cases e
    exact .inr ⟨a, rfl, o⟩
theorem OwnRp.mono {Z : Wd} {Hf Hf' H H' : Hp} {a : Addr} (e : Same Hf Hf') (k : KeepX Z H H') (nt : ¬ Z.T a) : ∀ {d : D}, OwnRp Z.toWz Hf H a d → OwnRp Z.toWz Hf' H' a d
  | .lst ds, ⟨vs, h1, h2⟩ => ⟨vs, k _ _ h1 (fun z => nt z.t), RpL.mono e _ _ h2⟩
  | .dic false ks ds, ⟨kvs, h1, h2, h3⟩ => ⟨kvs, k _ _ h1 (fun z => nt z.t), h2, RpL.mono e _ _ h3⟩
  | .dic true ks ds, ⟨kvs, h1, h2, h3⟩ => ⟨kvs, k _ _ h1 (fun z => nt z.t), h2, RpL.mono e _ _ h3⟩

/-! ### readings over trees -/
abbrev WD := D → Nat → Prop
abbrev TED := EnvD → Nat → WD → (D → Nat → Prop) → Prop
abbrev TTD := EnvD → Nat → WD → (Bool → Nat → Prop) → Prop
abbrev TAD := EnvD → Nat → WD → (List D → Nat → Prop) → Prop

/-- a frame of ours: what stays, the heap and its standing part at the entry, what the context takes of exceptions -/
structure Fd where
  Z : Wd
  H0 : Hp
  G0 : Hp
  W : WX
/-- an exception that leaves -/
def IsX (Z : Wz) (Hf : Hp) (cls : Value) (dx : Option Addr) (d : D) : Prop := ∃ (n : Str) (C : Addr) (as : List D) (vs : List V), d = .exc n as ∧ Z.mg n = some (.ref C) ∧ cls = .ref C ∧ RpL Z Hf as vs ∧
  ((dx = none ∧ vs = []) ∨ ∃ (x : Addr) (f : Str) (w : V), dx = some x ∧ vs = [w] ∧ Hf x = some (.xd [(f, w)]))
def XL (F : Fd) (σ : L2.St) (env : EnvD) (Wd : WD) : Prop := ∀ (cls : Value) (dx : Option Addr) (H' Hf' : Hp) (c' : Nat) (d : D), Sim F.Z F.H0 F.G0 σ H' Hf' env c' → IsX F.Z.toWz Hf' cls dx d → Wd d c' → F.W cls dx σ H'

def liftE (F : Fd) (t : TED) : TE := fun σ H Q => ∃ (Hf : Hp) (env : EnvD) (c : Nat) (Wd : WD) (Qd : D → Nat → Prop), Sim F.Z F.H0 F.G0 σ H Hf env c ∧ XL F σ env Wd ∧ t env c Wd Qd ∧
  ∀ (v : V) (H' Hf' : Hp) (c' : Nat) (d : D), Sim F.Z F.H0 F.G0 σ H' Hf' env c' → Same Hf Hf' → Keep F.Z H H' → Rp F.Z.toWz Hf' d v → Qd d c' → Q v H'
def liftB (F : Fd) (t : TED) : TE := fun σ H Q => ∃ (Hf : Hp) (env : EnvD) (c : Nat) (Wd : WD) (Qd : D → Nat → Prop), Sim F.Z F.H0 F.G0 σ H Hf env c ∧ XL F σ env Wd ∧ t env c Wd Qd ∧
  ∀ (v : V) (H' Hf' : Hp) (c' : Nat) (d : D), Sim F.Z F.H0 F.G0 σ H' Hf' env c' → Same Hf Hf' → Keep F.Z H H' → BRp F.Z.toWz Hf' σ env d v → Qd d c' → Q v H'
def liftT (F : Fd) (t : TTD) : TT := fun σ H Q => ∃ (Hf : Hp) (env : EnvD) (c : Nat) (Wd : WD) (Qd : Bool → Nat → Prop), Sim F.Z F.H0 F.G0 σ H Hf env c ∧ XL F σ env Wd ∧ t env c Wd Qd ∧
  ∀ (b : Bool) (H' Hf' : Hp) (c' : Nat), Sim F.Z F.H0 F.G0 σ H' Hf' env c' → Same Hf Hf' → Keep F.Z H H' → Qd b c' → Q b H'
def liftA (F : Fd) (t : TAD) : TA := fun σ H Q => ∃ (Hf : Hp) (env : EnvD) (c : Nat) (Wd : WD) (Qd : List D → Nat → Prop), Sim F.Z F.H0 F.G0 σ H Hf env c ∧ XL F σ env Wd ∧ t env c Wd Qd ∧
  ∀ (vs : List V) (H' Hf' : Hp) (c' : Nat) (ds : List D), Sim F.Z F.H0 F.G0 σ H' Hf' env c' → Same Hf Hf' → Keep F.Z H H' → RpL F.Z.toWz Hf' ds vs → Qd ds c' → Q vs H'

/-- an expression is read as t: its value is kept (DE), or read and dropped (DB); a test; arguments -/
abbrev DE (X : Cx) (F : Fd) (e : Expr) (t : TED) : Prop := PE X e (liftE F t)
abbrev DB (X : Cx) (F : Fd) (e : Expr) (t : TED) : Prop := PE X e (liftB F t)
abbrev DT (X : Cx) (F : Fd) (e : Expr) (t : TTD) : Prop := PT X e (liftT F t)
abbrev DA (X : Cx) (F : Fd) (es : List Expr) (t : TAD) : Prop := PA X es (liftA F t)

theorem PE.imp {X : Cx} {e : Expr} {t t' : TE} (h : PE X e t) (i : ∀ σ H Q, t' σ H Q → t σ H Q) : PE X e t' := ⟨fun pins s σ H Q I q => h.run pins s σ H Q I (i σ H Q q)⟩
theorem PT.imp {X : Cx} {e : Expr} {t t' : TT} (h : PT X e t) (i : ∀ σ H Q, t' σ H Q → t σ H Q) : PT X e t' := ⟨fun pins s σ H Q I q => h.run pins s σ H Q I (i σ H Q q)⟩
theorem PA.imp {X : Cx} {e : List Expr} {t t' : TA} (h : PA X e t) (i : ∀ σ H Q, t' σ H Q → t σ H Q) : PA X e t' := ⟨fun pos pins s σ H Q I q => h.run pos pins s σ H Q I (i σ H Q q)⟩
theorem PS.imp {X : Cx} {e : Stmt} {t t' : TS} (h : PS X e t) (i : ∀ D σ H, t' D σ H → t D σ H) : PS X e t' := ⟨fun pins s σ H D I q => h.run pins s σ H D I (i D σ H q)⟩
end DL
set_option Elab.async false
set_option linter.all false
set_option maxRecDepth 100000
set_option maxHeartbeats 4000000
/-! DL1: expressions. -/
namespace DL
open PySem PySem.Spec PyProof.Rows L2

/-- heap and standing part have grown -/
structure Grow (Hf H Hf' H' : Hp) : Prop where
  hf : Same Hf Hf'
  h : Same H H'
  sub : Same Hf' H'
  new : ∀ b, Hf' b ≠ none → Hf b = none → NewB (H b)
  ntb : ∀ b ps, Hf' b = some (.tbl ps) → Hf b = some (.tbl ps)
theorem NewB.back {G H : Hp} {b : Addr} (s : Same G H) (h : NewB (H b)) : NewB (G b) := by
  cases q : G b with
  | none => exact .inl rfl
  | some o =>
    have z := s b o q
    rcases h with h | ⟨xs, h⟩
    · rw [z] at h; cases h
    · rw [z] at h; cases h; exact .inr ⟨xs, rfl⟩
theorem Grow.refl {Hf H : Hp} (s : Same Hf H) : Grow Hf H Hf H := ⟨Same.refl _, Same.refl _, s, fun b h1 h2 => absurd h2 h1, fun _ _ h => h⟩
theorem Grow.trans {Hf H Hf1 H1 Hf2 H2 : Hp} (a : Grow Hf H Hf1 H1) (b : Grow Hf1 H1 Hf2 H2) : Grow Hf H Hf2 H2 :=
  ⟨a.hf.trans b.hf, a.h.trans b.h, b.sub, fun c h1 h2 => by
    by_cases e : Hf1 c = none
    · exact NewB.back a.h (b.new c h1 e)
    · exact a.new c e h2, fun c ps h => a.ntb c ps (b.ntb c ps h)⟩
theorem same_upd {H : Hp} {p : Addr} {o : HO} (h : H p = none) : Same H (upd H p o) := fun b u e => by rw [upd_ne (ne_of_none e h)]; exact e
theorem Grow.one {Hf H : Hp} {p : Addr} {o : HO} (s : Same Hf H) (h : H p = none) (no : ∀ ps, o ≠ .tbl ps) : Grow Hf H (upd Hf p o) (upd H p o) :=
  ⟨same_upd (s.free h), same_upd h, fun b u e => by
    by_cases hb : b = p
    · subst hb; rw [upd_same] at e ⊢; exact e
    · rw [upd_ne hb] at e ⊢; exact s _ _ e, fun b h1 h2 => by
    by_cases hb : b = p
    · subst hb; exact .inl h
    · rw [upd_ne hb] at h1; exact absurd h2 h1, fun b ps e => by
    by_cases hb : b = p
    · subst hb; rw [upd_same] at e; cases e; exact absurd rfl (no ps)
    · rw [upd_ne hb] at e; exact e⟩

section
variable {Z : Wd} {H0 G0 : Hp} {σ : L2.St} {H Hf H' Hf' : Hp} {env : EnvD} {c : Nat}
theorem StAt.keep {Z : Wz} (k : ∀ b, (b = Z.sa ∨ b = Z.sl ∨ b = Z.sc) → ∀ o, H b = some o → H' b = some o) (h : StAt Z H c) : StAt Z H' c := by
  obtain ⟨l, t, ls, cs, h1, h2, h3, r⟩ := h
  exact ⟨l, t, ls, cs, k _ (.inl rfl) _ h1, k _ (.inr (.inl rfl)) _ h2, k _ (.inr (.inr rfl)) _ h3, r⟩
theorem Sim.grow (S : Sim Z H0 G0 σ H Hf env c) (g : Grow Hf H Hf' H') : Sim Z H0 G0 σ H' Hf' env c where
  sub := g.sub
  g0 := S.g0.trans g.hf
  new := fun b h1 h2 => by
    by_cases e : Hf b = none
    · have hb := g.new b h1 e
      cases q : H0 b with
      | none => exact .inl rfl
      | some o =>
        by_cases s : Z.S b
        · exfalso
          obtain ⟨hs, z⟩ := s
          obtain ⟨_, _, _, _, a1, a2, _⟩ := S.st hs
          rcases z with z | z
          · rw [z, a1] at hb; rcases hb with hb | ⟨xs, hb⟩ <;> cases hb
          · rw [z, a2] at hb; rcases hb with hb | ⟨xs, hb⟩ <;> cases hb
        · rw [S.keep b o q s] at hb
          rcases hb with hb | ⟨xs, hb⟩
          · cases hb
          · cases hb; exact .inr ⟨xs, rfl⟩
    · exact S.new b e h2
  keep := fun b o h n => g.h b o (S.keep b o h n)
  len := S.len
  val := fun i d h => let ⟨v, h1, h2⟩ := S.val i d h; ⟨v, h1, Rp.mono g.hf _ _ h2⟩
  own := fun i d h => by
    obtain ⟨a, h1, h2, h3, h4, h5⟩ := S.own i d h
    refine ⟨a, h1, ?_, h3, h4, OwnRp.mono g.hf (KeepX.of g.h) h4 h5⟩
    cases q : Hf' a with
    | none => rfl
    | some o =>
      have z := g.new a (by rw [q]; exact fun z => by cases z) h2
      cases d with
      | lst ds => obtain ⟨vs, e, _⟩ := h5; rw [e] at z; rcases z with z | ⟨xs, z⟩ <;> cases z
      | dic t ks ds => cases t <;> (obtain ⟨kvs, e, _⟩ := h5; rw [e] at z; rcases z with z | ⟨xs, z⟩ <;> cases z)
      | _ => exact h5.elim
  inj := S.inj
  st := fun hs => (S.st hs).keep fun b _ o e => g.h b o e
  stf := fun b s => by
    cases q : Hf' b with
    | none => rfl
    | some o =>
      exfalso
      have z := g.new b (by rw [q]; exact fun z => by cases z) (S.stf b s)
      obtain ⟨hs, y⟩ := s
      obtain ⟨_, _, _, _, a1, a2, _⟩ := S.st hs
      rcases y with y | y
      · rw [y, a1] at z; rcases z with z | ⟨xs, z⟩ <;> cases z
      · rw [y, a2] at z; rcases z with z | ⟨xs, z⟩ <;> cases z
  tab := S.tab.ext g.h
  ntb := fun b ps h => S.ntb b ps (g.ntb b ps h)
end

/-! ### from a kept value to a read one; names and constants -/
section
variable {X : Cx} {F : Fd} {e a b : Expr} {pos : Pos}
theorem DB.of {t : TED} (h : DE X F e t) : DB X F e t := PE.imp h fun σ H Q ⟨Hf, env, c, Wd, Qd, S, x, ht, k⟩ =>
  ⟨Hf, env, c, Wd, Qd, S, x, ht, fun v H' Hf' c' d S' s1 s2 r q => k v H' Hf' c' d S' s1 s2 (.inl r) q⟩

@[simp] def tVarD (i : Nat) : TED := fun env c _ Q => match env[i]? with
  | some (.val d) => Q d c
  | _ => False
@[simp] def tVarB (i : Nat) : TED := fun env c _ Q => match env[i]? with
  | some (.val d) => Q d c
  | some (.own d) => Q d c
  | _ => False
theorem de_pv (i : Nat) {x : Str} (h : PE X (.Name x pos) (tVar i)) : DE X F (.Name x pos) (tVarD i) := PE.imp h fun σ H Q ⟨Hf, env, c, Wd, Qd, S, _, ht, k⟩ => by
  unfold tVarD at ht
  split at ht
  · rename_i d e
    obtain ⟨v, h1, h2⟩ := S.val i d e
    exact ⟨v, h1, k v H Hf c d S (Same.refl _) Keep.refl h2 ht⟩
  · exact ht.elim
theorem db_pv (i : Nat) {x : Str} (h : PE X (.Name x pos) (tVar i)) : DB X F (.Name x pos) (tVarB i) := PE.imp h fun σ H Q ⟨Hf, env, c, Wd, Qd, S, _, ht, k⟩ => by
  unfold tVarB at ht
  split at ht
  · rename_i d e
    obtain ⟨v, h1, h2⟩ := S.val i d e
    exact ⟨v, h1, k v H Hf c d S (Same.refl _) Keep.refl (.inl h2) ht⟩
  · rename_i d e
    obtain ⟨a, h1, h2, h3, h4, h5⟩ := S.own i d e
    exact ⟨.ref a, h1, k _ H Hf c d S (Same.refl _) Keep.refl (.inr ⟨i, e, h1⟩) ht⟩
  · exact ht.elim

/-- a flat value -/
def flatD : D → V → Prop
  | .non, v => v = .non
  | .bl b, v => v = .bl b
  | .int i, v => v = .int i
  | .str x, v => v = .str x
  | _, _ => False
theorem rp_flat {Z : Wz} {H : Hp} : ∀ {d : D} {v : V}, flatD d v → Rp Z H d v
  | .non, _, h => rp_non.mpr h
  | .bl _, _, h => rp_bl.mpr h
  | .int _, _, h => rp_int.mpr h
  | .str _, _, h => rp_str.mpr h
@[simp] def tCD (d : D) : TED := fun _ c _ Q => Q d c
theorem de_c {v : V} {d : D} (h : PE X e (tC v)) (f : flatD d v) : DE X F e (tCD d) := PE.imp h fun σ H Q ⟨Hf, env, c, Wd, Qd, S, _, ht, k⟩ =>
  k v H Hf c d S (Same.refl _) Keep.refl (rp_flat f) ht
theorem de_int {i : Int} {j : Nat} : DE X F (.Constant (.int i) j pos) (tCD (.int i)) := de_c pe_int rfl
theorem de_bl {b : Bool} {j : Nat} : DE X F (.Constant (.bool b) j pos) (tCD (.bl b)) := de_c pe_bl rfl
theorem de_non {j : Nat} : DE X F (.Constant .none j pos) (tCD .non) := de_c pe_non rfl
theorem de_str {x : Str} {j : Nat} : DE X F (.Constant (.str x) j pos) (tCD (.str x)) := de_c pe_str rfl

/-! ### argument lists -/
@[simp] def tNilD : TAD := fun _ c _ Q => Q [] c
@[simp] def tConsD (t : TED) (u : TAD) : TAD := fun env c W Q => t env c W fun d c1 => u env c1 W fun ds c2 => Q (d :: ds) c2
theorem da_nil : DA X F [] tNilD := PA.imp pa_nil fun σ H Q ⟨Hf, env, c, Wd, Qd, S, _, ht, k⟩ => k [] H Hf c [] S (Same.refl _) Keep.refl RpL.nil ht
theorem da_cons {es : List Expr} {t : TED} {u : TAD} (ha : DE X F e t) (hr : DA X F es u) (hs : starEach (e :: es) X.env = (false, eval e X.env) :: starEach es X.env := by rfl) : DA X F (e :: es) (tConsD t u) :=
  PA.imp (pa_cons ha hr hs) fun σ H Q ⟨Hf, env, c, Wd, Qd, S, x, ht, k⟩ => ⟨Hf, env, c, Wd, _, S, x, ht, fun v H1 Hf1 c1 d S1 s1 k1 r1 q1 =>
    ⟨Hf1, env, c1, Wd, _, S1, x, q1, fun vs H2 Hf2 c2 ds S2 s2 k2 r2 q2 => k (v :: vs) H2 Hf2 c2 (d :: ds) S2 (s1.trans s2) (k1.trans k2) (RpL.cons (Rp.mono s2 _ _ r1) r2) q2⟩⟩
/-- arguments that are read and not kept -/
def BRpL (Z : Wz) (Hf : Hp) (σ : L2.St) (env : EnvD) : List D → List V → Prop
  | [], vs => vs = []
  | d :: ds, vs => ∃ v r, vs = v :: r ∧ BRp Z Hf σ env d v ∧ BRpL Z Hf σ env ds r
def VRpL (Z : Wz) (Hf H : Hp) : List D → List V → Prop
  | [], vs => vs = []
  | d :: ds, vs => ∃ v r, vs = v :: r ∧ VRp Z Hf H d v ∧ VRpL Z Hf H ds r
theorem BRpL.at {Z : Wd} {H0 G0 H Hf : Hp} {σ : L2.St} {env : EnvD} {c : Nat} (S : Sim Z H0 G0 σ H Hf env c) : ∀ {ds : List D} {vs : List V}, BRpL Z.toWz Hf σ env ds vs → VRpL Z.toWz Hf H ds vs
  | [], _, h => h
  | d :: ds, _, h => by
    obtain ⟨v, r, rfl, h1, h2⟩ := h
    exact ⟨v, r, rfl, h1.at S, BRpL.at S h2⟩
def liftAB (F : Fd) (t : TAD) : TA := fun σ H Q => ∃ (Hf : Hp) (env : EnvD) (c : Nat) (Wd : WD) (Qd : List D → Nat → Prop), Sim F.Z F.H0 F.G0 σ H Hf env c ∧ XL F σ env Wd ∧ t env c Wd Qd ∧
  ∀ (vs : List V) (H' Hf' : Hp) (c' : Nat) (ds : List D), Sim F.Z F.H0 F.G0 σ H' Hf' env c' → Same Hf Hf' → Keep F.Z H H' → BRpL F.Z.toWz Hf' σ env ds vs → Qd ds c' → Q vs H'
abbrev DAB (X : Cx) (F : Fd) (es : List Expr) (t : TAD) : Prop := PA X es (liftAB F t)
theorem dab_nil : DAB X F [] tNilD := PA.imp pa_nil fun σ H Q ⟨Hf, env, c, Wd, Qd, S, _, ht, k⟩ => k [] H Hf c [] S (Same.refl _) Keep.refl rfl ht
theorem dab_cons {es : List Expr} {t : TED} {u : TAD} (ha : DB X F e t) (hr : DAB X F es u) (hs : starEach (e :: es) X.env = (false, eval e X.env) :: starEach es X.env := by rfl) : DAB X F (e :: es) (tConsD t u) :=
  PA.imp (pa_cons ha hr hs) fun σ H Q ⟨Hf, env, c, Wd, Qd, S, x, ht, k⟩ => ⟨Hf, env, c, Wd, _, S, x, ht, fun v H1 Hf1 c1 d S1 s1 k1 r1 q1 =>
    ⟨Hf1, env, c1, Wd, _, S1, x, q1, fun vs H2 Hf2 c2 ds S2 s2 k2 r2 q2 => k (v :: vs) H2 Hf2 c2 (d :: ds) S2 (s1.trans s2) (k1.trans k2) ⟨v, vs, rfl, BRp.mono s2 r1, r2⟩ q2⟩⟩

/-! ### operators on two values: r tells what comes of two trees -/
abbrev RD := D → D → (D → Prop) → Prop
def liftR (Z : Wz) (r : RD) : R2 := fun x y H Q => ∃ (Hf : Hp) (d e : D) (k : D → Prop), Same Hf H ∧ VRp Z Hf H d x ∧ VRp Z Hf H e y ∧ r d e k ∧ ∀ (z : V) (H' Hf' : Hp) (g : D), Grow Hf H Hf' H' → Rp Z Hf' g z → k g → Q z H'
abbrev OpD (X : Cx) (Z : Wz) (f : Value → Value → Sem Value) (r : RD) : Prop := OpR X f (liftR Z r)
@[simp] def tOpD (r : RD) (t u : TED) : TED := fun env c W Q => t env c W fun d c1 => u env c1 W fun e c2 => r d e fun g => Q g c2
theorem op_use {σ : L2.St} {H : Hp} {r : RD} {ta tb : TED} {Q : VK} (h : liftE F (tOpD r ta tb) σ H Q) : tOp (liftR F.Z.toWz r) (liftB F ta) (liftB F tb) σ H Q := by
  obtain ⟨Hf, env, c, Wd, Qd, S, x, ht, k⟩ := h
  refine ⟨Hf, env, c, Wd, _, S, x, ht, fun v H1 Hf1 c1 d S1 s1 k1 r1 q1 => ?_⟩
  refine ⟨Hf1, env, c1, Wd, _, S1, x, q1, fun w H2 Hf2 c2 e S2 s2 k2 r2 q2 => ?_⟩
  refine ⟨Hf2, d, e, _, S2.sub, (BRp.mono s2 r1).at S2, r2.at S2, q2, fun z H' Hf' g gr rp q3 => ?_⟩
  exact k z H' Hf' c2 g (S2.grow gr) ((s1.trans s2).trans gr.hf) ((k1.trans k2).trans (Keep.of gr.h)) rp q3
theorem de_op {op : Operator} {r : RD} {ta tb : TED} (ho : OpD X F.Z.toWz (binaryOp op) r) (ha : DB X F a ta) (hb : DB X F b tb) : DE X F (.BinOp a op b pos) (tOpD r ta tb) :=
  PE.imp (pe_op ho ha hb) fun σ H Q h => op_use h
theorem de_cmp {op : CmpOp} {r : RD} {ta tb : TED} (ho : OpD X F.Z.toWz (compareOp op) r) (ha : DB X F a ta) (hb : DB X F b tb) (hm : behindInMarks op b = false := by first | exact nomark _ | rfl) : DE X F (.Compare a [op] [b] pos) (tOpD r ta tb) :=
  PE.imp (pe_cmpR ho ha hb hm) fun σ H Q h => op_use h
/-- a reading whose value is a bool, as a test -/
@[simp] def tTestD (t : TED) : TTD := fun env c W Q => t env c W fun d c1 => match d with
  | .bl b => Q b c1
  | _ => False
theorem test_use {σ : L2.St} {H : Hp} {t : TED} {Q : Bool → Hp → Prop} (h : liftT F (tTestD t) σ H Q) : liftE F t σ H fun x H' => ∃ k, x = .bl k ∧ Q k H' := by
  obtain ⟨Hf, env, c, Wd, Qd, S, x, ht, k⟩ := h
  refine ⟨Hf, env, c, Wd, _, S, x, ht, fun v H1 Hf1 c1 d S1 s1 k1 r1 q1 => ?_⟩
  cases d with
  | bl b => exact ⟨b, rp_bl.mp r1, k b H1 Hf1 c1 S1 s1 k1 q1⟩
  | _ => exact q1.elim
theorem dt_cmp {op : CmpOp} {r : RD} {ta tb : TED} (ho : OpD X F.Z.toWz (compareOp op) r) (ha : DB X F a ta) (hb : DB X F b tb) (hm : behindInMarks op b = false := by first | exact nomark _ | rfl) : DT X F (.Compare a [op] [b] pos) (tTestD (tOpD r ta tb)) :=
  PT.imp (pt_cmpR ho ha hb hm) fun σ H Q h => op_use (test_use h)
/-- a op1 b op2 c -/
@[simp] def tChainD (r r' : RD) (ta tb tc : TED) : TED := fun env c W Q => ta env c W fun x c1 => tb env c1 W fun y c2 => r x y fun z => match z with
  | .bl true => tc env c2 W fun w c3 => r' y w fun g => Q g c3
  | .bl false => Q (.bl false) c2
  | _ => False
theorem chain_use {σ : L2.St} {H : Hp} {r r' : RD} {ta tb tc : TED} {Q : VK} (h : liftE F (tChainD r r' ta tb tc) σ H Q) : tChain (liftR F.Z.toWz r) (liftR F.Z.toWz r') (liftB F ta) (liftB F tb) (liftB F tc) σ H Q := by
  obtain ⟨Hf, env, c, Wd, Qd, S, x, ht, k⟩ := h
  refine ⟨Hf, env, c, Wd, _, S, x, ht, fun v H1 Hf1 c1 d S1 s1 k1 r1 q1 => ?_⟩
  refine ⟨Hf1, env, c1, Wd, _, S1, x, q1, fun w H2 Hf2 c2 e S2 s2 k2 r2 q2 => ?_⟩
  refine ⟨Hf2, d, e, _, S2.sub, (BRp.mono s2 r1).at S2, r2.at S2, q2, fun z H' Hf' g gr rp q3 => ?_⟩
  cases g with
  | bl b =>
    cases rp_bl.mp rp
    refine ⟨b, rfl, ?_⟩
    have S3 := S2.grow gr
    cases b with
    | true =>
      refine iteT ⟨Hf', env, c2, Wd, _, S3, x, q3, fun u H4 Hf4 c4 f S4 s4 k4 r4 q4 => ?_⟩
      refine ⟨Hf4, e, f, _, S4.sub, (BRp.mono (gr.hf.trans s4) r2).at S4, r4.at S4, q4, fun z5 H5 Hf5 g5 gr5 rp5 q5 => ?_⟩
      exact k z5 H5 Hf5 c4 g5 (S4.grow gr5) ((((s1.trans s2).trans gr.hf).trans s4).trans gr5.hf) ((((k1.trans k2).trans (Keep.of gr.h)).trans k4).trans (Keep.of gr5.h)) rp5 q5
    | false => exact iteF (k (.bl false) H' Hf' c2 (.bl false) S3 ((s1.trans s2).trans gr.hf) ((k1.trans k2).trans (Keep.of gr.h)) (rp_bl.mpr rfl) q3)
  | _ => exact q3.elim
theorem de_chain {c : Expr} {op op' : CmpOp} {r r' : RD} {ta tb tc : TED} (ho : OpD X F.Z.toWz (compareOp op) r) (ho' : OpD X F.Z.toWz (compareOp op') r') (ha : DB X F a ta) (hb : DB X F b tb) (hc : DB X F c tc)
    (hm : lastMarks [op, op'] [b, c] = false := by with_unfolding_all rfl) : DE X F (.Compare a [op, op'] [b, c] pos) (tChainD r r' ta tb tc) := PE.imp (pe_chain ho ho' ha hb hc hm) fun σ H Q h => chain_use h
theorem dt_chain {c : Expr} {op op' : CmpOp} {r r' : RD} {ta tb tc : TED} (ho : OpD X F.Z.toWz (compareOp op) r) (ho' : OpD X F.Z.toWz (compareOp op') r') (ha : DB X F a ta) (hb : DB X F b tb) (hc : DB X F c tc)
    (hm : lastMarks [op, op'] [b, c] = false := by with_unfolding_all rfl) : DT X F (.Compare a [op, op'] [b, c] pos) (tTestD (tChainD r r' ta tb tc)) := PT.imp (pt_chain ho ho' ha hb hc hm) fun σ H Q h => chain_use (test_use h)

/-! ### and, or, not, if .. else -/
@[simp] def tAndD (t u : TTD) : TTD := fun env c W Q => t env c W fun b c1 => if b = true then u env c1 W Q else Q false c1
@[simp] def tOrD (t u : TTD) : TTD := fun env c W Q => t env c W fun b c1 => if b = true then Q true c1 else u env c1 W Q
@[simp] def tNotD (t : TTD) : TTD := fun env c W Q => t env c W fun b c1 => Q (!b) c1
abbrev DW (X : Cx) (F : Fd) (e : Expr) (t : TTD) : Prop := PW X e (liftT F t)
theorem PW.imp {t t' : TT} (h : PW X e t) (i : ∀ σ H Q, t' σ H Q → t σ H Q) : PW X e t' := ⟨fun wh pins s σ H Q I q => h.run wh pins s σ H Q I (i σ H Q q)⟩
variable {rest : List Expr} {tA tB : TTD}
theorem dw_and1 (ha : DT X F a tA) : DW X F (.BoolOp .And [a] pos) tA := pw_and1 ha
theorem dw_or1 (ha : DT X F a tA) : DW X F (.BoolOp .Or [a] pos) tA := pw_or1 ha
theorem dw_and (ha : DT X F a tA) (hb : DW X F (.BoolOp .And (b :: rest) pos) tB) : DW X F (.BoolOp .And (a :: b :: rest) pos) (tAndD tA tB) :=
  PW.imp (pw_and ha hb) fun σ H Q ⟨Hf, env, c, Wd, Qd, S, x, ht, k⟩ => ⟨Hf, env, c, Wd, _, S, x, ht, fun d H1 Hf1 c1 S1 s1 k1 q1 => by
    cases d with
    | true => exact iteT ⟨Hf1, env, c1, Wd, _, S1, x, q1, fun d2 H2 Hf2 c2 S2 s2 k2 q2 => k d2 H2 Hf2 c2 S2 (s1.trans s2) (k1.trans k2) q2⟩
    | false => exact iteF (k false H1 Hf1 c1 S1 s1 k1 q1)⟩
theorem dw_or (ha : DT X F a tA) (hb : DW X F (.BoolOp .Or (b :: rest) pos) tB) : DW X F (.BoolOp .Or (a :: b :: rest) pos) (tOrD tA tB) :=
  PW.imp (pw_or ha hb) fun σ H Q ⟨Hf, env, c, Wd, Qd, S, x, ht, k⟩ => ⟨Hf, env, c, Wd, _, S, x, ht, fun d H1 Hf1 c1 S1 s1 k1 q1 => by
    cases d with
    | true => exact iteT (k true H1 Hf1 c1 S1 s1 k1 q1)
    | false => exact iteF ⟨Hf1, env, c1, Wd, _, S1, x, q1, fun d2 H2 Hf2 c2 S2 s2 k2 q2 => k d2 H2 Hf2 c2 S2 (s1.trans s2) (k1.trans k2) q2⟩⟩
theorem dt_w (h : DW X F e tA) : DT X F e tA := h.pt
theorem dt_not (ha : DT X F a tA) : DT X F (.UnaryOp .Not a pos) (tNotD tA) :=
  PT.imp (pt_not ha) fun σ H Q ⟨Hf, env, c, Wd, Qd, S, x, ht, k⟩ => ⟨Hf, env, c, Wd, _, S, x, ht, fun d H1 Hf1 c1 S1 s1 k1 q1 => k (!d) H1 Hf1 c1 S1 s1 k1 q1⟩
/-- .. as values, all but the last a bool -/
@[simp] def boolD (d : D) (k : Bool → Prop) : Prop := match d with
  | .bl b => k b
  | _ => False
@[simp] def tAndVD (t u : TED) : TED := fun env c W Q => t env c W fun d c1 => boolD d fun b => if b = true then u env c1 W Q else Q (.bl false) c1
@[simp] def tOrVD (t u : TED) : TED := fun env c W Q => t env c W fun d c1 => boolD d fun b => if b = true then Q (.bl true) c1 else u env c1 W Q
@[simp] def tNotVD (t : TED) : TED := fun env c W Q => t env c W fun d c1 => boolD d fun b => Q (.bl (!b)) c1
variable {ta tb : TED}
theorem de_one {op : BoolOp} (h : DE X F a ta) : DE X F (.BoolOp op [a] pos) ta := pe_one h
theorem de_and (ha : DE X F a ta) (hb : DE X F (.BoolOp .And (b :: rest) pos) tb) : DE X F (.BoolOp .And (a :: b :: rest) pos) (tAndVD ta tb) :=
  PE.imp (pe_and ha hb) fun σ H Q ⟨Hf, env, c, Wd, Qd, S, x, ht, k⟩ => ⟨Hf, env, c, Wd, _, S, x, ht, fun v H1 Hf1 c1 d S1 s1 k1 r1 q1 => by
    cases d with
    | bl b =>
      refine ⟨b, rp_bl.mp r1, ?_⟩
      cases b with
      | true => exact iteT ⟨Hf1, env, c1, Wd, _, S1, x, q1, fun v2 H2 Hf2 c2 d2 S2 s2 k2 r2 q2 => k v2 H2 Hf2 c2 d2 S2 (s1.trans s2) (k1.trans k2) r2 q2⟩
      | false => exact iteF (k _ H1 Hf1 c1 (.bl false) S1 s1 k1 (rp_bl.mpr rfl) q1)
    | _ => exact q1.elim⟩
theorem de_or (ha : DE X F a ta) (hb : DE X F (.BoolOp .Or (b :: rest) pos) tb) : DE X F (.BoolOp .Or (a :: b :: rest) pos) (tOrVD ta tb) :=
  PE.imp (pe_or ha hb) fun σ H Q ⟨Hf, env, c, Wd, Qd, S, x, ht, k⟩ => ⟨Hf, env, c, Wd, _, S, x, ht, fun v H1 Hf1 c1 d S1 s1 k1 r1 q1 => by
    cases d with
    | bl b =>
      refine ⟨b, rp_bl.mp r1, ?_⟩
      cases b with
      | true => exact iteT (k _ H1 Hf1 c1 (.bl true) S1 s1 k1 (rp_bl.mpr rfl) q1)
      | false => exact iteF ⟨Hf1, env, c1, Wd, _, S1, x, q1, fun v2 H2 Hf2 c2 d2 S2 s2 k2 r2 q2 => k v2 H2 Hf2 c2 d2 S2 (s1.trans s2) (k1.trans k2) r2 q2⟩
    | _ => exact q1.elim⟩
theorem de_not (ha : DE X F a ta) : DE X F (.UnaryOp .Not a pos) (tNotVD ta) :=
  PE.imp (pe_not ha) fun σ H Q ⟨Hf, env, c, Wd, Qd, S, x, ht, k⟩ => ⟨Hf, env, c, Wd, _, S, x, ht, fun v H1 Hf1 c1 d S1 s1 k1 r1 q1 => by
    cases d with
    | bl b => exact ⟨b, rp_bl.mp r1, k _ H1 Hf1 c1 (.bl (!b)) S1 s1 k1 (rp_bl.mpr rfl) q1⟩
    | _ => exact q1.elim⟩
/-- a if t else b -/
@[simp] def tIfD (t : TTD) (u w : TED) : TED := fun env c W Q => t env c W fun b c1 => if b = true then u env c1 W Q else w env c1 W Q
theorem de_if {t : Expr} {tt : TTD} (hc : DT X F t tt) (ha : DE X F a ta) (hb : DE X F b tb) : DE X F (.IfExp t a b pos) (tIfD tt ta tb) :=
  PE.imp (pe_ifExp hc ha hb) fun σ H Q ⟨Hf, env, c, Wd, Qd, S, x, ht, k⟩ => ⟨Hf, env, c, Wd, _, S, x, ht, fun d H1 Hf1 c1 S1 s1 k1 q1 => by
    cases d with
    | true => exact iteT ⟨Hf1, env, c1, Wd, _, S1, x, q1, fun v2 H2 Hf2 c2 d2 S2 s2 k2 r2 q2 => k v2 H2 Hf2 c2 d2 S2 (s1.trans s2) (k1.trans k2) r2 q2⟩
    | false => exact iteF ⟨Hf1, env, c1, Wd, _, S1, x, q1, fun v2 H2 Hf2 c2 d2 S2 s2 k2 r2 q2 => k v2 H2 Hf2 c2 d2 S2 (s1.trans s2) (k1.trans k2) r2 q2⟩⟩
end
end DL
set_option Elab.async false
set_option linter.all false
set_option maxRecDepth 100000
set_option maxHeartbeats 4000000
/-! DL2: statements, defs, calls. -/
namespace DL
open PySem PySem.Spec PyProof.Rows L2

/-- what is wanted behind a statement, over trees -/
structure EndsD where
  nx : EnvD → Nat → Prop
  rt : D → Nat → Prop
  bk : EnvD → Nat → Prop := fun _ _ => False
  ct : EnvD → Nat → Prop := fun _ _ => False
  ex : D → EnvD → Nat → Prop := fun _ _ _ => False
abbrev TSD := EndsD → EnvD → Nat → Prop
structure EL (F : Fd) (H1 : Hp) (D0 : Ends) (Dd : EndsD) : Prop where
  nx : ∀ σ H Hf env c, Sim F.Z F.H0 F.G0 σ H Hf env c → Same H1 Hf → Dd.nx env c → D0.nx σ H
  rt : ∀ σ H Hf env c d v, Sim F.Z F.H0 F.G0 σ H Hf env c → Same H1 Hf → Rp F.Z.toWz Hf d v → Dd.rt d c → D0.rt v H
  bk : ∀ σ H Hf env c, Sim F.Z F.H0 F.G0 σ H Hf env c → Same H1 Hf → Dd.bk env c → D0.bk σ H
  ct : ∀ σ H Hf env c, Sim F.Z F.H0 F.G0 σ H Hf env c → Same H1 Hf → Dd.ct env c → D0.ct σ H
  ex : ∀ σ H Hf env c cls dx d, Sim F.Z F.H0 F.G0 σ H Hf env c → IsX F.Z.toWz Hf cls dx d → Dd.ex d env c → F.W cls dx σ H
theorem EL.grow {F : Fd} {H1 H2 : Hp} {D0 : Ends} {Dd : EndsD} (L : EL F H1 D0 Dd) (s : Same H1 H2) : EL F H2 D0 Dd :=
  ⟨fun σ H Hf env c S t q => L.nx σ H Hf env c S (s.trans t) q, fun σ H Hf env c d v S t r q => L.rt σ H Hf env c d v S (s.trans t) r q, fun σ H Hf env c S t q => L.bk σ H Hf env c S (s.trans t) q, fun σ H Hf env c S t q => L.ct σ H Hf env c S (s.trans t) q, L.ex⟩
theorem EL.xl {F : Fd} {H1 : Hp} {D0 : Ends} {Dd : EndsD} (L : EL F H1 D0 Dd) (σ : L2.St) (env : EnvD) : XL F σ env (fun d c => Dd.ex d env c) := fun cls dx H' Hf' c' d S x q => L.ex σ H' Hf' env c' cls dx d S x q
def liftS (F : Fd) (t : TSD) : TS := fun D0 σ H => ∃ (Hf : Hp) (env : EnvD) (c : Nat) (Dd : EndsD), Sim F.Z F.H0 F.G0 σ H Hf env c ∧ EL F Hf D0 Dd ∧ t Dd env c
abbrev DS (X : Cx) (F : Fd) (st : Stmt) (t : TSD) : Prop := PS X st (liftS F t)
abbrev DSs (X : Cx) (F : Fd) (st : List Stmt) (t : TSD) : Prop := PSs X st (liftS F t)
theorem PSs.imp {X : Cx} {e : List Stmt} {t t' : TS} (h : PSs X e t) (i : ∀ D σ H, t' D σ H → t D σ H) : PSs X e t' := ⟨fun pins s σ H D I q => h.run pins s σ H D I (i D σ H q)⟩

section
variable {Z : Wd} {H0 G0 : Hp} {σ : L2.St} {H Hf H' Hf' : Hp} {env : EnvD} {c : Nat}
theorem Sim.set (S : Sim Z H0 G0 σ H Hf env c) {d : D} {v : V} (r : Rp Z.toWz Hf d v) (i : Nat) : Sim Z H0 G0 (σ.set i (some v)) H Hf (env.set i (.val d)) c where
  sub := S.sub
  g0 := S.g0
  new := S.new
  keep := S.keep
  len := by rw [List.length_set, List.length_set]; exact S.len
  val := fun j e h => by
    rw [List.getElem?_set] at h ⊢
    by_cases hj : i = j
    · rw [if_pos hj] at h ⊢
      have hl := S.len
      split at h
      · cases h
        rw [if_pos (by omega)]
        exact ⟨v, rfl, r⟩
      · cases h
    · rw [if_neg hj] at h ⊢
      exact S.val j e h
  own := fun j e h => by
    rw [List.getElem?_set] at h ⊢
    by_cases hj : i = j
    · rw [if_pos hj] at h
      split at h <;> cases h
    · rw [if_neg hj] at h ⊢
      exact S.own j e h
  inj := fun j k d e a h1 h2 h3 h4 => by
    rw [List.getElem?_set] at h1 h2 h3 h4
    by_cases hj : i = j
    · rw [if_pos hj] at h1
      split at h1 <;> cases h1
    · by_cases hk : i = k
      · rw [if_pos hk] at h2
        split at h2 <;> cases h2
      · rw [if_neg hj] at h1 h3
        rw [if_neg hk] at h2 h4
        exact S.inj j k d e a h1 h2 h3 h4
  st := S.st
  stf := S.stf
  tab := S.tab
  ntb := S.ntb
/-- a slot is forgotten -/
theorem Sim.drop (S : Sim Z H0 G0 σ H Hf env c) (i : Nat) : Sim Z H0 G0 σ H Hf (env.set i .un) c where
  sub := S.sub
  g0 := S.g0
  new := S.new
  keep := S.keep
  len := by rw [List.length_set]; exact S.len
  val := fun j e h => by
    rw [List.getElem?_set] at h
    by_cases hj : i = j
    · rw [if_pos hj] at h
      split at h <;> cases h
    · rw [if_neg hj] at h
      exact S.val j e h
  own := fun j e h => by
    rw [List.getElem?_set] at h
    by_cases hj : i = j
    · rw [if_pos hj] at h
      split at h <;> cases h
    · rw [if_neg hj] at h
      exact S.own j e h
  inj := fun j k d e a h1 h2 h3 h4 => by
    rw [List.getElem?_set] at h1 h2
    by_cases hj : i = j
    · rw [if_pos hj] at h1
      split at h1 <;> cases h1
    · by_cases hk : i = k
      · rw [if_pos hk] at h2
        split at h2 <;> cases h2
      · rw [if_neg hj] at h1
        rw [if_neg hk] at h2
        exact S.inj j k d e a h1 h2 h3 h4
  st := S.st
  stf := S.stf
  tab := S.tab
  ntb := S.ntb
end

section
variable {X : Cx} {F : Fd} {e : Expr} {st : Stmt} {rest : List Stmt} {pos : Pos} {t u : TSD} {te : TED} {tt : TTD}
@[simp] def tNextD : TSD := fun D env c => D.nx env c
@[simp] def tSeqD (t u : TSD) : TSD := fun D env c => t { D with nx := u D } env c
theorem dss_nil : DSs X F [] tNextD := PSs.imp pss_nil fun D σ H ⟨Hf, env, c, Dd, S, L, h⟩ => L.nx σ H Hf env c S (Same.refl _) h
theorem dss_cons (h1 : DS X F st t) (h2 : DSs X F rest u) : DSs X F (st :: rest) (tSeqD t u) := PSs.imp (pss_cons h1 h2) fun D σ H ⟨Hf, env, c, Dd, S, L, h⟩ =>
  ⟨Hf, env, c, { Dd with nx := u Dd }, S, { L with nx := fun σ' H' Hf' env' c' S' s1 q => ⟨Hf', env', c', Dd, S', L.grow s1, q⟩ }, h⟩
theorem dss_one (h1 : DS X F st t) : DSs X F [st] t := pss_one h1
theorem ds_pass : DS X F (.Pass pos) tNextD := PS.imp ps_pass fun D σ H ⟨Hf, env, c, Dd, S, L, h⟩ => L.nx σ H Hf env c S (Same.refl _) h
@[simp] def tBreakD : TSD := fun D env c => D.bk env c
@[simp] def tContD : TSD := fun D env c => D.ct env c
theorem ds_break : DS X F (.Break pos) tBreakD := PS.imp ps_break fun D σ H ⟨Hf, env, c, Dd, S, L, h⟩ => L.bk σ H Hf env c S (Same.refl _) h
theorem ds_continue : DS X F (.Continue pos) tContD := PS.imp ps_continue fun D σ H ⟨Hf, env, c, Dd, S, L, h⟩ => L.ct σ H Hf env c S (Same.refl _) h
theorem ds_doc {x : Str} {j : Nat} {p : Pos} : DS X F (.Expr (.Constant (.str x) j p) pos) tNextD := PS.imp ps_doc fun D σ H ⟨Hf, env, c, Dd, S, L, h⟩ => L.nx σ H Hf env c S (Same.refl _) h
@[simp] def tDropD (t : TED) : TSD := fun D env c => t env c (fun d c1 => D.ex d env c1) fun _ c1 => D.nx env c1
theorem ds_expr (he : DE X F e te) (hs : swapsWith e none pos.line X.env = pure false := by rfl) : DS X F (.Expr e pos) (tDropD te) := PS.imp (ps_expr he hs) fun D σ H ⟨Hf, env, c, Dd, S, L, h⟩ =>
  ⟨Hf, env, c, _, _, S, L.xl σ env, h, fun v H' Hf' c' d S' s1 _ _ q => L.nx σ H' Hf' env c' S' s1 q⟩
@[simp] def tRetD (t : TED) : TSD := fun D env c => t env c (fun d c1 => D.ex d env c1) fun d c1 => D.rt d c1
theorem ds_ret (he : DE X F e te) : DS X F (.Return (some e) pos) (tRetD te) := PS.imp (ps_ret he) fun D σ H ⟨Hf, env, c, Dd, S, L, h⟩ =>
  ⟨Hf, env, c, _, _, S, L.xl σ env, h, fun v H' Hf' c' d S' s1 _ r q => L.rt σ H' Hf' env c' d v S' s1 r q⟩
@[simp] def tRetND : TSD := fun D _ c => D.rt .non c
theorem ds_retN : DS X F (.Return none pos) tRetND := PS.imp ps_retN fun D σ H ⟨Hf, env, c, Dd, S, L, h⟩ => L.rt σ H Hf env c .non .non S (Same.refl _) (rp_non.mpr rfl) h
@[simp] def tIfSD (tt : TTD) (t u : TSD) : TSD := fun D env c => tt env c (fun d c1 => D.ex d env c1) fun b c1 => if b = true then t D env c1 else u D env c1
theorem ds_if {a b : List Stmt} (hc : DT X F e tt) (ha : DSs X F a t) (hb : DSs X F b u) : DS X F (.If e a b pos) (tIfSD tt t u) := PS.imp (ps_if hc ha hb) fun D σ H ⟨Hf, env, c, Dd, S, L, h⟩ =>
  ⟨Hf, env, c, _, _, S, L.xl σ env, h, fun b H' Hf' c' S' s1 _ q => by
    cases b with
    | true => exact iteT ⟨Hf', env, c', Dd, S', L.grow s1, q⟩
    | false => exact iteF ⟨Hf', env, c', Dd, S', L.grow s1, q⟩⟩
@[simp] def tSetD (i : Nat) (t : TED) : TSD := fun D env c => t env c (fun d c1 => D.ex d env c1) fun d c1 => D.nx (env.set i (.val d)) c1
theorem ds_set (i : Nat) {x : Str} {p : Pos} (hN : X.N.Nodup) (he : DE X F e te) (hi : X.N[i]? = some x := by rfl) (hx : Loc X.env.scope x := by first | exact Or.inl rfl | exact Or.inr rfl) (hs : swapsWith e (some (.Name x p)) pos.line X.env = pure false := by rfl)
    (hf : X.fn x = true ∨ X.env.scope.names.lookup x = some .local := by first | exact .inl rfl | exact .inr rfl) : DS X F (.Assign [.Name x p] e pos) (tSetD i te) :=
  PS.imp (ps_set hN hi hx he hs hf) fun D σ H ⟨Hf, env, c, Dd, S, L, h⟩ => ⟨Hf, env, c, _, _, S, L.xl σ env, h, fun v H' Hf' c' d S' s1 _ r q => L.nx _ H' Hf' _ c' (S'.set r i) s1 q⟩
theorem Sim.drops {Z : Wd} {H0 G0 : Hp} {σ : L2.St} {H Hf : Hp} {c : Nat} : ∀ (is : List Nat) {env : EnvD}, Sim Z H0 G0 σ H Hf env c → Sim Z H0 G0 σ H Hf (is.foldl (fun m i => m.set i .un) env) c
  | [], _, S => S
  | i :: r, _, S => Sim.drops r (S.drop i)
/-- a slot is forgotten ahead of a block -/
@[simp] def tForgetD (is : List Nat) (t : TSD) : TSD := fun D env c => t D (is.foldl (fun m i => m.set i .un) env) c
theorem dss_forget (is : List Nat) {sts : List Stmt} (h : DSs X F sts t) : DSs X F sts (tForgetD is t) := PSs.imp h fun D σ H ⟨Hf, env, c, Dd, S, L, q⟩ => by
  exact ⟨Hf, is.foldl (fun m i => m.set i .un) env, c, Dd, S.drops is, L, q⟩
end

/-! ### defs without a state of the law -/
/-- a promise over trees: arguments, wanted exception, wanted value -/
abbrev PF := List D → (D → Prop) → (D → Prop) → Prop
def spP (K : PySem.W.Frag) (mg : Str → Option Value) (f : PF) : Sp := fun vs H Q E => ∃ (Z : Wz) (ds : List D) (G : Hp) (W R : D → Prop), Z.K = K ∧ Z.mg = mg ∧ Same G H ∧ RpL Z G ds vs ∧ f ds W R ∧
  (∀ (v : V) (H' G' : Hp) (d : D), Grow G H G' H' → Rp Z G' d v → R d → Q v H') ∧ (∀ (cls : Value) (dx : Option Addr) (H' G' : Hp) (d : D), Grow G H G' H' → IsX Z G' cls dx d → W d → E cls dx H')
/-- slots at the entry -/
@[simp] def envAt (n : Nat) (ds : List D) : EnvD := ds.map Slot.val ++ List.replicate (n - ds.length) .un
theorem envAt_val {n i : Nat} {ds : List D} {d : D} (h : (envAt n ds)[i]? = some (Slot.val d)) : ds[i]? = some d := by
  unfold envAt at h
  by_cases hi : i < ds.length
  · rw [List.getElem?_append_left (by simpa using hi), List.getElem?_map] at h
    cases e : ds[i]? with
    | none => rw [e] at h; cases h
    | some x => rw [e] at h; cases h; rfl
  · rw [List.getElem?_append_right (by simpa using hi), List.getElem?_replicate] at h
    split at h <;> cases h
theorem envAt_own {n i : Nat} {ds : List D} {d : D} (h : (envAt n ds)[i]? = some (Slot.own d)) : False := by
  unfold envAt at h
  by_cases hi : i < ds.length
  · rw [List.getElem?_append_left (by simpa using hi), List.getElem?_map] at h
    cases e : ds[i]? with
    | none => rw [e] at h; cases h
    | some x => rw [e] at h; cases h
  · rw [List.getElem?_append_right (by simpa using hi), List.getElem?_replicate] at h
    split at h <;> cases h
theorem start_at {N : List Str} {vs : List V} {i : Nat} {v : V} (h : vs[i]? = some v) : (L2.start N vs)[i]? = some (some v) := by
  unfold L2.start
  have hl : i < vs.length := (List.getElem?_eq_some_iff.mp h).1
  rw [List.getElem?_append_left (by simpa using hl), List.getElem?_map, h]
  rfl
theorem Sim.begin {Z : Wd} {H G : Hp} {N : List Str} {ds : List D} {vs : List V} {c : Nat} (g : Same G H) (r : RpL Z.toWz G ds vs) (st : StOk Z H c) (sf : ∀ b, Z.S b → G b = none) (tb : LamX.Tabs Z.tabs H) : Sim Z H G (L2.start N vs) H G (envAt N.length ds) c where
  sub := g
  g0 := Same.refl _
  new := fun b h1 h2 => absurd h2 h1
  keep := fun b o h _ => h
  len := by
    unfold envAt L2.start
    rw [List.length_append, List.length_append, List.length_map, List.length_map, List.length_replicate, List.length_replicate, r.length]
  val := fun i d h => by
    obtain ⟨v, e1, e2⟩ := r.get (envAt_val h)
    exact ⟨v, start_at e1, e2⟩
  own := fun i d h => (envAt_own h).elim
  inj := fun i j d e a h1 _ _ _ => (envAt_own h1).elim
  st := st
  stf := sf
  tab := tb
  ntb := fun _ _ h => h
/-- what comes back: from the entry to here the heap has grown (no state of the law at hand) -/
theorem Sim.back {Z : Wd} {H0 G0 : Hp} {σ : L2.St} {H Hf : Hp} {env : EnvD} {c : Nat} (S : Sim Z H0 G0 σ H Hf env c) (hz : Z.sf = false) : Grow G0 H0 Hf H :=
  ⟨S.g0, fun b o h => S.keep b o h fun s => by have z := s.1; rw [hz] at z; exact absurd z Bool.false_ne_true, S.sub, fun b h1 h2 => S.new b h1 h2, S.ntb⟩

section
variable {P : Program} {w : World} {K : PySem.W.Frag} {mg : Str → Option Value} {base : Heap}
/-- the frame of a def without a state of the law -/
abbrev fdP (K : PySem.W.Frag) (mg : Str → Option Value) (sa sl sc : Addr) (H G : Hp) (W : WX) : Fd := ⟨⟨⟨K, mg, sa, sl, sc⟩, false, []⟩, H, G, W⟩
theorem okP {x qual : Str} {st : Stmt} {f : Addr} {fd : FuncData} {N ps : List Str} {k : Nat} {pf : PF} (Fn : Fun K x qual st f fd) (S : FnScope N ps (defScope st)) (len : ∀ ds W R, pf ds W R → ds.length = ps.length)
    (hbody : ∀ (X : Cx) (F : Fd) (cdv : Value) (A : Around) (outer : List Env) (s : Shared) (H G : Hp) (sa sl sc : Addr) (E : XK), X = cxOf (L2.CX P w) P w K mg base N qual (defScope st) f cdv A outer s H E → F = fdP K mg sa sl sc H G (fun cls d _ H => E cls d H) →
      Takes X F.W → Room k X.A → ∃ t, DSs X F (defBody st) t ∧ ∀ (ds : List D) (W R : D → Prop), pf ds W R → t { nx := fun _ _ => R .non, rt := fun d _ => R d, ex := fun d _ _ => W d } (envAt N.length ds) 0) :
    FnOk P w K mg base (L2.CX P w) (k + 1) f fd ps (spP K mg pf) := by
  refine Fn.okX S (fun vs H Q E h => ?_) fun cdv A outer s H vs Q E hr h => ?_
  · obtain ⟨Z, ds, G, W, R, _, _, _, r, hp, _⟩ := h
    rw [← r.length]
    exact len _ _ _ hp
  · obtain ⟨⟨K', mg', sa, sl, sc⟩, ds, G, W, R, e1, e2, g, r, hp, kq, kx⟩ := h
    cases e1
    cases e2
    obtain ⟨t, ht, hq⟩ := hbody _ (fdP K' mg' sa sl sc H G (fun cls d _ H => E cls d H)) cdv A outer s H G sa sl sc E rfl rfl (takes_of rfl rfl rfl rfl) hr
    refine ⟨_, ht, G, envAt N.length ds, 0, _, Sim.begin (Z := ⟨⟨K', mg', sa, sl, sc⟩, false, []⟩) g r (fun z => absurd z Bool.false_ne_true) (fun b s => absurd s.1 Bool.false_ne_true) (fun _ z => absurd z List.not_mem_nil), ?_, hq ds W R hp⟩
    refine ⟨fun σ' H' Hf' env' c' S' _ q => ?_, fun σ' H' Hf' env' c' d v S' _ r' q => ?_, fun σ' H' Hf' env' c' S' _ q => q.elim, fun σ' H' Hf' env' c' S' _ q => q.elim, fun σ' H' Hf' env' c' cls dx d S' x' q => ?_⟩
    · exact kq .non H' Hf' .non (S'.back rfl) (rp_non.mpr rfl) q
    · exact kq v H' Hf' d (S'.back rfl) r' q
    · exact kx cls dx H' Hf' d (S'.back rfl) x' q
end

/-! ### a call of such a def -/
@[simp] def tCallP (f : PF) (t : TAD) : TED := fun env c W Q => t env c W fun ds c1 => f ds (fun d => W d c1) fun d => Q d c1
section
variable {X : Cx} {F : Fd} {k : Nat} {f : Addr} {fd : FuncData} {ps : List Str} {pf : PF} {x : Str} {p pos : Pos} {e : Expr} {es : List Expr} {t : TAD}
theorem callP_use {σ : L2.St} {H : Hp} {Q : VK} {K : PySem.W.Frag} {mg : Str → Option Value} (hK : F.Z.K = K) (hM : F.Z.mg = mg) (h : liftE F (tCallP pf t) σ H Q) : tCallS (spP K mg pf) (WE F.W) (liftA F t) σ H Q := by
  obtain ⟨Hf, env, c, Wd, Qd, S, x, ht, k⟩ := h
  refine ⟨Hf, env, c, Wd, _, S, x, ht, fun vs H1 Hf1 c1 ds S1 s1 k1 r1 q1 => ?_⟩
  refine ⟨F.Z.toWz, ds, Hf1, _, _, hK, hM, S1.sub, r1, q1, fun v H' G' d g r q => ?_, fun cls dx H' G' d g i q => ?_⟩
  · exact k v H' G' c1 d (S1.grow g) (s1.trans g.hf) (k1.trans (Keep.of g.h)) r q
  · exact x cls dx H' G' c1 d (S1.grow g) i q
theorem de_callP (Fk : FnOk X.prog X.w X.K X.mg X.base (L2.CX X.prog X.w) k f fd ps (spP X.K X.mg pf)) (hr : Room k X.A) (hm : X.mg x = some (.ref f)) (hk : PySem.W.keepIn X.K (.ref f) = true) (hb : Binds X.K fd ps []) (tk : Takes X F.W)
    (ha : DA X F (e :: es) t) (hg : Gl X x := by rfl) (hK : F.Z.K = X.K := by rfl) (hM : F.Z.mg = X.mg := by rfl) (hdb : (x == ("__debug__" : Str)) = false := by decide) (he : starEach (e :: es) X.env = (false, eval e X.env) :: starEach es X.env := by rfl)
    (hpl : (backTo pos (starEach es X.env)).any (·.1) = false := by rfl) : DE X F (.Call (.Name x p) (e :: es) [] pos) (tCallP pf t) :=
  PE.imp (pe_callS Fk hr hg hm hk hb (fun σ => passAt tk σ) ha hdb he hpl) fun σ H Q h => callP_use hK hM h
end

/-! ### raise X('..'), X an own class without own __init__ -/
@[simp] def tRaiseD (n : Str) : TSD := fun D env c => D.ex (.exc n []) env c
theorem ds_raise {X : Cx} {F : Fd} {C : Addr} {bmB : List Value} {B newId initId : String} {x m : Str} {j : Nat} {p p2 pos pos2 : Pos} (hc : X.calm = true) (tk : Takes X F.W) (FB : ExcBaseFacts B newId initId bmB) (q : PySem.W.excIn X.K C bmB newId = true) (gC : X.mg x = some (.ref C))
    (kC : PySem.W.keepIn X.K (.ref C) = true) (r : Raises X (.ref C)) (hM : F.Z.mg = X.mg := by rfl) (hg : Gl X x := by rfl) (hdb : (x == ("__debug__" : Str)) = false := by decide) :
    DS X F (.Raise (some (.Call (.Name x p) [.Constant (.str m) j p2] [] pos)) none pos2) (tRaiseD x) :=
  PS.imp (ps_raise hc tk (pmk_own FB q gC kC r hg hdb)) fun D σ H ⟨Hf, env, c, Dd, S, L, h⟩ =>
    L.ex σ H Hf env c (.ref C) none (.exc x []) S ⟨x, C, [], [], rfl, by rw [hM]; exact gC, rfl, RpL.nil, .inl ⟨rfl, rfl⟩⟩ h
end DL
set_option Elab.async false
set_option linter.all false
set_option maxRecDepth 100000
set_option maxHeartbeats 4000000
/-! DL3: operators and comparisons by trees. -/
namespace DL
open PySem PySem.Spec PyProof.Rows L2

/-! ### what a read value is -/
section
variable {Z : Wz} {Hf H : Hp} {x : V}
theorem vrp_non (h : VRp Z Hf H .non x) : x = .non := h.elim rp_non.mp fun ⟨_, _, q⟩ => q.elim
theorem vrp_bl {b : Bool} (h : VRp Z Hf H (.bl b) x) : x = .bl b := h.elim rp_bl.mp fun ⟨_, _, q⟩ => q.elim
theorem vrp_int {i : Int} (h : VRp Z Hf H (.int i) x) : x = .int i := h.elim rp_int.mp fun ⟨_, _, q⟩ => q.elim
theorem vrp_str {y : Str} (h : VRp Z Hf H (.str y) x) : x = .str y := h.elim rp_str.mp fun ⟨_, _, q⟩ => q.elim
theorem vrp_tup {ds : List D} (s : Same Hf H) (h : VRp Z Hf H (.tup ds) x) : ∃ (a : Addr) (vs : List V), x = .ref a ∧ H a = some (.tup vs) ∧ RpL Z Hf ds vs ∧ Rp Z Hf (.tup ds) x := h.elim (fun q => by
  obtain ⟨a, vs, e, h1, h2⟩ := rp_tup.mp q
  exact ⟨a, vs, e, s _ _ h1, h2, q⟩) fun ⟨_, _, q⟩ => q.elim
theorem vrp_lst {ds : List D} (s : Same Hf H) (h : VRp Z Hf H (.lst ds) x) : ∃ (a : Addr) (vs : List V), x = .ref a ∧ H a = some (.lst vs) ∧ RpL Z Hf ds vs := h.elim (fun q => by
  obtain ⟨a, vs, e, h1, h2⟩ := rp_lst.mp q
  exact ⟨a, vs, e, s _ _ h1, h2⟩) fun ⟨a, e, q⟩ => by
  obtain ⟨vs, h1, h2⟩ := q
  exact ⟨a, vs, e, h1, h2⟩
theorem vrp_scr {ns : List Int} (s : Same Hf H) (h : VRp Z Hf H (.scr ns) x) : ∃ a : Addr, x = .ref a ∧ SqL Z.K H a (ns.map V.int) := h.elim (fun q => by
  obtain ⟨a, e, h1⟩ := rp_scr.mp q
  exact ⟨a, e, s.seq h1⟩) fun ⟨_, _, q⟩ => q.elim
theorem new_lst {ds : List D} {vs : List V} {p : Addr} (s : Same Hf H) (hp : H p = none) (r : RpL Z Hf ds vs) : Grow Hf H (upd Hf p (.lst vs)) (upd H p (.lst vs)) ∧ Rp Z (upd Hf p (.lst vs)) (.lst ds) (.ref p) :=
  ⟨Grow.one s hp (fun _ z => by cases z), rp_lst.mpr ⟨p, vs, rfl, upd_same, RpL.mono (same_upd (s.free hp)) _ _ r⟩⟩
theorem new_tup {ds : List D} {vs : List V} {p : Addr} (s : Same Hf H) (hp : H p = none) (r : RpL Z Hf ds vs) : Grow Hf H (upd Hf p (.tup vs)) (upd H p (.tup vs)) ∧ Rp Z (upd Hf p (.tup vs)) (.tup ds) (.ref p) :=
  ⟨Grow.one s hp (fun _ z => by cases z), rp_tup.mpr ⟨p, vs, rfl, upd_same, RpL.mono (same_upd (s.free hp)) _ _ r⟩⟩
theorem RpL.nil_iff {ds : List D} {vs : List V} (r : RpL Z Hf ds vs) : vs = [] ↔ ds = [] := by
  have e := r.length
  constructor
  · intro h; subst h; exact List.length_eq_zero_iff.mp e
  · intro h; subst h; exact List.length_eq_zero_iff.mp e.symm
end

/-! ### arithmetic -/
@[simp] def addD : RD
  | .int i, .int j, k => k (.int (i + j))
  | .str x, .str y, k => x.length + y.length ≤ sizeLine ∧ k (.str (x ++ y))
  | .lst a, .lst b, k => a.length + b.length ≤ sizeLine ∧ k (.lst (a ++ b))
  | .tup a, .tup b, k => a.length + b.length ≤ sizeLine ∧ k (.tup (a ++ b))
  | _, _, _ => False
theorem op_addD {X : Cx} {Z : Wz} (hK : Z.K = X.K := by rfl) : OpD X Z (binaryOp .Add) addD := by
  intro pins s σ H x y v u Q I rx ry h
  obtain ⟨Hf, d, e, k, sub, hx, hy, hr, kk⟩ := h
  unfold addD at hr
  split at hr
  · cases vrp_int hx
    cases vrp_int hy
    exact op_add pins s σ H _ _ v u Q I rx ry ⟨_, _, rfl, rfl, kk _ H Hf _ (Grow.refl sub) (rp_int.mpr rfl) hr⟩
  · cases vrp_str hx
    cases vrp_str hy
    exact op_add_str pins s σ H _ _ v u Q I rx ry ⟨_, _, rfl, rfl, hr.1, kk _ H Hf _ (Grow.refl sub) (rp_str.mpr rfl) hr.2⟩
  · obtain ⟨p, vs, rfl, h1, r1⟩ := vrp_lst sub hx
    obtain ⟨q, ws, rfl, h2, r2⟩ := vrp_lst sub hy
    refine op_cat pins s σ H _ _ v u Q I rx ry ⟨p, q, vs, ws, rfl, rfl, h1, h2, by rw [← r1.length, ← r2.length]; exact hr.1, fun n hn => ?_⟩
    obtain ⟨g, r⟩ := new_lst sub hn (r1.append r2)
    exact kk _ _ _ _ g r hr.2
  · obtain ⟨p, vs, rfl, h1, r1, w1⟩ := vrp_tup sub hx
    obtain ⟨q, ws, rfl, h2, r2, w2⟩ := vrp_tup sub hy
    refine op_catA pins s σ H _ _ v u Q I rx ry ⟨p, q, vs, ws, rfl, rfl, SqT.of h1, SqT.of h2, by rw [← r1.length, ← r2.length]; exact hr.1, fun e => ?_, fun _ e => ?_, fun _ _ n hn => ?_⟩
    · rw [r1.nil_iff] at e
      subst e
      exact kk _ H Hf _ (Grow.refl sub) w2 hr.2
    · rw [r2.nil_iff] at e
      subst e
      rw [List.append_nil] at hr
      exact kk _ H Hf _ (Grow.refl sub) w1 hr.2
    · obtain ⟨g, r⟩ := new_tup sub hn (r1.append r2)
      exact kk _ _ _ _ g r hr.2
  · exact hr.elim
@[simp] def intRD (C : Int → Int → Prop) (g : Int → Int → D) : RD
  | .int i, .int j, k => C i j ∧ k (g i j)
  | _, _, _ => False
theorem op_intD {X : Cx} {Z : Wz} {f : Value → Value → Sem Value} {C : Int → Int → Prop} {g : Int → Int → V} {gd : Int → Int → D} (h : OpR X f (rI C g)) (hg : ∀ i j, flatD (gd i j) (g i j)) : OpD X Z f (intRD C gd) := by
  intro pins s σ H x y v u Q I rx ry h'
  obtain ⟨Hf, d, e, k, sub, hx, hy, hr, kk⟩ := h'
  unfold intRD at hr
  split at hr
  · cases vrp_int hx
    cases vrp_int hy
    exact h pins s σ H _ _ v u Q I rx ry ⟨_, _, rfl, rfl, hr.1, kk _ H Hf _ (Grow.refl sub) (rp_flat (hg _ _)) hr.2⟩
  · exact hr.elim
def rI_of0 {g : Int → Int → V} {X : Cx} {f : Value → Value → Sem Value} (h : OpR X f (rI0 g)) : OpR X f (rI (fun _ _ => True) g) := by
  intro pins s σ H x y v u Q I rx ry ⟨i, j, e1, e2, _, q⟩
  exact h pins s σ H x y v u Q I rx ry ⟨i, j, e1, e2, q⟩
abbrev subD : RD := intRD (fun _ _ => True) fun i j => .int (i - j)
theorem op_subD {X : Cx} {Z : Wz} : OpD X Z (binaryOp .Sub) subD := op_intD (rI_of0 op_sub) fun _ _ => rfl
abbrev mulD : RD := intRD IntMulOk fun i j => .int (i * j)
theorem op_mulD {X : Cx} {Z : Wz} : OpD X Z (binaryOp .Mult) mulD := op_intD (C := IntMulOk) (g := fun i j => .int (i * j)) (opI fun _ _ _ _ _ _ _ hc q => mul_int q hc) fun _ _ => rfl
abbrev modD : RD := intRD (fun _ j => 0 < j) fun i j => .int (i % j)
theorem op_modD {X : Cx} {Z : Wz} : OpD X Z (binaryOp .Mod) modD := op_intD op_mod fun _ _ => rfl
abbrev fdivD : RD := intRD CDiv fun i j => .int (i / j)
theorem op_fdivD {X : Cx} {Z : Wz} : OpD X Z (binaryOp .FloorDiv) fdivD := op_intD op_fdiv fun _ _ => rfl
abbrev powD : RD := intRD CPow fun i j => .int (i ^ j.toNat)
theorem op_powD {X : Cx} {Z : Wz} : OpD X Z (binaryOp .Pow) powD := op_intD op_pow fun _ _ => rfl
abbrev shlD : RD := intRD CShl fun i j => .int (i * 2 ^ j.toNat)
theorem op_shlD {X : Cx} {Z : Wz} : OpD X Z (binaryOp .LShift) shlD := op_intD op_shlW fun _ _ => rfl
abbrev shrD : RD := intRD (fun _ j => 0 ≤ j) fun i j => .int (i / 2 ^ j.toNat)
theorem op_shrD {X : Cx} {Z : Wz} : OpD X Z (binaryOp .RShift) shrD := op_intD op_shr fun _ _ => rfl
abbrev andD : RD := intRD (fun _ _ => True) fun i j => .int (Builtin.bitAnd i j)
theorem op_andD {X : Cx} {Z : Wz} : OpD X Z (binaryOp .BitAnd) andD := op_intD (rI_of0 op_and) fun _ _ => rfl
/-- -a -/
@[simp] def negD (d : D) (k : D → Prop) : Prop := match d with
  | .int i => k (.int (-i))
  | _ => False
@[simp] def tUnD (r : D → (D → Prop) → Prop) (t : TED) : TED := fun env c W Q => t env c W fun d c1 => r d fun g => Q g c1
theorem de_neg {X : Cx} {F : Fd} {a : Expr} {pos : Pos} {ta : TED} (ha : DB X F a ta) : DE X F (.UnaryOp .USub a pos) (tUnD negD ta) :=
  PE.imp (pe_un un_neg ha) fun σ H Q ⟨Hf, env, c, Wd, Qd, S, x, ht, k⟩ => ⟨Hf, env, c, Wd, _, S, x, ht, fun v H1 Hf1 c1 d S1 s1 k1 r1 q1 => by
    cases d with
    | int i => exact ⟨i, vrp_int (r1.at S1), k _ H1 Hf1 c1 (.int (-i)) S1 s1 k1 (rp_int.mpr rfl) q1⟩
    | _ => exact q1.elim⟩

/-! ### trees as data of the library -/
mutual
def toPy : D → PyData
  | .non => .none
  | .bl b => .bool b
  | .int i => .int i
  | .str x => .str x
  | .tup ds => .tuple (toPyL ds)
  | .lst ds => .list (toPyL ds)
  | .dic _ ks vs => .dict ((toPyL ks).zip (toPyL vs))
  | .st => .none
  | .scr _ => .none
  | .exc _ _ => .none
def toPyL : List D → List PyData
  | [] => []
  | d :: ds => toPy d :: toPyL ds
end
mutual
/-- None, bools, ints, texts, lists and tuples of these -/
def plain : D → Bool
  | .non => true
  | .bl _ => true
  | .int _ => true
  | .str _ => true
  | .tup ds => plainL ds
  | .lst ds => plainL ds
  | _ => false
def plainL : List D → Bool
  | [] => true
  | d :: ds => plain d && plainL ds
end
section
variable {Z : Wz} {H : Hp}
mutual
theorem rp_dp : ∀ (d : D) (v : V), plain d = true → Rp Z H d v → Dp Z.K H v (toPy d)
  | .non, v, _, h => by rw [rp_non.mp h, toPy]; exact Dp.non
  | .bl b, v, _, h => by rw [rp_bl.mp h, toPy]; exact Dp.bl b
  | .int i, v, _, h => by rw [rp_int.mp h, toPy]; exact Dp.int i
  | .str x, v, _, h => by rw [rp_str.mp h, toPy]; exact Dp.str x
  | .tup ds, v, p, h => by
    obtain ⟨a, vs, rfl, h1, h2⟩ := rp_tup.mp h
    rw [toPy]
    rw [plain] at p
    exact Dp.tup (SqT.of h1) (rpL_dp ds vs p h2)
  | .lst ds, v, p, h => by
    obtain ⟨a, vs, rfl, h1, h2⟩ := rp_lst.mp h
    rw [toPy]
    rw [plain] at p
    exact Dp.lst (SqL.of h1) (rpL_dp ds vs p h2)
  | .dic _ _ _, _, p, _ => by simp [plain] at p
  | .st, _, p, _ => by simp [plain] at p
  | .scr _, _, p, _ => by simp [plain] at p
  | .exc _ _, _, p, _ => by simp [plain] at p
theorem rpL_dp : ∀ (ds : List D) (vs : List V), plainL ds = true → RpL Z H ds vs → DpAll Z.K H vs (toPyL ds)
  | [], vs, _, h => by rw [rpL_nil.mp h, toPyL]; exact DpAll.nil
  | d :: ds, vs, p, h => by
    obtain ⟨v, r, rfl, h1, h2⟩ := rpL_cons.mp h
    rw [plainL, Bool.and_eq_true] at p
    rw [toPyL]
    exact DpAll.cons (rp_dp d v p.1 h1) (rpL_dp ds r p.2 h2)
end
theorem vrp_dp {Hf : Hp} {d : D} {v : V} (s : Same Hf H) (p : plain d = true) (h : VRp Z Hf H d v) : Dp Z.K H v (toPy d) := by
  rcases h with h | ⟨a, rfl, h⟩
  · exact rp_dp d v p (Rp.mono s _ _ h)
  · cases d with
    | lst ds =>
      obtain ⟨vs, h1, h2⟩ := h
      rw [toPy]
      rw [plain] at p
      exact Dp.lst (SqL.of h1) (rpL_dp ds vs p (RpL.mono s _ _ h2))
    | dic _ _ _ => simp [plain] at p
    | _ => exact h.elim
end
/-- == of plain trees -/
def eqvD (d e : D) : Bool := PyData.eqv (toPy d) (toPy e)
def shapedD (d : D) : Bool := plain d && SeqAt.shaped (toPy d)
@[simp] def eqD : RD := fun d e k => shapedD d = true ∧ shapedD e = true ∧ k (.bl (eqvD d e))
@[simp] def neD : RD := fun d e k => shapedD d = true ∧ shapedD e = true ∧ k (.bl (!eqvD d e))
theorem op_eqDD {X : Cx} {Z : Wz} (hu : X.A.units + 64 < cLine) (hK : Z.K = X.K := by rfl) : OpD X Z (compareOp .Eq) eqD := by
  intro pins s σ H x y v u Q I rx ry h
  obtain ⟨Hf, d, e, k, sub, hx, hy, ⟨h1, h2, hr⟩, kk⟩ := h
  unfold shapedD at h1 h2
  rw [Bool.and_eq_true] at h1 h2
  have d1 := vrp_dp sub h1.1 hx
  have d2 := vrp_dp sub h2.1 hy
  rw [hK] at d1 d2
  exact op_eqD hu pins s σ H x y v u Q I rx ry ⟨_, _, d1, d2, h1.2, h2.2, kk _ H Hf _ (Grow.refl sub) (rp_bl.mpr rfl) hr⟩
theorem op_neDD {X : Cx} {Z : Wz} (hu : X.A.units + 64 < cLine) (hK : Z.K = X.K := by rfl) : OpD X Z (compareOp .NotEq) neD := by
  intro pins s σ H x y v u Q I rx ry h
  obtain ⟨Hf, d, e, k, sub, hx, hy, ⟨h1, h2, hr⟩, kk⟩ := h
  unfold shapedD at h1 h2
  rw [Bool.and_eq_true] at h1 h2
  have d1 := vrp_dp sub h1.1 hx
  have d2 := vrp_dp sub h2.1 hy
  rw [hK] at d1 d2
  exact op_neD hu pins s σ H x y v u Q I rx ry ⟨_, _, d1, d2, h1.2, h2.2, kk _ H Hf _ (Grow.refl sub) (rp_bl.mpr rfl) hr⟩

/-! ### order -/
/-- a tuple of ints -/
@[simp] def intsD : List D → Option (List Int)
  | [] => some []
  | .int i :: r => (intsD r).map (i :: ·)
  | _ :: _ => none
theorem intsD_rp {Z : Wz} {H : Hp} : ∀ {ds : List D} {ns : List Int} {vs : List V}, intsD ds = some ns → RpL Z H ds vs → vs = ns.map V.int
  | [], ns, vs, e, h => by cases e; rw [rpL_nil.mp h]; rfl
  | .int i :: r, ns, vs, e, h => by
    obtain ⟨v, w, rfl, h1, h2⟩ := rpL_cons.mp h
    rw [intsD] at e
    cases q : intsD r with
    | none => rw [q] at e; cases e
    | some m =>
      rw [q] at e
      cases e
      rw [rp_int.mp h1, intsD_rp q h2]
      rfl
  | .non :: _, _, _, e, _ => by simp [intsD] at e
  | .bl _ :: _, _, _, e, _ => by simp [intsD] at e
  | .str _ :: _, _, _, e, _ => by simp [intsD] at e
  | .tup _ :: _, _, _, e, _ => by simp [intsD] at e
  | .lst _ :: _, _, _, e, _ => by simp [intsD] at e
  | .dic _ _ _ :: _, _, _, e, _ => by simp [intsD] at e
  | .st :: _, _, _, e, _ => by simp [intsD] at e
  | .scr _ :: _, _, _, e, _ => by simp [intsD] at e
  | .exc _ _ :: _, _, _, e, _ => by simp [intsD] at e
def rGeT (K : PySem.W.Frag) : R2 := fun x y H Q => ∃ (a b : Addr) (ns ms : List Int), x = .ref a ∧ y = .ref b ∧ SqT K H a (ns.map V.int) ∧ SqT K H b (ms.map V.int) ∧
  Q (.bl (Ob.lexAt (fun j => decide (ns.getD j 0 = ms.getD j 0)) (fun j => decide (ms.getD j 0 ≤ ns.getD j 0)) (decide (ms.length ≤ ns.length)) 0 (min ns.length ms.length))) H
theorem op_geT {X : Cx} (hu : X.A.units < cLine) : OpR X (compareOp .GtE) (rGeT X.K) := by
  intro pins s σ H x y v u Q I rx ry h
  obtain ⟨a, b, ns, ms, rfl, rfl, ha, hb, q⟩ := h
  cases rx
  cases ry
  obtain ⟨its, r1, p1, _⟩ := I.tuple ha
  obtain ⟨its2, r2, p2, _⟩ := I.tuple hb
  have i1 : IntsAre its ns := Vals.ints r1
  have i2 : IntsAre its2 ms := Vals.ints r2
  have e1 : its.toArray.size = ns.length := by rw [List.size_toArray]; exact i1.length
  have e2 : its2.toArray.size = ms.length := by rw [List.size_toArray]; exact i2.length
  have at1 : ∀ j (h1 : j < its.toArray.size), ∃ t, its.toArray[j] = .int (ns.getD j 0) t := fun j h1 => PyProof.Rows.IntsAre.int_at i1 _ _ (by simp at h1; simp [h1])
  have at2 : ∀ j (h1 : j < its2.toArray.size), ∃ t, its2.toArray[j] = .int (ms.getD j 0) t := fun j h1 => PyProof.Rows.IntsAre.int_at i2 _ _ (by simp at h1; simp [h1])
  have R := Ob.RcOp.tuples_ge (A := X.A) (s := s) (e := fun j => decide (ns.getD j 0 = ms.getD j 0)) (r := fun j => decide (ms.getD j 0 ≤ ns.getD j 0)) p1 p2 hu (fun j h1 h2 => by
    obtain ⟨t, et⟩ := at1 j h1
    obtain ⟨t', et'⟩ := at2 j h2
    rw [et, et']
    have z : (ns.getD j 0 == ms.getD j 0) = decide (ns.getD j 0 = ms.getD j 0) := by
      by_cases q : ns.getD j 0 = ms.getD j 0
      · rw [decide_eq_true q]; exact beq_iff_eq.mpr q
      · rw [decide_eq_false q]; exact beq_eq_false_iff_ne.mpr q
    rw [← z]
    exact SeqAt.EqAt.int_int _ _ _ _) (fun j h1 h2 _ => by
    obtain ⟨t, et⟩ := at1 j h1
    obtain ⟨t', et'⟩ := at2 j h2
    rw [et, et']
    exact Ob.RcOp.ge_int _ _ _ _)
  rw [e1, e2] at R
  have z : wpAny (model X.prog X.w) X.A (compareOp .GtE (.ref a) (.ref b)) (EP X pins σ Q) X.xe s := R X.prog X.w X.xe (EP X pins σ Q) ⟨.bl _, H, I, rfl, q⟩
  exact z
/-- lexicographic >= of ints, as the machine reads it -/
def geI (ns ms : List Int) : Bool := Ob.lexAt (fun j => decide (ns.getD j 0 = ms.getD j 0)) (fun j => decide (ms.getD j 0 ≤ ns.getD j 0)) (decide (ms.length ≤ ns.length)) 0 (min ns.length ms.length)
theorem lexAt_shift (e r : Nat → Bool) (z : Bool) : ∀ (n i : Nat), Ob.lexAt e r z (i + 1) n = Ob.lexAt (fun j => e (j + 1)) (fun j => r (j + 1)) z i n
  | 0, i => rfl
  | n + 1, i => by
    rw [Ob.lexAt_succ, Ob.lexAt_succ, lexAt_shift e r z n (i + 1)]
theorem geI_eq : ∀ ns ms : List Int, geI ns ms = !HT.lexLt ns ms
  | [], [] => by simp [geI, Ob.lexAt_zero, HT.lexLt_nil_nil]
  | [], m :: ms => by simp [geI, Ob.lexAt_zero, HT.lexLt_nil_cons]
  | n :: ns, [] => by simp [geI, Ob.lexAt_zero, HT.lexLt_cons_nil]
  | n :: ns, m :: ms => by
    have ih := geI_eq ns ms
    unfold geI at ih ⊢
    rw [HT.lexLt_cons]
    have e : min (n :: ns).length (m :: ms).length = min ns.length ms.length + 1 := by
      rw [List.length_cons, List.length_cons]; omega
    rw [e, Ob.lexAt_succ, lexAt_shift]
    have el : decide ((m :: ms).length ≤ (n :: ns).length) = decide (ms.length ≤ ns.length) := by
      rw [List.length_cons, List.length_cons]
      exact decide_eq_decide.mpr (by omega)
    rw [el]
    by_cases h : n = m
    · rw [if_pos (by simpa using h), if_pos h, ← ih]
      rfl
    · rw [if_neg (by simpa using h), if_neg h]
      show decide (m ≤ n) = !decide (n < m)
      by_cases q : n < m
      · rw [decide_eq_true q, decide_eq_false (by omega)]; rfl
      · rw [decide_eq_false q, decide_eq_true (by omega)]; rfl
@[simp] def ltD : RD
  | .int i, .int j, k => k (.bl (decide (i < j)))
  | .str x, .str y, k => k (.bl (decide (x.cps.toList < y.cps.toList)))
  | .tup a, .tup b, k => match intsD a, intsD b with
    | some ns, some ms => k (.bl (HT.lexLt ns ms))
    | _, _ => False
  | _, _, _ => False
theorem op_ltD {X : Cx} {Z : Wz} (hu : X.A.units < cLine) (hK : Z.K = X.K := by rfl) : OpD X Z (compareOp .Lt) ltD := by
  intro pins s σ H x y v u Q I rx ry h
  obtain ⟨Hf, d, e, k, sub, hx, hy, hr, kk⟩ := h
  unfold ltD at hr
  split at hr
  · cases vrp_int hx
    cases vrp_int hy
    exact op_lt pins s σ H _ _ v u Q I rx ry ⟨_, _, rfl, rfl, kk _ H Hf _ (Grow.refl sub) (rp_bl.mpr rfl) hr⟩
  · cases vrp_str hx
    cases vrp_str hy
    exact op_lt_str pins s σ H _ _ v u Q I rx ry ⟨_, _, rfl, rfl, kk _ H Hf _ (Grow.refl sub) (rp_bl.mpr rfl) hr⟩
  · split at hr
    · rename_i ns ms e1 e2
      obtain ⟨p, vs, rfl, h1, r1, _⟩ := vrp_tup sub hx
      obtain ⟨q, ws, rfl, h2, r2, _⟩ := vrp_tup sub hy
      rw [intsD_rp e1 r1] at h1
      rw [intsD_rp e2 r2] at h2
      exact op_ltT hu pins s σ H _ _ v u Q I rx ry ⟨p, q, ns, ms, rfl, rfl, SqT.of h1, SqT.of h2, kk _ H Hf _ (Grow.refl sub) (rp_bl.mpr rfl) hr⟩
    · exact hr.elim
  · exact hr.elim
@[simp] def geD : RD
  | .int i, .int j, k => k (.bl (decide (j ≤ i)))
  | .tup a, .tup b, k => match intsD a, intsD b with
    | some ns, some ms => k (.bl (!HT.lexLt ns ms))
    | _, _ => False
  | _, _, _ => False
theorem op_geD {X : Cx} {Z : Wz} (hu : X.A.units < cLine) (hK : Z.K = X.K := by rfl) : OpD X Z (compareOp .GtE) geD := by
  intro pins s σ H x y v u Q I rx ry h
  obtain ⟨Hf, d, e, k, sub, hx, hy, hr, kk⟩ := h
  unfold geD at hr
  split at hr
  · cases vrp_int hx
    cases vrp_int hy
    exact op_ge pins s σ H _ _ v u Q I rx ry ⟨_, _, rfl, rfl, kk _ H Hf _ (Grow.refl sub) (rp_bl.mpr rfl) hr⟩
  · split at hr
    · rename_i ns ms e1 e2
      obtain ⟨p, vs, rfl, h1, r1, _⟩ := vrp_tup sub hx
      obtain ⟨q, ws, rfl, h2, r2, _⟩ := vrp_tup sub hy
      rw [intsD_rp e1 r1] at h1
      rw [intsD_rp e2 r2] at h2
      refine op_geT hu pins s σ H _ _ v u Q I rx ry ⟨p, q, ns, ms, rfl, rfl, SqT.of h1, SqT.of h2, kk _ H Hf _ (Grow.refl sub) (rp_bl.mpr rfl) ?_⟩
      have e := geI_eq ns ms
      unfold geI at e
      rw [e]
      exact hr
    · exact hr.elim
  · exact hr.elim
@[simp] def leD : RD := intRD (fun _ _ => True) fun i j => .bl (decide (i ≤ j))
@[simp] def gtD : RD := intRD (fun _ _ => True) fun i j => .bl (decide (j < i))
theorem op_leD {X : Cx} {Z : Wz} : OpD X Z (compareOp .LtE) leD := op_intD (rI_of0 op_le) fun _ _ => rfl
theorem op_gtD {X : Cx} {Z : Wz} : OpD X Z (compareOp .Gt) gtD := op_intD (rI_of0 op_gt) fun _ _ => rfl
/-- a is None, a is not None -/
def isN : D → Bool
  | .non => true
  | _ => false
theorem vrp_isN {Z : Wz} {Hf H : Hp} {d : D} {x : V} (h : VRp Z Hf H d x) : decide (x = .non) = isN d := by
  cases d with
  | non => rw [vrp_non h]; rfl
  | bl b => rw [vrp_bl h]; rfl
  | int i => rw [vrp_int h]; rfl
  | str y => rw [vrp_str h]; rfl
  | tup ds =>
    rcases h with h | ⟨_, rfl, h⟩
    · obtain ⟨a, vs, rfl, _⟩ := rp_tup.mp h; rfl
    · exact h.elim
  | lst ds =>
    rcases h with h | ⟨_, rfl, h⟩
    · obtain ⟨a, vs, rfl, _⟩ := rp_lst.mp h; rfl
    · rfl
  | dic t ks ds =>
    rcases h with h | ⟨_, rfl, h⟩
    · cases t with
      | false => obtain ⟨a, o, kvs, rfl, _⟩ := rp_dicK.mp h; rfl
      | true => obtain ⟨a, o, kvs, rfl, _⟩ := rp_dicT.mp h; rfl
    · rfl
  | st =>
    rcases h with h | ⟨_, rfl, h⟩
    · rw [rp_st.mp h]; rfl
    · exact h.elim
  | scr ns =>
    rcases h with h | ⟨_, rfl, h⟩
    · obtain ⟨a, rfl, _⟩ := rp_scr.mp h; rfl
    · exact h.elim
  | exc n as =>
    rcases h with h | ⟨_, rfl, h⟩
    · obtain ⟨a, C, dx, vs, rfl, _⟩ := rp_exc.mp h; rfl
    · exact h.elim
@[simp] def isD : RD
  | d, .non, k => k (.bl (isN d))
  | .bl a, .bl b, k => k (.bl (decide (a = b)))
  | _, _, _ => False
@[simp] def isNotD : RD
  | d, .non, k => k (.bl (!isN d))
  | .bl a, .bl b, k => k (.bl (!decide (a = b)))
  | _, _, _ => False
theorem op_isD {X : Cx} {Z : Wz} : OpD X Z (compareOp .Is) isD := by
  intro pins s σ H x y v u Q I rx ry h
  obtain ⟨Hf, d, e, k, sub, hx, hy, hr, kk⟩ := h
  unfold isD at hr
  split at hr
  · cases vrp_non hy
    refine op_isN pins s σ H _ _ v u Q I rx ry ⟨rfl, ?_⟩
    rw [vrp_isN hx]
    exact kk _ H Hf _ (Grow.refl sub) (rp_bl.mpr rfl) hr
  · cases vrp_bl hx
    cases vrp_bl hy
    exact op_is_bl pins s σ H _ _ v u Q I rx ry ⟨_, _, rfl, rfl, kk _ H Hf _ (Grow.refl sub) (rp_bl.mpr rfl) hr⟩
  · exact hr.elim
theorem op_isNotD {X : Cx} {Z : Wz} : OpD X Z (compareOp .IsNot) isNotD := by
  intro pins s σ H x y v u Q I rx ry h
  obtain ⟨Hf, d, e, k, sub, hx, hy, hr, kk⟩ := h
  unfold isNotD at hr
  split at hr
  · cases vrp_non hy
    refine op_notN pins s σ H _ _ v u Q I rx ry ⟨rfl, ?_⟩
    rw [vrp_isN hx]
    exact kk _ H Hf _ (Grow.refl sub) (rp_bl.mpr rfl) hr
  · cases vrp_bl hx
    cases vrp_bl hy
    exact op_isnot_bl pins s σ H _ _ v u Q I rx ry ⟨_, _, rfl, rfl, kk _ H Hf _ (Grow.refl sub) (rp_bl.mpr rfl) hr⟩
  · exact hr.elim
end DL
set_option Elab.async false
set_option linter.all false
set_option maxRecDepth 100000
set_option maxHeartbeats 4000000
/-! DL4: displays; what a slot alone holds, made, frozen and changed. -/
namespace DL
open PySem PySem.Spec PyProof.Rows L2

section
variable {Z : Wd} {H0 G0 : Hp} {σ : L2.St} {H Hf H' Hf' : Hp} {env : EnvD} {c : Nat}
theorem OwnRp.some {Z : Wz} {Hf H : Hp} {a : Addr} : ∀ {d : D}, OwnRp Z Hf H a d → ∃ o, H a = Option.some o
  | .lst _, ⟨_, h, _⟩ => ⟨_, h⟩
  | .dic false _ _, ⟨_, h, _⟩ => ⟨_, h⟩
  | .dic true _ _, ⟨_, h, _⟩ => ⟨_, h⟩
theorem OwnRp.at {Z : Wz} {Hf H H' : Hp} {a : Addr} (e : H' a = H a) : ∀ {d : D}, OwnRp Z Hf H a d → OwnRp Z Hf H' a d
  | .lst _, ⟨vs, h, r⟩ => ⟨vs, e.trans h, r⟩
  | .dic false _ _, ⟨kvs, h, r⟩ => ⟨kvs, e.trans h, r⟩
  | .dic true _ _, ⟨kvs, h, r⟩ => ⟨kvs, e.trans h, r⟩
/-- a place that is new -/
structure Fresh (Z : Wd) (H0 : Hp) (σ : L2.St) (Hf : Hp) (env : EnvD) (a : Addr) : Prop where
  h0 : H0 a = none
  hf : Hf a = none
  nt : ¬ Z.T a
  ns : ∀ (i : Nat) (e : D), env[i]? = some (Slot.own e) → σ[i]? ≠ some (some (.ref a))
theorem Sim.fresh (S : Sim Z H0 G0 σ H Hf env c) {a : Addr} (h : H a = none) : Fresh Z H0 σ Hf env a := by
  have nt : ¬ Z.T a := fun z => by
    obtain ⟨hs, z⟩ := z
    obtain ⟨_, _, _, _, a1, a2, a3, _⟩ := S.st hs
    rcases z with z | z | z
    · rw [z, a1] at h; cases h
    · rw [z, a2] at h; cases h
    · rw [z, a3] at h; cases h
  refine ⟨?_, S.sub.free h, nt, fun i e he hs => ?_⟩
  · cases q : H0 a with
    | none => rfl
    | some o =>
      rw [S.keep a o q (fun z => nt z.t)] at h
      cases h
  · obtain ⟨b, e1, _, _, _, o⟩ := S.own i e he
    rw [hs] at e1
    cases e1
    obtain ⟨u, eu⟩ := o.some
    rw [eu] at h
    cases h
/-- an untracked place of the standing part is filled -/
theorem Sim.freeze (S : Sim Z H0 G0 σ H Hf env c) {a : Addr} (f : Fresh Z H0 σ Hf env a) (o : HO) (nt : ∀ u, H a = some u → ¬ IsTab u) (no : ∀ ps, o ≠ .tbl ps) : Sim Z H0 G0 σ (upd H a o) (upd Hf a o) env c where
  sub := fun b u e => by
    by_cases hb : b = a
    · subst hb; rw [upd_same] at e ⊢; exact e
    · rw [upd_ne hb] at e ⊢; exact S.sub b u e
  g0 := S.g0.trans (same_upd f.hf)
  new := fun b h1 h2 => by
    by_cases hb : b = a
    · subst hb; exact .inl f.h0
    · rw [upd_ne hb] at h1; exact S.new b h1 h2
  keep := fun b u h n => by
    rw [upd_ne (ne_of_none h f.h0)]
    exact S.keep b u h n
  len := S.len
  val := fun i d h => let ⟨v, h1, h2⟩ := S.val i d h; ⟨v, h1, Rp.mono (same_upd f.hf) _ _ h2⟩
  own := fun i d h => by
    obtain ⟨b, h1, h2, h3, h4, h5⟩ := S.own i d h
    have nb : b ≠ a := fun z => f.ns i d h (by rw [h1, z])
    refine ⟨b, h1, by rw [upd_ne nb]; exact h2, h3, h4, ?_⟩
    have h6 : OwnRp Z.toWz Hf (upd H a o) b d := OwnRp.at (upd_ne nb) h5
    exact OwnRp.mono (Z := Z) (same_upd f.hf) KeepX.refl h4 h6
  inj := S.inj
  st := fun hs => (S.st hs).keep fun b hb u e => by
    rw [upd_ne (fun z => f.nt ⟨hs, by rw [← z]; exact hb⟩)]
    exact e
  stf := fun b s => by
    rw [upd_ne (fun z => f.nt (by rw [← z]; exact s.t))]
    exact S.stf b s
  tab := tabs_keep (fun b u e it => by rw [upd_ne (fun z => nt u (by rw [← z]; exact e) it)]; exact e) S.tab
  ntb := fun b ps e => by
    by_cases hb : b = a
    · subst hb; rw [upd_same] at e; cases e; exact absurd rfl (no ps)
    · rw [upd_ne hb] at e; exact S.ntb b ps e
/-- a new thing, outside the standing part -/
theorem Sim.laid (S : Sim Z H0 G0 σ H Hf env c) {a : Addr} (h : H a = none) (o : HO) : Sim Z H0 G0 σ (upd H a o) Hf env c where
  sub := S.sub.trans (same_upd h)
  g0 := S.g0
  new := S.new
  keep := fun b u e n => same_upd h b u (S.keep b u e n)
  len := S.len
  val := S.val
  own := fun i d e => by
    obtain ⟨b, h1, h2, h3, h4, h5⟩ := S.own i d e
    exact ⟨b, h1, h2, h3, h4, OwnRp.mono (Z := Z) (Same.refl _) (KeepX.of (same_upd h)) h4 h5⟩
  inj := S.inj
  st := fun hs => (S.st hs).keep fun b _ u e => same_upd h b u e
  stf := S.stf
  tab := S.tab.ext (same_upd h)
  ntb := S.ntb
/-- a fresh thing goes into a slot of its own -/
theorem Sim.setOwn (S : Sim Z H0 G0 σ H Hf env c) {a : Addr} {d : D} (f : Fresh Z H0 σ Hf env a) (r : OwnRp Z.toWz Hf H a d) (i : Nat) : Sim Z H0 G0 (σ.set i (some (.ref a))) H Hf (env.set i (.own d)) c where
  sub := S.sub
  g0 := S.g0
  new := S.new
  keep := S.keep
  len := by rw [List.length_set, List.length_set]; exact S.len
  val := fun j e h => by
    rw [List.getElem?_set] at h ⊢
    by_cases hj : i = j
    · rw [if_pos hj] at h
      split at h <;> cases h
    · rw [if_neg hj] at h ⊢
      exact S.val j e h
  own := fun j e h => by
    rw [List.getElem?_set] at h ⊢
    by_cases hj : i = j
    · rw [if_pos hj] at h ⊢
      have hl := S.len
      split at h
      · cases h
        rw [if_pos (by omega)]
        exact ⟨a, rfl, f.hf, f.h0, f.nt, r⟩
      · cases h
    · rw [if_neg hj] at h ⊢
      exact S.own j e h
  inj := fun j k e g b h1 h2 h3 h4 => by
    rw [List.getElem?_set] at h1 h2 h3 h4
    by_cases hj : i = j
    · by_cases hk : i = k
      · exact hj.symm.trans hk
      · rw [if_pos hj] at h3
        rw [if_neg hk] at h2 h4
        split at h3
        · cases h3
          exact absurd h4 (f.ns k g h2)
        · cases h3
    · by_cases hk : i = k
      · rw [if_neg hj] at h1 h3
        rw [if_pos hk] at h4
        split at h4
        · cases h4
          exact absurd h3 (f.ns j e h1)
        · cases h4
      · rw [if_neg hj] at h1 h3
        rw [if_neg hk] at h2 h4
        exact S.inj j k e g b h1 h2 h3 h4
  st := S.st
  stf := S.stf
  tab := S.tab
  ntb := S.ntb
/-- what a slot alone holds is changed -/
theorem Sim.change (S : Sim Z H0 G0 σ H Hf env c) {a : Addr} {d d' : D} {i : Nat} {o : HO} (hi : env[i]? = some (Slot.own d)) (hs : σ[i]? = some (some (.ref a))) (r : OwnRp Z.toWz Hf (upd H a o) a d') : Sim Z H0 G0 σ (upd H a o) Hf (env.set i (.own d')) c := by
  obtain ⟨a', e1, h2, h3, h4, h5⟩ := S.own i d hi
  rw [hs] at e1
  cases e1
  have hl : i < env.length := (List.getElem?_eq_some_iff.mp hi).1
  refine ⟨fun b u e => ?_, S.g0, S.new, fun b u e n => ?_, by rw [List.length_set]; exact S.len, fun j e h => ?_, fun j e h => ?_, fun j k e g b h1 h2 h3 h4 => ?_, fun hs => ?_, S.stf, tabs_keep (fun b u e it => ?_) S.tab, S.ntb⟩
  · rw [upd_ne (ne_of_none e h2)]; exact S.sub b u e
  · rw [upd_ne (ne_of_none e h3)]; exact S.keep b u e n
  · rw [List.getElem?_set] at h
    by_cases hj : i = j
    · rw [if_pos hj] at h
      split at h <;> cases h
    · rw [if_neg hj] at h
      exact S.val j e h
  · rw [List.getElem?_set] at h
    by_cases hj : i = j
    · subst hj
      rw [if_pos rfl, if_pos hl] at h
      cases h
      exact ⟨a, hs, h2, h3, h4, r⟩
    · rw [if_neg hj] at h
      obtain ⟨b, g1, g2, g3, g4, g5⟩ := S.own j e h
      have nb : b ≠ a := fun z => by
        subst z
        exact hj (S.inj i j d e b hi h hs g1)
      exact ⟨b, g1, g2, g3, g4, OwnRp.at (upd_ne nb) g5⟩
  · have own_of : ∀ (j : Nat) (e : D), (env.set i (Slot.own d'))[j]? = some (Slot.own e) → ∃ e', env[j]? = some (Slot.own e') := fun j e h => by
      rw [List.getElem?_set] at h
      by_cases hj : i = j
      · exact ⟨d, by rw [← hj]; exact hi⟩
      · rw [if_neg hj] at h
        exact ⟨e, h⟩
    obtain ⟨e', h1'⟩ := own_of j e h1
    obtain ⟨g', h2'⟩ := own_of k g h2
    exact S.inj j k e' g' b h1' h2' h3 h4
  · exact (S.st hs).keep fun b hb u e => by
      rw [upd_ne (fun z => h4 ⟨hs, by rw [← z]; exact hb⟩)]
      exact e
  · rw [upd_ne (fun z => OwnRp.ntab (by rw [← z]; exact e) h5 it)]
    exact e
/-- a slot's own thing stands from now on -/
theorem Sim.letGo (S : Sim Z H0 G0 σ H Hf env c) {a : Addr} {d : D} {i : Nat} (hi : env[i]? = some (Slot.own d)) (hs : σ[i]? = some (some (.ref a))) :
    Sim Z H0 G0 σ H Hf (env.set i .un) c ∧ Fresh Z H0 σ Hf (env.set i .un) a ∧ OwnRp Z.toWz Hf H a d := by
  obtain ⟨a', e1, h2, h3, h4, h5⟩ := S.own i d hi
  rw [hs] at e1
  cases e1
  refine ⟨S.drop i, ⟨h3, h2, h4, fun j e h z => ?_⟩, h5⟩
  rw [List.getElem?_set] at h
  by_cases hj : i = j
  · rw [if_pos hj] at h
    split at h <;> cases h
  · rw [if_neg hj] at h
    exact hj (S.inj i j d e a hi h hs z)
/-- the frozen form of a fresh thing -/
theorem own_rp {Z : Wz} {Hf H : Hp} {a : Addr} {d : D} {H' : Hp} (hf : Hf a = none) (r : OwnRp Z Hf H a d) (o : HO) (ho : (∃ vs, o = .lst vs ∧ H a = some (.lst vs)) ∨ (∃ od kvs, o = .frz od (.dK kvs) ∧ H a = some (.dK kvs)) ∨ ∃ od kvs, o = .frz od (.dT kvs) ∧ H a = some (.dT kvs)) : Rp Z (upd Hf a o) d (.ref a) := by
  have sm : Same Hf (upd Hf a o) := same_upd hf
  cases d with
  | lst ds =>
    obtain ⟨vs, h1, h2⟩ := r
    rcases ho with ⟨ws, rfl, e⟩ | ⟨od, kvs, rfl, e⟩ | ⟨od, kvs, rfl, e⟩
    · rw [h1] at e; cases e
      exact rp_lst.mpr ⟨a, vs, rfl, upd_same, RpL.mono sm _ _ h2⟩
    · rw [h1] at e; cases e
    · rw [h1] at e; cases e
  | dic t ks ds =>
    cases t with
    | false =>
      obtain ⟨kv, h1, h2, h3⟩ := r
      rcases ho with ⟨ws, rfl, e⟩ | ⟨od, kvs, rfl, e⟩ | ⟨od, kvs, rfl, e⟩
      · rw [h1] at e; cases e
      · rw [h1] at e; cases e
        exact rp_dicK.mpr ⟨a, od, kv, rfl, upd_same, h2, RpL.mono sm _ _ h3⟩
      · rw [h1] at e; cases e
    | true =>
      obtain ⟨kv, h1, h2, h3⟩ := r
      rcases ho with ⟨ws, rfl, e⟩ | ⟨od, kvs, rfl, e⟩ | ⟨od, kvs, rfl, e⟩
      · rw [h1] at e; cases e
      · rw [h1] at e; cases e
      · rw [h1] at e; cases e
        exact rp_dicT.mpr ⟨a, od, kv, rfl, upd_same, h2, RpL.mono sm _ _ h3⟩
  | _ => exact r.elim
end

theorem own_ntb {H : Hp} {a : Addr} {o : HO} (ho : (∃ vs, o = .lst vs ∧ H a = some (.lst vs)) ∨ (∃ od kvs, o = .frz od (.dK kvs) ∧ H a = some (.dK kvs)) ∨ ∃ od kvs, o = .frz od (.dT kvs) ∧ H a = some (.dT kvs)) : ∀ ps, o ≠ .tbl ps := fun ps z => by
  subst z
  rcases ho with ⟨ws, e, _⟩ | ⟨od, kvs, e, _⟩ | ⟨od, kvs, e, _⟩ <;> cases e
/-! ### fresh things -/
def liftO (F : Fd) (t : TED) : TE := fun σ H Q => ∃ (Hf : Hp) (env : EnvD) (c : Nat) (Wd : WD) (Qd : D → Nat → Prop), Sim F.Z F.H0 F.G0 σ H Hf env c ∧ XL F σ env Wd ∧ t env c Wd Qd ∧
  ∀ (a : Addr) (H' Hf' : Hp) (c' : Nat) (d : D), Sim F.Z F.H0 F.G0 σ H' Hf' env c' → Same Hf Hf' → Keep F.Z H H' → Fresh F.Z F.H0 σ Hf' env a → (∀ o, Keep F.Z H (upd H' a o)) → OwnRp F.Z.toWz Hf' H' a d → Qd d c' → Q (.ref a) H'
abbrev DO (X : Cx) (F : Fd) (e : Expr) (t : TED) : Prop := PE X e (liftO F t)
/-- a thing is locked as soon as it is made -/
def tFreeze (te : TE) : TE := fun σ H Q => te σ H fun v H' => ∃ (a : Addr) (u : HO), v = .ref a ∧ H' a = some u ∧ ((∃ vs, u = .lst vs ∧ Q v (upd H' a u)) ∨ ((∃ kvs, u = .dK kvs) ∨ ∃ kvs, u = .dT kvs) ∧ ∀ od, Q v (upd H' a (.frz od u)))
theorem upd_id {H : Hp} {a : Addr} {o : HO} (h : H a = some o) : upd H a o = H := by
  funext b
  by_cases e : b = a
  · subst e; rw [upd_same, h]
  · rw [upd_ne e]
theorem pe_freeze {X : Cx} {e : Expr} {te : TE} (h : PE X e te) : PE X e (tFreeze te) := ⟨fun pins s σ H Q I q => thn (h.run pins s σ H _ I q) fun u s1 ⟨v, H1, I1, r, a, o, e1, e2, k⟩ => by
  rcases k with ⟨vs, e3, k⟩ | ⟨m, k⟩
  · refine ⟨v, _, ?_, r, k⟩
    rw [upd_id e2]
    exact I1
  · obtain ⟨od, I2⟩ := I1.lock e2 (by rcases m with ⟨kvs, rfl⟩ | ⟨kvs, rfl⟩ <;> trivial)
    exact ⟨v, _, I2, r, k od⟩⟩
theorem DE.of {X : Cx} {F : Fd} {e : Expr} {t : TED} (h : DO X F e t) : DE X F e t := PE.imp (pe_freeze h) fun σ H Q ⟨Hf, env, c, Wd, Qd, S, x, ht, k⟩ =>
  ⟨Hf, env, c, Wd, _, S, x, ht, fun a H' Hf' c' d S' s1 k1 f hn r q => by
    have fin : ∀ o : HO, ((∃ vs, o = .lst vs ∧ H' a = some (.lst vs)) ∨ (∃ od kvs, o = .frz od (.dK kvs) ∧ H' a = some (.dK kvs)) ∨ ∃ od kvs, o = .frz od (.dT kvs) ∧ H' a = some (.dT kvs)) → Q (.ref a) (upd H' a o) := fun o ho =>
      k (.ref a) _ _ c' d (S'.freeze f o (fun u hu => OwnRp.ntab hu r) (own_ntb ho)) (s1.trans (same_upd f.hf)) (hn o) (own_rp (H' := H') f.hf r o ho) q
    cases d with
    | lst ds =>
      obtain ⟨vs, h1, _⟩ := id r
      exact ⟨a, _, rfl, h1, .inl ⟨vs, rfl, fin _ (.inl ⟨vs, rfl, h1⟩)⟩⟩
    | dic t ks ds =>
      cases t with
      | false =>
        obtain ⟨kvs, h1, _⟩ := id r
        exact ⟨a, _, rfl, h1, .inr ⟨.inl ⟨kvs, rfl⟩, fun od => fin _ (.inr (.inl ⟨od, kvs, rfl, h1⟩))⟩⟩
      | true =>
        obtain ⟨kvs, h1, _⟩ := id r
        exact ⟨a, _, rfl, h1, .inr ⟨.inr ⟨kvs, rfl⟩, fun od => fin _ (.inr (.inr ⟨od, kvs, rfl, h1⟩))⟩⟩
    | _ => exact r.elim⟩

/-! ### displays -/
section
variable {X : Cx} {F : Fd} {e : Expr} {es : List Expr} {pos : Pos} {t : TAD} {te : TED}
theorem le1000 {n : Nat} (h : n ≤ 1000) : n ≤ sizeLine := Nat.le_of_lt (small1000 h)
@[simp] def tTupD (t : TAD) : TED := fun env c W Q => t env c W fun ds c1 => ds.length ≤ 1000 ∧ Q (.tup ds) c1
theorem de_tup {k : Nat} (h : DA X F es t) : DE X F (.Tuple es k pos) (tTupD t) := PE.imp (pe_tup h) fun σ H Q ⟨Hf, env, c, Wd, Qd, S, x, ht, k⟩ =>
  ⟨Hf, env, c, Wd, _, S, x, ht, fun vs H' Hf' c' ds S' s1 k1 r ⟨hl, q⟩ => ⟨by rw [← r.length]; exact le1000 hl, fun p hp => by
    obtain ⟨g, rp⟩ := new_tup S'.sub hp r
    exact k _ _ _ c' _ (S'.grow g) (s1.trans g.hf) (k1.trans (Keep.of g.h)) rp q⟩⟩
@[simp] def tLstD (t : TAD) : TED := fun env c W Q => t env c W fun ds c1 => ds.length ≤ 1000 ∧ Q (.lst ds) c1
theorem do_lst (h : DA X F es t) : DO X F (.List es pos) (tLstD t) := PE.imp (pe_lst h) fun σ H Q ⟨Hf, env, c, Wd, Qd, S, x, ht, k⟩ =>
  ⟨Hf, env, c, Wd, _, S, x, ht, fun vs H' Hf' c' ds S' s1 k1 r ⟨hl, q⟩ => ⟨by rw [← r.length]; exact le1000 hl, fun p hp => by
    have f := S'.fresh hp
    exact k p _ _ c' (.lst ds) (S'.laid hp _) s1 (k1.trans (Keep.of (same_upd hp))) f (k1.upd hp (Keep.of (same_upd hp))) ⟨vs, upd_same, r⟩ q⟩⟩
theorem de_lst (h : DA X F es t) : DE X F (.List es pos) (tLstD t) := DE.of (do_lst h)
/-- {}, its keys will be ints and texts (K) or tuples of these (T) -/
theorem do_dictK : DO X F (.Dict [] [] pos) (tCD (.dic false [] [])) := PE.imp pe_dnewK fun σ H Q ⟨Hf, env, c, Wd, Qd, S, x, ht, k⟩ p hp => by
  have f := S.fresh hp
  exact k p _ Hf c (.dic false [] []) (S.laid hp _) (Same.refl _) (Keep.of (same_upd hp)) f (Keep.refl.upd hp (Keep.of (same_upd hp))) ⟨[], upd_same, rfl, RpL.nil⟩ ht
theorem do_dictT : DO X F (.Dict [] [] pos) (tCD (.dic true [] [])) := PE.imp pe_dnewT fun σ H Q ⟨Hf, env, c, Wd, Qd, S, x, ht, k⟩ p hp => by
  have f := S.fresh hp
  exact k p _ Hf c (.dic true [] []) (S.laid hp _) (Same.refl _) (Keep.of (same_upd hp)) f (Keep.refl.upd hp (Keep.of (same_upd hp))) ⟨[], upd_same, rfl, RpL.nil⟩ ht
theorem de_dictK : DE X F (.Dict [] [] pos) (tCD (.dic false [] [])) := DE.of do_dictK
theorem de_dictT : DE X F (.Dict [] [] pos) (tCD (.dic true [] [])) := DE.of do_dictT

/-! ### a slot of its own -/
@[simp] def tSetO (i : Nat) (t : TED) : TSD := fun D env c => t env c (fun d c1 => D.ex d env c1) fun d c1 => D.nx (env.set i (.own d)) c1
theorem ds_setO (i : Nat) {x : Str} {p : Pos} (hN : X.N.Nodup) (he : DO X F e te) (hi : X.N[i]? = some x := by rfl) (hx : Loc X.env.scope x := by first | exact Or.inl rfl | exact Or.inr rfl) (hs : swapsWith e (some (.Name x p)) pos.line X.env = pure false := by rfl)
    (hf : X.fn x = true ∨ X.env.scope.names.lookup x = some .local := by first | exact .inl rfl | exact .inr rfl) : DS X F (.Assign [.Name x p] e pos) (tSetO i te) :=
  PS.imp (ps_set hN hi hx he hs hf) fun D σ H ⟨Hf, env, c, Dd, S, L, h⟩ => ⟨Hf, env, c, _, _, S, L.xl σ env, h, fun a H' Hf' c' d S' s1 _ f _ r q => L.nx _ H' Hf' _ c' (S'.setOwn f r i) s1 q⟩
/-- xs.append(e), xs in a slot of its own -/
@[simp] def tAppD (i : Nat) (t : TED) : TSD := fun D env c => match env[i]? with
  | some (.own (.lst ds)) => t env c (fun d c1 => D.ex d env c1) fun d c1 => ds.length < sizeLine ∧ D.nx (env.set i (.own (.lst (ds ++ [d])))) c1
  | _ => False
theorem ds_append (i : Nat) {x : Str} {p apos cpos : Pos} (he : DE X F e te)
    (hbm : DE X F e te → PE X (.Call (.Attribute (.Name x p) "append" apos) [e] [] cpos) (tBM X.K "list" rAppend (tVar i) (tCons (liftE F te) tNil)))
    (hs : swapsWith (.Call (.Attribute (.Name x p) "append" apos) [e] [] cpos) none pos.line X.env = pure false := by rfl) :
    DS X F (.Expr (.Call (.Attribute (.Name x p) "append" apos) [e] [] cpos) pos) (tAppD i te) := PS.imp (ps_expr (hbm he) hs) fun D σ H ⟨Hf, env, c, Dd, S, L, h⟩ => by
  unfold tAppD at h
  split at h
  · rename_i ds0 e0
    obtain ⟨a, e1, h2, h3, h4, vs, e5, r5⟩ := S.own i _ e0
    refine ⟨.ref a, e1, .inl ⟨rfl, vs, SqL.of e5⟩, Hf, env, c, _, _, S, L.xl σ env, h, fun v H' Hf' c' d S' s1 k1 r q => ?_⟩
    obtain ⟨hl, q⟩ := q
    obtain ⟨a', g1, g2, g3, g4, ws, g5, q5⟩ := S'.own i _ e0
    rw [e1] at g1
    cases g1
    refine ⟨a, ws, v, rfl, rfl, g5, by rw [← q5.length]; exact hl, ?_⟩
    exact L.nx σ _ Hf' _ c' (S'.change (d' := .lst (ds0 ++ [d])) e0 e1 ⟨_, upd_same, q5.append (RpL.cons r RpL.nil)⟩) s1 q
  · exact h.elim
end
end DL
set_option Elab.async false
set_option linter.all false
set_option maxRecDepth 100000
set_option maxHeartbeats 4000000
/-! DL5: subscripts, slices, truth, in, built-ins. -/
namespace DL
open PySem PySem.Spec PyProof.Rows L2

/-! ### keys -/
@[simp] def keyD : D → Option Key
  | .int i => some (.inl i)
  | .str x => some (.inr x)
  | _ => none
@[simp] def keysD : List D → Option (List Key)
  | [] => some []
  | d :: r => match keyD d, keysD r with
    | some k, some ks => some (k :: ks)
    | _, _ => none
theorem keyD_kD (k : Key) : keyD (kD k) = some k := by cases k <;> rfl
theorem kD_of {d : D} {k : Key} (h : keyD d = some k) : d = kD k := by
  cases d <;> simp [keyD] at h <;> subst h <;> rfl
theorem keysD_kD : ∀ ks : List Key, keysD (ks.map kD) = some ks
  | [] => rfl
  | k :: r => by
    show keysD (kD k :: r.map kD) = _
    unfold keysD
    rw [keyD_kD, keysD_kD r]
theorem kDs_of : ∀ {ds : List D} {ks : List Key}, keysD ds = some ks → ds = ks.map kD
  | [], _, h => by cases h; rfl
  | d :: r, _, h => by
    unfold keysD at h
    cases e1 : keyD d with
    | none => rw [e1] at h; simp at h
    | some k =>
      cases e2 : keysD r with
      | none => rw [e1, e2] at h; simp at h
      | some ks =>
        rw [e1, e2] at h
        simp at h
        subst h
        rw [kD_of e1, kDs_of e2]
        rfl
theorem kD_inj {a b : Key} (h : kD a = kD b) : a = b := by
  have e := congrArg keyD h
  rw [keyD_kD, keyD_kD] at e
  exact Option.some.inj e
theorem kDs_inj {a b : List Key} (h : a.map kD = b.map kD) : a = b := by
  have e := congrArg keysD h
  rw [keysD_kD, keysD_kD] at e
  exact Option.some.inj e
theorem rp_kD {Z : Wz} {H : Hp} {k : Key} {v : V} (h : Rp Z H (kD k) v) : v = kV k := by
  cases k with
  | inl i => exact rp_int.mp h
  | inr x => exact rp_str.mp h
theorem rpL_kD {Z : Wz} {H : Hp} : ∀ {ks : List Key} {vs : List V}, RpL Z H (ks.map kD) vs → vs = ks.map kV
  | [], _, h => rpL_nil.mp h
  | k :: r, _, h => by
    obtain ⟨v, w, rfl, h1, h2⟩ := rpL_cons.mp h
    rw [rp_kD h1, rpL_kD h2]
    rfl
open Classical in
/-- a dict's entry -/
noncomputable def lookD : List D → List D → D → Option D
  | k :: ks, v :: vs, d => if k = d then some v else lookD ks vs d
  | _, _, _ => none
section
variable {Z : Wz} {Hf H : Hp}
theorem look_val {κ : Type} [DecidableEq κ] (f : κ → D) (hf : ∀ a b, f a = f b → a = b) (k : κ) : ∀ {kvs : List (κ × V)} {vs : List D}, RpL Z H vs (kvs.map (fun p => p.2)) →
    match lookD (kvs.map (fun p => f p.1)) vs (f k) with
    | some d => ∃ v, valV kvs k = some v ∧ Rp Z H d v
    | none => valV kvs k = none
  | [], vs, h => by
    simp [lookD, valV_nil]
  | (k0, v0) :: r, vs, h => by
    cases vs with
    | nil => have e := h.length; simp at e
    | cons d ds =>
      obtain ⟨v, w, e, h1, h2⟩ := rpL_cons.mp h
      cases e
      by_cases q : k0 = k
      · subst q
        simp only [List.map_cons, lookD, if_pos]
        exact ⟨v0, valV_pos rfl, h1⟩
      · have nq : ¬ f k0 = f k := fun z => q (hf _ _ z)
        simp only [List.map_cons, lookD, if_neg nq]
        rw [valV_neg (p := (k0, v0)) q]
        exact look_val f hf k h2
/-- a dict that is read: kept and locked, or a slot's own -/
theorem vrp_dicK {ks vs : List D} {x : V} (s : Same Hf H) (h : VRp Z Hf H (.dic false ks vs) x) : ∃ (a : Addr) (kvs : List (Key × V)), x = .ref a ∧ Rd H a (.dK kvs) ∧ ks = kvs.map (fun p => kD p.1) ∧ RpL Z Hf vs (kvs.map (fun p => p.2)) := by
  rcases h with h | ⟨a, e, kvs, h1, h2, h3⟩
  · obtain ⟨a, o, kvs, e, h1, h2, h3⟩ := rp_dicK.mp h
    exact ⟨a, kvs, e, .inr ⟨o, s _ _ h1⟩, h2, h3⟩
  · exact ⟨a, kvs, e, .inl h1, h2, h3⟩
theorem vrp_dicT {ks vs : List D} {x : V} (s : Same Hf H) (h : VRp Z Hf H (.dic true ks vs) x) : ∃ (a : Addr) (kvs : List (List Key × V)), x = .ref a ∧ Rd H a (.dT kvs) ∧ ks = kvs.map (fun p => D.tup (p.1.map kD)) ∧ RpL Z Hf vs (kvs.map (fun p => p.2)) := by
  rcases h with h | ⟨a, e, kvs, h1, h2, h3⟩
  · obtain ⟨a, o, kvs, e, h1, h2, h3⟩ := rp_dicT.mp h
    exact ⟨a, kvs, e, .inr ⟨o, s _ _ h1⟩, h2, h3⟩
  · exact ⟨a, kvs, e, .inl h1, h2, h3⟩
/-- does the key fit the dict's kind -/
def keyFits : Bool → D → Prop
  | false, d => ∃ k, keyD d = some k
  | true, .tup ds => ∃ ks, keysD ds = some ks
  | true, _ => False
theorem isD_of {t : Bool} {ks vs : List D} {x : V} (s : Same Hf H) (h : VRp Z Hf H (.dic t ks vs) x) : ∃ a, x = .ref a ∧ IsD H a := by
  cases t with
  | false => obtain ⟨a, kvs, e, h1, _⟩ := vrp_dicK s h; exact ⟨a, e, .inl ⟨kvs, h1⟩⟩
  | true => obtain ⟨a, kvs, e, h1, _⟩ := vrp_dicT s h; exact ⟨a, e, .inr ⟨kvs, h1⟩⟩
theorem look_get {t : Bool} {ks vs : List D} {x y : V} {d : D} (s : Same Hf H) (h : VRp Z Hf H (.dic t ks vs) x) (hk : keyFits t d) (hd : VRp Z Hf H d y) :
    ∃ (a : Addr), x = .ref a ∧ (match lookD ks vs d with
    | some e => ∃ v, DGet H a y (some v) ∧ Rp Z Hf e v
    | none => DGet H a y none) := by
  cases t with
  | false =>
    obtain ⟨a, kvs, e, h1, rfl, h3⟩ := vrp_dicK s h
    obtain ⟨k, hk⟩ := hk
    have ed := kD_of hk
    subst ed
    have ey : y = kV k := by
      rcases hd with hd | ⟨_, _, hd⟩
      · exact rp_kD hd
      · cases k <;> exact hd.elim
    subst ey
    refine ⟨a, e, ?_⟩
    have lv := look_val kD (fun a b => kD_inj) k h3
    have g : DGet H a (kV k) (valV kvs k) := .inl ⟨kvs, k, h1, rfl, rfl⟩
    split at lv
    · rename_i d' q
      obtain ⟨v, e1, e2⟩ := lv
      exact ⟨v, by rw [← e1]; exact g, e2⟩
    · rename_i q
      rw [lv] at g
      exact g
  | true =>
    obtain ⟨a, kvs, e, h1, rfl, h3⟩ := vrp_dicT s h
    cases d with
    | tup ds =>
      obtain ⟨k, hk⟩ := hk
      have ed := kDs_of hk
      subst ed
      obtain ⟨b, ws, ey, hb, rb, _⟩ := vrp_tup s hd
      subst ey
      rw [rpL_kD rb] at hb
      refine ⟨a, e, ?_⟩
      have lv := look_val (fun k : List Key => D.tup (k.map kD)) (fun a b z => kDs_inj (D.tup.inj z)) k h3
      have g : DGet H a (.ref b) (valV kvs k) := .inr ⟨kvs, k, b, h1, rfl, hb, rfl⟩
      split at lv
      · rename_i d' q
        obtain ⟨v, e1, e2⟩ := lv
        exact ⟨v, by rw [← e1]; exact g, e2⟩
      · rename_i q
        rw [lv] at g
        exact g
    | _ => exact hk.elim
end

/-! ### a[b] -/
theorem ix_dict {X : Cx} (hu : X.A.units + 1 < cLine) : IxR X (fun x y H Q => ∃ a v, x = .ref a ∧ DGet H a y (some v) ∧ Q v H) := by
  intro value slice pins s σ H x y v u Q I rx ry h hs
  obtain ⟨a, w, rfl, g, q⟩ := h
  cases rx
  exact tail_any (dict_typeIs I g) PySem.F.slot_dict_getitem.lookup (d_getItem hu I g ry fun w' s' I' r' => ⟨w, H, I', r', q⟩) hs
@[simp] def ixD : RD
  | .lst ds, .int i, k => match atI ds i with
    | some d => k d
    | none => False
  | .tup ds, .int i, k => match atI ds i with
    | some d => k d
    | none => False
  | .str x, .int i, k => x.length ≤ sizeLine ∧ match atI x.cps.toList i with
    | some c => k (.str ⟨#[c]⟩)
    | none => False
  | .dic t ks vs, d, k => keyFits t d ∧ match lookD ks vs d with
    | some e => k e
    | none => False
  | _, _, _ => False
theorem atI_rp {Z : Wz} {H : Hp} {ds : List D} {vs : List V} {i : Int} {d : D} (r : RpL Z H ds vs) (h : atI ds i = some d) : ∃ v, atI vs i = some v ∧ Rp Z H d v := by
  unfold atI at h ⊢
  rw [← r.length]
  cases e : ixN ds.length i with
  | none => rw [e] at h; simp at h
  | some j =>
    rw [e] at h
    obtain ⟨v, e1, e2⟩ := r.get (show ds[j]? = some d from h)
    exact ⟨v, e1, e2⟩
theorem ix_D {X : Cx} {Z : Wz} (hu : X.A.units + 1 < cLine) : IxR X (liftR Z ixD) := by
  intro value slice pins s σ H x y v u Q I rx ry h hs
  obtain ⟨Hf, d, e, k, sub, hx, hy, hr, kk⟩ := h
  unfold ixD at hr
  split at hr
  · cases vrp_int hy
    obtain ⟨p, vs, rfl, h1, r1⟩ := vrp_lst sub hx
    split at hr
    · rename_i w q
      obtain ⟨z, e1, e2⟩ := atI_rp r1 q
      exact ix_list value slice pins s σ H _ _ v u Q I rx ry ⟨p, vs, _, z, rfl, rfl, SqL.of h1, e1, kk z H Hf w (Grow.refl sub) e2 hr⟩ hs
    · exact hr.elim
  · cases vrp_int hy
    obtain ⟨p, vs, rfl, h1, r1, _⟩ := vrp_tup sub hx
    split at hr
    · rename_i w q
      obtain ⟨z, e1, e2⟩ := atI_rp r1 q
      exact ix_tup value slice pins s σ H _ _ v u Q I rx ry ⟨p, vs, _, z, rfl, rfl, SqT.of h1, e1, kk z H Hf w (Grow.refl sub) e2 hr⟩ hs
    · exact hr.elim
  · cases vrp_str hx
    cases vrp_int hy
    obtain ⟨hl, hr⟩ := hr
    split at hr
    · rename_i w q
      exact ix_str value slice pins s σ H _ _ v u Q I rx ry ⟨_, _, w, rfl, rfl, hl, q, kk _ H Hf _ (Grow.refl sub) (rp_str.mpr rfl) hr⟩ hs
    · exact hr.elim
  · obtain ⟨hf, hr⟩ := hr
    obtain ⟨a, e1, g⟩ := look_get sub hx hf hy
    split at hr
    · rename_i w q
      rw [q] at g
      obtain ⟨z, g, r⟩ := g
      exact ix_dict hu value slice pins s σ H _ _ v u Q I rx ry ⟨a, z, e1, g, kk z H Hf w (Grow.refl sub) r hr⟩ hs
    · exact hr.elim
  · exact hr.elim
section
variable {X : Cx} {F : Fd} {a b e : Expr} {pos : Pos} {ta tb te : TED}
theorem de_ix (hu : X.A.units + 1 < cLine) (ha : DB X F a ta) (hb : DB X F b tb) (hs : PlainIx b := by intro _ _; rfl) : DE X F (.Subscript a b pos) (tOpD ixD ta tb) :=
  PE.imp (pe_ix (ix_D hu) ha hb hs) fun σ H Q h => op_use h

/-! ### a[lo:hi] -/
def cutD (ds : List D) (lo hi : Option Int) : List D := (ds.drop (HT.sIx ds.length 0 lo)).take (HT.sIx ds.length ds.length hi - HT.sIx ds.length 0 lo)
abbrev TOD := EnvD → Nat → WD → (Option Int → Nat → Prop) → Prop
@[simp] def tNoPartD : TOD := fun _ c _ Q => Q none c
@[simp] def tPartD (t : TED) : TOD := fun env c W Q => t env c W fun d c1 => match d with
  | .int i => Q (some i) c1
  | _ => False
def liftPO (F : Fd) (t : TOD) : TO := fun σ H Q => ∃ (Hf : Hp) (env : EnvD) (c : Nat) (Wd : WD) (Qd : Option Int → Nat → Prop), Sim F.Z F.H0 F.G0 σ H Hf env c ∧ XL F σ env Wd ∧ t env c Wd Qd ∧
  ∀ (b : Option Int) (H' Hf' : Hp) (c' : Nat), Sim F.Z F.H0 F.G0 σ H' Hf' env c' → Same Hf Hf' → Keep F.Z H H' → Qd b c' → Q b H'
abbrev DPO (X : Cx) (F : Fd) (e : Option Expr) (t : TOD) : Prop := PO X e (liftPO F t)
theorem PO.imp {e : Option Expr} {t t' : TO} (h : PO X e t) (i : ∀ σ H Q, t' σ H Q → t σ H Q) : PO X e t' := ⟨fun pins s σ H Q I q => h.run pins s σ H Q I (i σ H Q q)⟩
theorem dpo_none : DPO X F none tNoPartD := PO.imp po_none fun σ H Q ⟨Hf, env, c, Wd, Qd, S, x, ht, k⟩ => k none H Hf c S (Same.refl _) Keep.refl ht
theorem dpo_some (h : DE X F e te) : DPO X F (some e) (tPartD te) := PO.imp (po_some h) fun σ H Q ⟨Hf, env, c, Wd, Qd, S, x, ht, k⟩ =>
  ⟨Hf, env, c, Wd, _, S, x, ht, fun v H1 Hf1 c1 d S1 s1 k1 r1 q1 => by
    cases d with
    | int i => exact ⟨i, rp_int.mp r1, k (some i) H1 Hf1 c1 S1 s1 k1 q1⟩
    | _ => exact q1.elim⟩
end
end DL
set_option Elab.async false
set_option linter.all false
set_option maxRecDepth 100000
set_option maxHeartbeats 4000000
/-! DL6: slices, truth, in, built-ins by name. -/
namespace DL
open PySem PySem.Spec PyProof.Rows L2

section
variable {Z : Wz} {Hf H : Hp}
theorem RpL.cut {ds : List D} {vs : List V} (r : RpL Z H ds vs) (lo hi : Option Int) : RpL Z H (cutD ds lo hi) (cutV vs lo hi) := by
  unfold cutD cutV
  rw [r.length]
  exact (r.drop _).take _
theorem cutD_whole {ds : List D} {lo hi : Option Int} (h : HT.sIx ds.length 0 lo = 0 ∧ HT.sIx ds.length ds.length hi = ds.length) : cutD ds lo hi = ds := by
  unfold cutD
  rw [h.1, h.2, List.drop_zero, Nat.sub_zero, List.take_length]
end
@[simp] def slD (d : D) (lo hi : Option Int) (k : D → Prop) : Prop := match d with
  | .lst ds => k (.lst (cutD ds lo hi))
  | .tup ds => k (.tup (cutD ds lo hi))
  | .str x => x.length ≤ sizeLine ∧ k (.str (cutS x lo hi))
  | _ => False
def liftSl (Z : Wz) (r : D → Option Int → Option Int → (D → Prop) → Prop) : V → Option Int → Option Int → Hp → VK → Prop := fun x lo hi H Q =>
  ∃ (Hf : Hp) (d : D) (k : D → Prop), Same Hf H ∧ VRp Z Hf H d x ∧ r d lo hi k ∧ ∀ (z : V) (H' Hf' : Hp) (g : D), Grow Hf H Hf' H' → Rp Z Hf' g z → k g → Q z H'
theorem sl_D {X : Cx} {Z : Wz} : SlR X (liftSl Z slD) := by
  intro pins s σ H x v vl vu lo hi sl Q I rx hs pl pu h
  obtain ⟨Hf, d, k, sub, hx, hr, kk⟩ := h
  cases d with
  | lst ds =>
    obtain ⟨p, vs, rfl, h1, r1⟩ := vrp_lst sub hx
    refine sl_list pins s σ H _ v vl vu lo hi sl Q I rx hs pl pu ⟨p, vs, rfl, SqL.of h1, fun n hn => ?_⟩
    obtain ⟨g, r⟩ := new_lst sub hn (r1.cut lo hi)
    exact kk _ _ _ _ g r hr
  | tup ds =>
    obtain ⟨p, vs, rfl, h1, r1, w1⟩ := vrp_tup sub hx
    refine sl_tupA pins s σ H _ v vl vu lo hi sl Q I rx hs pl pu ⟨p, vs, rfl, SqT.of h1, fun hw => ?_, fun _ n hn => ?_⟩
    · rw [← r1.length] at hw
      have e : slD (.tup ds) lo hi k = k (.tup (cutD ds lo hi)) := rfl
      rw [e, cutD_whole hw] at hr
      exact kk _ H Hf _ (Grow.refl sub) w1 hr
    · obtain ⟨g, r⟩ := new_tup sub hn (r1.cut lo hi)
      exact kk _ _ _ _ g r hr
  | str y =>
    cases vrp_str hx
    exact sl_str pins s σ H _ v vl vu lo hi sl Q I rx hs pl pu ⟨y, rfl, hr.1, kk _ H Hf _ (Grow.refl sub) (rp_str.mpr rfl) hr.2⟩
  | _ => exact hr.elim

section
variable {X : Cx} {F : Fd} {a b e : Expr} {es : List Expr} {pos : Pos} {ta tb te : TED}
@[simp] def tSlD (te : TED) (tl th : TOD) : TED := fun env c W Q => te env c W fun d c1 => tl env c1 W fun lo c2 => th env c2 W fun hi c3 => slD d lo hi fun g => Q g c3
theorem de_slice {lo hi : Option Expr} {tl th : TOD} {p2 : Pos} (he : DB X F e te) (hl : DPO X F lo tl) (hh : DPO X F hi th) : DE X F (.Subscript e (.Slice lo hi none p2) pos) (tSlD te tl th) :=
  PE.imp (pe_slice (sl_D (Z := F.Z.toWz)) he hl hh) fun σ H Q ⟨Hf, env, c, Wd, Qd, S, x, ht, k⟩ => by
    refine ⟨Hf, env, c, Wd, _, S, x, ht, fun v H1 Hf1 c1 d S1 s1 k1 r1 q1 => ?_⟩
    refine ⟨Hf1, env, c1, Wd, _, S1, x, q1, fun l H2 Hf2 c2 S2 s2 k2 q2 => ?_⟩
    refine ⟨Hf2, env, c2, Wd, _, S2, x, q2, fun h H3 Hf3 c3 S3 s3 k3 q3 => ?_⟩
    refine ⟨Hf3, d, _, S3.sub, (BRp.mono (s2.trans s3) r1).at S3, q3, fun z H' Hf' g gr rp q4 => ?_⟩
    exact k z H' Hf' c3 g (S3.grow gr) (((s1.trans s2).trans s3).trans gr.hf) (((k1.trans k2).trans k3).trans (Keep.of gr.h)) rp q4

/-! ### truth -/
@[simp] def truD (d : D) (k : Bool → Prop) : Prop := match d with
  | .non => k false
  | .bl b => k b
  | .int i => k (i != 0)
  | .str x => x.length ≤ sizeLine ∧ k ((x.length : Int) != 0)
  | .tup ds => k (!ds.isEmpty)
  | .lst ds => k (!ds.isEmpty)
  | _ => False
@[simp] def tTruD (t : TED) : TTD := fun env c W Q => t env c W fun d c1 => truD d fun b => Q b c1
theorem isEmpty_rp {Z : Wz} {H : Hp} {ds : List D} {vs : List V} (r : RpL Z H ds vs) : (!ds.isEmpty) = !vs.isEmpty := by
  cases ds with
  | nil => rw [rpL_nil.mp r]; rfl
  | cons d ds =>
    obtain ⟨v, w, rfl, _⟩ := rpL_cons.mp r
    rfl
theorem tru_vrp {K : PySem.W.Frag} {Z : Wz} {Hf H : Hp} {d : D} {x : V} {k : Bool → Prop} (s : Same Hf H) (h : VRp Z Hf H d x) (hr : truD d k) : ∃ b, TruV K x H b ∧ k b := by
  cases d with
  | non => cases vrp_non h; exact ⟨_, rfl, hr⟩
  | bl b => cases vrp_bl h; exact ⟨_, rfl, hr⟩
  | int i => cases vrp_int h; exact ⟨_, rfl, hr⟩
  | str y => cases vrp_str h; exact ⟨_, ⟨hr.1, rfl⟩, hr.2⟩
  | tup ds =>
    obtain ⟨p, vs, rfl, h1, r1, _⟩ := vrp_tup s h
    have hr' : k (!ds.isEmpty) := hr
    rw [isEmpty_rp r1] at hr'
    exact ⟨_, .inr (.inl ⟨vs, SqT.of h1, rfl⟩), hr'⟩
  | lst ds =>
    obtain ⟨p, vs, rfl, h1, r1⟩ := vrp_lst s h
    have hr' : k (!ds.isEmpty) := hr
    rw [isEmpty_rp r1] at hr'
    exact ⟨_, .inl ⟨vs, SqL.of h1, rfl⟩, hr'⟩
  | _ => exact hr.elim
theorem dt_tru (ha : DB X F a ta) (he : ∀ whole, isTrue a X.env whole = (do let v ← whole; standAt a.pos; holding [v] (truthy v)) := by intro _; rfl) : DT X F a (tTruD ta) :=
  PT.imp (pt_truth ha he) fun σ H Q ⟨Hf, env, c, Wd, Qd, S, x, ht, k⟩ => ⟨Hf, env, c, Wd, _, S, x, ht, fun v H1 Hf1 c1 d S1 s1 k1 r1 q1 => by
    obtain ⟨b, tv, q⟩ := tru_vrp (K := X.K) S1.sub (r1.at S1) q1
    exact ⟨b, tv, k b H1 Hf1 c1 S1 s1 k1 q⟩⟩

/-! ### in -/
def occS (x y : Str) : Bool := !(Builtin.Str.occurrences y x 0 y.length 1).isEmpty
@[simp] def inD : RD
  | d, .lst ds, k => shapedD d = true ∧ shapedD (.lst ds) = true ∧ k (.bl (ds.any fun z => eqvD z d))
  | .str x, .str y, k => k (.bl (occS x y))
  | d, .dic t ks vs, k => keyFits t d ∧ k (.bl (lookD ks vs d).isSome)
  | _, _, _ => False
@[simp] def notInD : RD := fun d e k => inD d e fun g => match g with
  | .bl b => k (.bl (!b))
  | _ => False
theorem toPyL_map : ∀ ds : List D, toPyL ds = ds.map toPy
  | [] => by rw [toPyL]; rfl
  | d :: ds => by rw [toPyL, toPyL_map ds]; rfl
theorem op_inDict (hu : X.A.units + 1 < cLine) : OpR X (compareOp .In) (fun x y H Q => ∃ a o, y = .ref a ∧ DGet H a x o ∧ Q (.bl o.isSome) H) := by
  intro pins s σ H x y v u Q I rx ry h
  obtain ⟨a, o, rfl, g, q⟩ := h
  cases ry
  exact d_in hu I g rx fun s' I' => ⟨.bl _, H, I', rfl, q⟩
theorem op_notInDict (hu : X.A.units + 1 < cLine) : OpR X (compareOp .NotIn) (fun x y H Q => ∃ a o, y = .ref a ∧ DGet H a x o ∧ Q (.bl (!o.isSome)) H) := by
  intro pins s σ H x y v u Q I rx ry h
  obtain ⟨a, o, rfl, g, q⟩ := h
  cases ry
  exact d_notIn hu I g rx fun s' I' => ⟨.bl _, H, I', rfl, q⟩
theorem op_inDD {Z : Wz} (hu : X.A.units + 65 < cLine) (hK : Z.K = X.K := by rfl) : OpD X Z (compareOp .In) inD := by
  intro pins s σ H x y v u Q I rx ry h
  obtain ⟨Hf, d, e, k, sub, hx, hy, hr, kk⟩ := h
  cases e with
  | lst ds =>
    obtain ⟨h1, h2, hr⟩ : shapedD d = true ∧ shapedD (.lst ds) = true ∧ k (.bl (ds.any fun z => eqvD z d)) := by cases d <;> exact hr
    have z1 := (Bool.and_eq_true_iff.mp h1)
    have z2 := (Bool.and_eq_true_iff.mp h2)
    have d1 := vrp_dp sub z1.1 hx
    have d2 := vrp_dp sub z2.1 hy
    rw [hK] at d1 d2
    rw [toPy] at d2
    have s2 := z2.2
    rw [toPy] at s2
    have ea : ((toPyL ds).any fun z => PyData.eqv z (toPy d)) = ds.any fun z => eqvD z d := by
      rw [toPyL_map, List.any_map]; rfl
    exact op_inD hu pins s σ H x y v u Q I rx ry ⟨_, _, d1, d2, z1.2, s2, by rw [ea]; exact kk _ H Hf _ (Grow.refl sub) (rp_bl.mpr rfl) hr⟩
  | str z =>
    cases d with
    | str w =>
      cases vrp_str hx
      cases vrp_str hy
      exact op_in_str pins s σ H _ _ v u Q I rx ry ⟨_, _, rfl, rfl, kk _ H Hf _ (Grow.refl sub) (rp_bl.mpr rfl) hr⟩
    | _ => exact hr.elim
  | dic t ks vs =>
    obtain ⟨hf, hr⟩ : keyFits t d ∧ k (.bl (lookD ks vs d).isSome) := by cases d <;> exact hr
    obtain ⟨a, e1, g⟩ := look_get sub hy hf hx
    cases q : lookD ks vs d with
    | some e =>
      rw [q] at g hr
      obtain ⟨w, g, _⟩ := g
      exact op_inDict (by omega) pins s σ H x y v u Q I rx ry ⟨a, _, e1, g, kk _ H Hf _ (Grow.refl sub) (rp_bl.mpr rfl) hr⟩
    | none =>
      rw [q] at g hr
      exact op_inDict (by omega) pins s σ H x y v u Q I rx ry ⟨a, _, e1, g, kk _ H Hf _ (Grow.refl sub) (rp_bl.mpr rfl) hr⟩
  | _ => cases d <;> exact hr.elim
theorem op_notInDD {Z : Wz} (hu : X.A.units + 65 < cLine) (hK : Z.K = X.K := by rfl) : OpD X Z (compareOp .NotIn) notInD := by
  intro pins s σ H x y v u Q I rx ry h
  obtain ⟨Hf, d, e, k, sub, hx, hy, hr, kk⟩ := h
  cases e with
  | lst ds =>
    obtain ⟨h1, h2, hr⟩ : shapedD d = true ∧ shapedD (.lst ds) = true ∧ k (.bl (!ds.any fun z => eqvD z d)) := by cases d <;> exact hr
    have z1 := (Bool.and_eq_true_iff.mp h1)
    have z2 := (Bool.and_eq_true_iff.mp h2)
    have d1 := vrp_dp sub z1.1 hx
    have d2 := vrp_dp sub z2.1 hy
    rw [hK] at d1 d2
    rw [toPy] at d2
    have s2 := z2.2
    rw [toPy] at s2
    have ea : ((toPyL ds).any fun z => PyData.eqv z (toPy d)) = ds.any fun z => eqvD z d := by
      rw [toPyL_map, List.any_map]; rfl
    exact op_notInD hu pins s σ H x y v u Q I rx ry ⟨_, _, d1, d2, z1.2, s2, by rw [ea]; exact kk _ H Hf _ (Grow.refl sub) (rp_bl.mpr rfl) hr⟩
  | str z =>
    cases d with
    | str w =>
      cases vrp_str hx
      cases vrp_str hy
      exact op_notIn_str pins s σ H _ _ v u Q I rx ry ⟨_, _, rfl, rfl, kk _ H Hf _ (Grow.refl sub) (rp_bl.mpr rfl) hr⟩
    | _ => exact hr.elim
  | dic t ks vs =>
    obtain ⟨hf, hr⟩ : keyFits t d ∧ k (.bl (!(lookD ks vs d).isSome)) := by cases d <;> exact hr
    obtain ⟨a, e1, g⟩ := look_get sub hy hf hx
    cases q : lookD ks vs d with
    | some e =>
      rw [q] at g hr
      obtain ⟨w, g, _⟩ := g
      exact op_notInDict (by omega) pins s σ H x y v u Q I rx ry ⟨a, _, e1, g, kk _ H Hf _ (Grow.refl sub) (rp_bl.mpr rfl) hr⟩
    | none =>
      rw [q] at g hr
      exact op_notInDict (by omega) pins s σ H x y v u Q I rx ry ⟨a, _, e1, g, kk _ H Hf _ (Grow.refl sub) (rp_bl.mpr rfl) hr⟩
  | _ => cases d <;> exact hr.elim

/-! ### built-ins by name -/
abbrev CD := List D → (D → Prop) → Prop
def liftC (Z : Wz) (r : CD) : List V → Hp → VK → Prop := fun vs H Q => ∃ (Hf : Hp) (ds : List D) (k : D → Prop), Same Hf H ∧ VRpL Z Hf H ds vs ∧ r ds k ∧ ∀ (z : V) (H' Hf' : Hp) (g : D), Grow Hf H Hf' H' → Rp Z Hf' g z → k g → Q z H'
abbrev CallD (X : Cx) (Z : Wz) (f : Value) (r : CD) : Prop := CallR X f (liftC Z r)
@[simp] def tCallD (r : CD) (t : TAD) : TED := fun env c W Q => t env c W fun ds c1 => r ds fun g => Q g c1
theorem callD_use {σ : L2.St} {H : Hp} {r : CD} {t : TAD} {Q : VK} (h : liftE F (tCallD r t) σ H Q) : tCB (liftC F.Z.toWz r) (liftAB F t) σ H Q := by
  obtain ⟨Hf, env, c, Wd, Qd, S, x, ht, k⟩ := h
  refine ⟨Hf, env, c, Wd, _, S, x, ht, fun vs H1 Hf1 c1 ds S1 s1 k1 r1 q1 => ?_⟩
  exact ⟨Hf1, ds, _, S1.sub, r1.at S1, q1, fun z H' Hf' g gr rp q2 => k z H' Hf' c1 g (S1.grow gr) (s1.trans gr.hf) (k1.trans (Keep.of gr.h)) rp q2⟩
theorem de_blt {id : String} {x : Str} {p : Pos} {r : CD} {t : TAD} (hc : CallD X F.Z.toWz (.builtin id) r) (hm : X.mg x = none) (hv : bootBuiltins x = some (.builtin id)) (ha : DAB X F (e :: es) t) (hg : Gl X x := by rfl) (hn : x ≠ "__name__" := by decide)
    (hdb : (x == ("__debug__" : Str)) = false := by decide) (he : starEach (e :: es) X.env = (false, eval e X.env) :: starEach es X.env := by rfl) (hpl : (backTo pos (starEach es X.env)).any (·.1) = false := by rfl) :
    DE X F (.Call (.Name x p) (e :: es) [] pos) (tCallD r t) := PE.imp (pe_callB hc hg hm hv ha hn hdb he hpl) fun σ H Q h => callD_use h
theorem de_ty {T : String} {x : Str} {p : Pos} {r : CD} {t : TAD} (hc : CallD X F.Z.toWz (.type T) r) (hm : X.mg x = none) (hv : bootBuiltins x = some (.type T)) (ha : DAB X F (e :: es) t) (hg : Gl X x := by rfl) (hn : x ≠ "__name__" := by decide)
    (hdb : (x == ("__debug__" : Str)) = false := by decide) (he : starEach (e :: es) X.env = (false, eval e X.env) :: starEach es X.env := by rfl) (hpl : (backTo pos (starEach es X.env)).any (·.1) = false := by rfl) :
    DE X F (.Call (.Name x p) (e :: es) [] pos) (tCallD r t) := PE.imp (pe_callTy hc hg hm hv ha hn hdb he hpl) fun σ H Q h => callD_use h
end
section
variable {Z : Wz} {Hf H : Hp} {x y : V} {xs : List V} {d d' : D}
theorem vrpL_1 (h : VRpL Z Hf H [d] xs) : ∃ x, xs = [x] ∧ VRp Z Hf H d x := by
  obtain ⟨v, r, rfl, h1, h2⟩ := h
  cases h2
  exact ⟨v, rfl, h1⟩
theorem vrpL_2 (h : VRpL Z Hf H [d, d'] xs) : ∃ x y, xs = [x, y] ∧ VRp Z Hf H d x ∧ VRp Z Hf H d' y := by
  obtain ⟨v, r, rfl, h1, h2⟩ := h
  obtain ⟨y, rfl, h3⟩ := vrpL_1 h2
  exact ⟨v, y, rfl, h1, h3⟩
end
@[simp] def lenD : CD
  | [.lst ds], k => k (.int (ds.length : Nat))
  | [.tup ds], k => k (.int (ds.length : Nat))
  | [.str x], k => x.length ≤ sizeLine ∧ k (.int (x.length : Nat))
  | [.scr ns], k => k (.int (ns.length : Nat))
  | [.dic _ ks _], k => k (.int (ks.length : Nat))
  | _, _ => False
theorem call_lenD {X : Cx} {Z : Wz} (hK : Z.K = X.K := by rfl) : CallD X Z (.builtin "len") lenD := by
  intro pins s σ H xs us Q I r h
  obtain ⟨Hf, ds, k, sub, hx, hr, kk⟩ := h
  unfold lenD at hr
  split at hr
  · obtain ⟨x, rfl, hw⟩ := vrpL_1 hx
    obtain ⟨p, vs, rfl, h1, r1⟩ := vrp_lst sub hw
    refine call_len_seq pins s σ H _ us Q I r ⟨p, vs, rfl, .inl (SqL.of h1), ?_⟩
    rw [← r1.length]
    exact kk _ H Hf _ (Grow.refl sub) (rp_int.mpr rfl) hr
  · obtain ⟨x, rfl, hw⟩ := vrpL_1 hx
    obtain ⟨p, vs, rfl, h1, r1, _⟩ := vrp_tup sub hw
    refine call_len_seq pins s σ H _ us Q I r ⟨p, vs, rfl, .inr (SqT.of h1), ?_⟩
    rw [← r1.length]
    exact kk _ H Hf _ (Grow.refl sub) (rp_int.mpr rfl) hr
  · obtain ⟨x, rfl, hw⟩ := vrpL_1 hx
    cases vrp_str hw
    exact call_len_str pins s σ H _ us Q I r ⟨_, rfl, hr.1, kk _ H Hf _ (Grow.refl sub) (rp_int.mpr rfl) hr.2⟩
  · obtain ⟨x, rfl, hw⟩ := vrpL_1 hx
    obtain ⟨p, rfl, h1⟩ := vrp_scr sub hw
    rw [hK] at h1
    refine call_len_seq pins s σ H _ us Q I r ⟨p, _, rfl, .inl h1, ?_⟩
    rw [List.length_map]
    exact kk _ H Hf _ (Grow.refl sub) (rp_int.mpr rfl) hr
  · obtain ⟨x, rfl, hw⟩ := vrpL_1 hx
    rename_i k2 t ks vs
    obtain ⟨u, rfl, rx⟩ := vals1 r
    cases t with
    | false =>
      obtain ⟨p, kvs, rfl, h1, rfl, h3⟩ := vrp_dicK sub hw
      cases rx
      refine d_len I h1 fun t s' I' => ⟨.int kvs.length, H, I', ⟨_, rfl⟩, ?_⟩
      rw [List.length_map] at hr
      exact kk _ H Hf _ (Grow.refl sub) (rp_int.mpr rfl) hr
    | true =>
      obtain ⟨p, kvs, rfl, h1, rfl, h3⟩ := vrp_dicT sub hw
      cases rx
      obtain ⟨z, hd, ys, rel, dd⟩ := dt_rd I.hok h1
      have hl : kvs.length = ys.length := Paired.length rel
      refine call_len_dictH hd dd (by rw [← hl]; rw [sizeLine_eq] at z; omega) ?_
      rw [← hl]
      rw [List.length_map] at hr
      exact ⟨.int ((kvs.length : Nat) : Int), H, I.tok _, ⟨_, rfl⟩, kk _ H Hf _ (Grow.refl sub) (rp_int.mpr rfl) hr⟩
  · exact hr.elim
@[simp] def absD : CD
  | [.int i], k => k (.int (if i < 0 then -i else i))
  | _, _ => False
theorem call_absD {X : Cx} {Z : Wz} : CallD X Z (.builtin "abs") absD := by
  intro pins s σ H xs us Q I r h
  obtain ⟨Hf, ds, k, sub, hx, hr, kk⟩ := h
  unfold absD at hr
  split at hr
  · obtain ⟨x, rfl, hw⟩ := vrpL_1 hx
    cases vrp_int hw
    exact call_abs pins s σ H _ us Q I r ⟨_, rfl, kk _ H Hf _ (Grow.refl sub) (rp_int.mpr rfl) hr⟩
  · exact hr.elim
@[simp] def int1D : CD
  | [.int i], k => k (.int i)
  | [.bl b], k => k (.int (if b then 1 else 0))
  | _, _ => False
theorem call_int1D {X : Cx} {Z : Wz} : CallD X Z (.type "int") int1D := by
  intro pins s σ H xs us Q I r h
  obtain ⟨Hf, ds, k, sub, hx, hr, kk⟩ := h
  unfold int1D at hr
  split at hr
  · obtain ⟨x, rfl, hw⟩ := vrpL_1 hx
    cases vrp_int hw
    exact call_int1 pins s σ H _ us Q I r (.inl ⟨_, rfl, kk _ H Hf _ (Grow.refl sub) (rp_int.mpr rfl) hr⟩)
  · obtain ⟨x, rfl, hw⟩ := vrpL_1 hx
    cases vrp_bl hw
    exact call_int1 pins s σ H _ us Q I r (.inr ⟨_, rfl, kk _ H Hf _ (Grow.refl sub) (rp_int.mpr rfl) hr⟩)
  · exact hr.elim
@[simp] def min2D : CD
  | [.int i, .int j], k => k (.int (if j < i then j else i))
  | _, _ => False
theorem call_min2D {X : Cx} {Z : Wz} (hc : X.calm = true) : CallD X Z (.builtin "min") min2D := by
  intro pins s σ H xs us Q I r h
  obtain ⟨Hf, ds, k, sub, hx, hr, kk⟩ := h
  unfold min2D at hr
  split at hr
  · obtain ⟨x, y, rfl, hw, hy⟩ := vrpL_2 hx
    cases vrp_int hw
    cases vrp_int hy
    exact call_min2 hc pins s σ H _ us Q I r ⟨_, _, rfl, kk _ H Hf _ (Grow.refl sub) (rp_int.mpr rfl) hr⟩
  · exact hr.elim
@[simp] def max2D : CD
  | [.int i, .int j], k => k (.int (if j > i then j else i))
  | _, _ => False
theorem call_max2D {X : Cx} {Z : Wz} (hc : X.calm = true) : CallD X Z (.builtin "max") max2D := by
  intro pins s σ H xs us Q I r h
  obtain ⟨Hf, ds, k, sub, hx, hr, kk⟩ := h
  unfold max2D at hr
  split at hr
  · obtain ⟨x, y, rfl, hw, hy⟩ := vrpL_2 hx
    cases vrp_int hw
    cases vrp_int hy
    exact call_max2 hc pins s σ H _ us Q I r ⟨_, _, rfl, kk _ H Hf _ (Grow.refl sub) (rp_int.mpr rfl) hr⟩
  · exact hr.elim
/-- a list of bools -/
@[simp] def blsD : List D → Option (List Bool)
  | [] => some []
  | .bl b :: r => (blsD r).map (b :: ·)
  | _ :: _ => none
theorem blsD_map : ∀ bs : List Bool, blsD (bs.map D.bl) = some bs
  | [] => rfl
  | b :: r => by
    show (blsD (r.map D.bl)).map (b :: ·) = _
    rw [blsD_map r]; rfl
theorem blsD_of : ∀ {ds : List D} {bs : List Bool}, blsD ds = some bs → ds = bs.map D.bl
  | [], _, h => by cases h; rfl
  | d :: r, bs, h => by
    cases d <;> simp [blsD] at h
    obtain ⟨cs, e, rfl⟩ := h
    rw [blsD_of e]; rfl
theorem rpL_bls {Z : Wz} {H : Hp} : ∀ {bs : List Bool} {vs : List V}, RpL Z H (bs.map D.bl) vs → vs = bs.map V.bl
  | [], _, h => rpL_nil.mp h
  | b :: r, _, h => by
    obtain ⟨v, w, rfl, h1, h2⟩ := rpL_cons.mp h
    rw [rp_bl.mp h1, rpL_bls h2]; rfl
@[simp] def allD : CD
  | [.lst ds], k => match blsD ds with
    | some bs => k (.bl (bs.all id))
    | none => False
  | _, _ => False
@[simp] def anyD : CD
  | [.lst ds], k => match blsD ds with
    | some bs => k (.bl (bs.any id))
    | none => False
  | _, _ => False
theorem call_allD {X : Cx} {Z : Wz} (hc : X.calm = true) : CallD X Z (.builtin "all") allD := by
  intro pins s σ H xs us Q I r h
  obtain ⟨Hf, ds, k, sub, hx, hr, kk⟩ := h
  unfold allD at hr
  split at hr
  · split at hr
    · rename_i bs e
      obtain ⟨x, rfl, hw⟩ := vrpL_1 hx
      obtain ⟨p, vs, rfl, h1, r1⟩ := vrp_lst sub hw
      rw [blsD_of e] at r1
      rw [rpL_bls r1] at h1
      exact cr_all hc pins s σ H _ us Q I r ⟨p, bs, rfl, SqL.of h1, kk _ H Hf _ (Grow.refl sub) (rp_bl.mpr rfl) hr⟩
    · exact hr.elim
  · exact hr.elim
theorem call_anyD {X : Cx} {Z : Wz} (hc : X.calm = true) : CallD X Z (.builtin "any") anyD := by
  intro pins s σ H xs us Q I r h
  obtain ⟨Hf, ds, k, sub, hx, hr, kk⟩ := h
  unfold anyD at hr
  split at hr
  · split at hr
    · rename_i bs e
      obtain ⟨x, rfl, hw⟩ := vrpL_1 hx
      obtain ⟨p, vs, rfl, h1, r1⟩ := vrp_lst sub hw
      rw [blsD_of e] at r1
      rw [rpL_bls r1] at h1
      exact cr_any hc pins s σ H _ us Q I r ⟨p, bs, rfl, SqL.of h1, kk _ H Hf _ (Grow.refl sub) (rp_bl.mpr rfl) hr⟩
    · exact hr.elim
  · exact hr.elim
@[simp] def tupleD : CD
  | [.lst ds], k => k (.tup ds)
  | [.tup ds], k => k (.tup ds)
  | _, _ => False
theorem call_tupleD {X : Cx} {Z : Wz} : CallD X Z (.type "tuple") tupleD := by
  intro pins s σ H xs us Q I r h
  obtain ⟨Hf, ds, k, sub, hx, hr, kk⟩ := h
  unfold tupleD at hr
  split at hr
  · obtain ⟨x, rfl, hw⟩ := vrpL_1 hx
    obtain ⟨p, vs, rfl, h1, r1⟩ := vrp_lst sub hw
    refine call_tuple_of pins s σ H _ us Q I r ⟨p, vs, rfl, .inl ⟨SqL.of h1, fun n hn => ?_⟩⟩
    obtain ⟨g, rr⟩ := new_tup sub hn r1
    exact kk _ _ _ _ g rr hr
  · obtain ⟨x, rfl, hw⟩ := vrpL_1 hx
    obtain ⟨p, vs, rfl, h1, r1, w1⟩ := vrp_tup sub hw
    exact call_tuple_of pins s σ H _ us Q I r ⟨p, vs, rfl, .inr ⟨SqT.of h1, kk _ H Hf _ (Grow.refl sub) w1 hr⟩⟩
  · exact hr.elim

/-! ### isinstance -/
inductive Ty | int | bool | tup | str | lst | dic
def Ty.n : Ty → String
  | .int => "int" | .bool => "bool" | .tup => "tuple" | .str => "str" | .lst => "list" | .dic => "dict"
/-- is a tree of this type -/
def isTy : Ty → D → Bool
  | .int, .int _ => true
  | .int, .bl _ => true
  | .bool, .bl _ => true
  | .tup, .tup _ => true
  | .str, .str _ => true
  | .lst, .lst _ => true
  | .dic, .dic _ _ _ => true
  | _, _ => false
def tyN : D → Option String
  | .non => some "NoneType"
  | .bl _ => some "bool"
  | .int _ => some "int"
  | .str _ => some "str"
  | .tup _ => some "tuple"
  | .lst _ => some "list"
  | .dic _ _ _ => some "dict"
  | _ => none
theorem kitB_all : ∀ T ∈ [Ty.int, Ty.bool, Ty.tup, Ty.str, Ty.lst, Ty.dic], ∀ n ∈ ["NoneType", "bool", "int", "str", "tuple", "list", "dict"], kitB n T.n = some (n == T.n || (T.n == "int" && n == "bool")) := by decide +kernel
theorem kitB_is {T : Ty} {d : D} {n : String} (h : tyN d = some n) : kitB n T.n = some (isTy T d) := by
  have hT : T ∈ [Ty.int, Ty.bool, Ty.tup, Ty.str, Ty.lst, Ty.dic] := by cases T <;> simp
  have hn : n ∈ ["NoneType", "bool", "int", "str", "tuple", "list", "dict"] := by cases d <;> simp [tyN] at h <;> subst h <;> simp
  rw [kitB_all T hT n hn]
  cases d <;> simp [tyN] at h <;> subst h <;> cases T <;> rfl
theorem kit_D {X : Cx} {pins : List (Addr × Obj)} {σ : L2.St} {s : Shared} {Z : Wz} {Hf H : Hp} {d : D} {x : V} {u : Value} {n : String} (I : Inv X pins σ H s) (sub : Same Hf H) (h : VRp Z Hf H d x) (rx : RelV x u) (hn : tyN d = some n) :
    ∃ P : Heap → Prop, PySem.W.KitX X.K u (.type n) P ∧ P s.heap ∧ u ≠ .builtin "__main__.__loader__#opaque" := by
  cases d with
  | non => cases hn; cases vrp_non h; exact kit_of I rx (.base .non)
  | bl b => cases hn; cases vrp_bl h; exact kit_of I rx (.base (.bl b))
  | int i => cases hn; cases vrp_int h; exact kit_of I rx (.base (.int i))
  | str y => cases hn; cases vrp_str h; exact kit_of I rx (.base (.str y))
  | tup ds => cases hn; obtain ⟨p, vs, rfl, h1, _⟩ := vrp_tup sub h; exact kit_of I rx (.base (.tup h1))
  | lst ds => cases hn; obtain ⟨p, vs, rfl, h1, _⟩ := vrp_lst sub h; exact kit_of I rx (.base (.lst h1))
  | dic t ks vs =>
    cases hn
    cases t with
    | false =>
      obtain ⟨p, kvs, rfl, h1, _⟩ := vrp_dicK sub h
      cases (show u = Value.ref p from rx)
      obtain ⟨_, _, vs, _, o, es, ep, e1, e2, _⟩ := dk_rd I.hok h1
      exact ⟨_, PySem.W.kitx_dict, ⟨o, e1, e2.1⟩, fun z => nomatch z⟩
    | true =>
      obtain ⟨p, kvs, rfl, h1, _⟩ := vrp_dicT sub h
      cases (show u = Value.ref p from rx)
      obtain ⟨_, _, xs, _, o, es, ep, e1, e2, _⟩ := dt_rd I.hok h1
      exact ⟨_, PySem.W.kitx_dict, ⟨o, e1, e2.1⟩, fun z => nomatch z⟩
  | _ => cases hn
def rIsD (Z : Wz) (T : Ty) : List V → Hp → VK → Prop := fun xs H Q => ∃ (Hf : Hp) (d : D) (x : V), xs = [x, .ty T.n] ∧ Same Hf H ∧ VRp Z Hf H d x ∧ (tyN d).isSome = true ∧ Q (.bl (isTy T d)) H
theorem call_isD {X : Cx} {Z : Wz} {T : Ty} : CallR X (.builtin "isinstance") (rIsD Z T) := by
  intro pins s σ H xs us Q I r h
  obtain ⟨Hf, d, x, rfl, sub, hx, ht, q⟩ := h
  obtain ⟨n, hn⟩ := Option.isSome_iff_exists.mp ht
  obtain ⟨u1, u2, rfl, r1, r2⟩ := vals2 r
  cases (show u2 = Value.type T.n from r2)
  obtain ⟨P, Zk, p, hx'⟩ := kit_D I sub hx r1 hn
  exact PySem.W.kia_one Zk I.kIn p (kit_ty (kitB_is hn)) hx' fun tk => ⟨.bl _, H, I.tok tk, rfl, q⟩
def rIsD2 (Z : Wz) (T U : Ty) : List V → Hp → VK → Prop := fun xs H Q => ∃ (Hf : Hp) (d : D) (x : V) (tp : Addr), xs = [x, .ref tp] ∧ H tp = some (.tup [.ty T.n, .ty U.n]) ∧ Same Hf H ∧ VRp Z Hf H d x ∧ (tyN d).isSome = true ∧ Q (.bl (isTy T d || isTy U d)) H
theorem call_isD2 {X : Cx} {Z : Wz} {T U : Ty} : CallR X (.builtin "isinstance") (rIsD2 Z T U) := by
  intro pins s σ H xs us Q I r h
  obtain ⟨Hf, d, x, tp, rfl, hT, sub, hx, ht, q⟩ := h
  obtain ⟨n, hn⟩ := Option.isSome_iff_exists.mp ht
  obtain ⟨u1, u2, rfl, r1, r2⟩ := vals2 r
  cases (show u2 = Value.ref tp from r2)
  obtain ⟨P, Zk, p, hx'⟩ := kit_D I sub hx r1 hn
  obtain ⟨_, its, rv, o, h1, h2, m, h3⟩ := (show ObjOk X.prog X.w H s.heap tp (.tup [.ty T.n, .ty U.n]) from I.hok tp _ hT)
  have e3 := ClsV.all (us := [.type T.n, .type U.n]) (.cons (.ty _) (.cons (.ty _) .nil)) rv
  subst e3
  obtain ⟨oc, od, dt, sl⟩ := o
  simp only at h2 h3
  subst h2 h3
  refine PySem.W.kia_tup Zk I.kIn p h1 (kitAny_cons (b := isTy T d) (r := isTy T d || isTy U d) (kit_ty (kitB_is hn)) (fun hb => ?_) fun hb => by rw [hb]; rfl) hx' fun tk => ⟨.bl _, H, I.tok tk, rfl, q⟩
  rw [hb]
  refine kitAny_cons (b := isTy U d) (kit_ty (kitB_is hn)) (fun hb2 => by rw [hb2]; exact kitAny_nil) fun hb2 => by rw [hb2]; rfl
section
variable {X : Cx} {F : Fd} {a : Expr} {pos p q p1 : Pos} {ta : TED} {x y y2 : Str}
@[simp] def tIsD (T : Ty) (t : TED) : TED := fun env c W Q => t env c W fun d c1 => (tyN d).isSome = true ∧ Q (.bl (isTy T d)) c1
theorem de_isi (T : Ty) (ha : DB X F a ta) (hm : X.mg "isinstance" = none) (hy : X.mg y = none) (hv : bootBuiltins y = some (.type T.n)) (hb : bootBuiltins "isinstance" = some (.builtin "isinstance")) (hg : Gl X "isinstance" := by rfl) (hgy : Gl X y := by rfl) (hny : y ≠ "__name__" := by decide)
    (hdy : (y == ("__debug__" : Str)) = false := by decide)
    (he : starEach (a :: [.Name y q]) X.env = (false, eval a X.env) :: starEach [.Name y q] X.env := by rfl) (he2 : starEach [.Name y q] X.env = (false, eval (.Name y q) X.env) :: starEach [] X.env := by rfl) (hpl : (backTo pos (starEach [.Name y q] X.env)).any (·.1) = false := by rfl) :
    DE X F (.Call (.Name "isinstance" p) [a, .Name y q] [] pos) (tIsD T ta) :=
  PE.imp (pe_callB (call_isD (Z := F.Z.toWz) (T := T)) hg hm hb (pa_cons ha (pa_cons (pe_bltn (v := .ty T.n) hgy hy hv rfl hny hdy) pa_nil he2) he) (by decide) (by decide) he hpl) fun σ H Q ⟨Hf, env, c, Wd, Qd, S, xx, ht, k⟩ =>
    ⟨Hf, env, c, Wd, _, S, xx, ht, fun v H1 Hf1 c1 d S1 s1 k1 r1 ⟨q1, q2⟩ => ⟨Hf1, d, v, rfl, S1.sub, r1.at S1, q1, k _ H1 Hf1 c1 _ S1 s1 k1 (rp_bl.mpr rfl) q2⟩⟩
end
end DL
set_option Elab.async false
set_option linter.all false
set_option maxRecDepth 100000
set_option maxHeartbeats 4000000
/-! DL7: what is walked; for, while, list comprehensions. -/
namespace DL
open PySem PySem.Spec PyProof.Rows L2

/-! ### targets: a name, a tuple of names -/
inductive Tg | one (i : Nat) | tup (is : List Nat)
def gNames : List Nat → TGs
  | [] => gNil
  | i :: r => gCons (gName i) (gNames r)
def Tg.g (K : PySem.W.Frag) : Tg → TG
  | .one i => gName i
  | .tup is => gTup K is.length (gNames is)
def setAll (σ : L2.St) : List Nat → List V → L2.St
  | i :: is, v :: vs => setAll (σ.set i (some v)) is vs
  | _, _ => σ
@[simp] def setAllD (env : EnvD) : List Nat → List D → EnvD
  | i :: is, d :: ds => setAllD (env.set i (.val d)) is ds
  | _, _ => env
@[simp] def Tg.set : Tg → D → EnvD → (EnvD → Prop) → Prop
  | .one i, d, env, k => k (env.set i (.val d))
  | .tup is, .tup ds, env, k => ds.length = is.length ∧ k (setAllD env is ds)
  | .tup _, _, _, _ => False
def Tg.slots : Tg → List Nat
  | .one i => [i]
  | .tup is => is
theorem gNames_use : ∀ {is : List Nat} {xs : List V} {σ : L2.St} {H : Hp} {Q : L2.St → Hp → Prop}, xs.length = is.length → Q (setAll σ is xs) H → gNames is xs σ H Q
  | [], xs, σ, H, Q, e, h => by
    have e' := List.length_eq_zero_iff.mp e
    subst e'
    exact ⟨rfl, h⟩
  | i :: is, xs, σ, H, Q, e, h => by
    cases xs with
    | nil => cases e
    | cons v vs => exact ⟨v, vs, rfl, gNames_use (by simpa using e) h⟩
theorem setAllD_ne {j : Nat} : ∀ {is : List Nat} {ds : List D} {env : EnvD}, j ∉ is → (setAllD env is ds)[j]? = env[j]?
  | [], ds, env, h => by cases ds <;> rfl
  | i :: is, [], env, h => rfl
  | i :: is, d :: ds, env, h => by
    show (setAllD (env.set i (.val d)) is ds)[j]? = _
    rw [setAllD_ne fun z => h (List.mem_cons_of_mem _ z)]
    exact List.getElem?_set_ne fun z => h (by rw [← z]; exact List.mem_cons_self)
theorem sim_setAll {Z : Wd} {H0 G0 H Hf : Hp} {c : Nat} : ∀ {is : List Nat} {ds : List D} {vs : List V} {σ : L2.St} {env : EnvD}, Sim Z H0 G0 σ H Hf env c → RpL Z.toWz Hf ds vs → Sim Z H0 G0 (setAll σ is vs) H Hf (setAllD env is ds) c
  | [], ds, vs, σ, env, S, r => by
    cases ds <;> cases vs <;> exact S
  | i :: is, [], vs, σ, env, S, r => by
    rw [rpL_nil.mp r]
    exact S
  | i :: is, d :: ds, vs, σ, env, S, r => by
    obtain ⟨v, w, rfl, h1, h2⟩ := rpL_cons.mp r
    have z := sim_setAll (is := is) (S.set h1 i) h2
    exact z
section
variable {Z : Wd} {H0 G0 : Hp} {σ : L2.St} {H Hf H' Hf' : Hp} {env : EnvD} {c : Nat}
theorem Tg.use {K : PySem.W.Frag} {tg : Tg} {d : D} {v : V} {k : EnvD → Prop} {Q : L2.St → Hp → Prop} (S : Sim Z H0 G0 σ H Hf env c) (r : Rp Z.toWz Hf d v) (h : tg.set d env k)
    (q : ∀ σ' env', Sim Z H0 G0 σ' H Hf env' c → (∃ us, σ' = DL.setAll σ tg.slots us) → (∀ j, j ∉ tg.slots → env'[j]? = env[j]?) → k env' → Q σ' H) : tg.g K v σ H Q := by
  cases tg with
  | one i => exact q _ _ (S.set r i) ⟨[v], rfl⟩ (fun j hj => List.getElem?_set_ne (fun z => hj (by rw [← z]; exact List.mem_singleton.mpr rfl))) h
  | tup is =>
    cases d with
    | tup ds =>
      obtain ⟨hl, h⟩ := h
      obtain ⟨a, vs, rfl, h1, h2⟩ := rp_tup.mp r
      refine ⟨a, vs, rfl, SqT.of (S.sub _ _ h1), by rw [← h2.length]; exact hl, gNames_use (by rw [← h2.length]; exact hl) ?_⟩
      exact q _ _ (sim_setAll S h2) ⟨vs, rfl⟩ (fun j hj => setAllD_ne hj) h
    | _ => exact h.elim
end
theorem setAll_wipe : ∀ {is : List Nat} {us : List V} {σ : L2.St} {ws : List Nat}, (∀ i ∈ is, i ∈ ws) → wipe (setAll σ is us) ws = wipe σ ws
  | [], us, σ, ws, h => by cases us <;> rfl
  | i :: is, [], σ, ws, h => rfl
  | i :: is, v :: us, σ, ws, h => by
    show wipe (setAll (σ.set i (some v)) is us) ws = wipe σ ws
    rw [setAll_wipe fun j hj => h j (List.mem_cons_of_mem _ hj)]
    have hi := h i List.mem_cons_self
    clear h
    induction ws with
    | nil => cases hi
    | cons w ws ih =>
      show (wipe (σ.set i (some v)) ws).set w none = (wipe σ ws).set w none
      by_cases e : i ∈ ws
      · rw [ih e]
      · have e' : i = w := by
          rcases List.mem_cons.mp hi with z | z
          · exact z
          · exact absurd z e
        subst e'
        have comm : ∀ (ws : List Nat), i ∉ ws → wipe (σ.set i (some v)) ws = (wipe σ ws).set i (some v) := by
          intro ws
          induction ws with
          | nil => intro _; rfl
          | cons w ws ih2 =>
            intro hn
            show (wipe (σ.set i (some v)) ws).set w none = ((wipe σ ws).set w none).set i (some v)
            rw [ih2 fun z => hn (List.mem_cons_of_mem _ z)]
            rw [List.set_comm]
            exact fun z => hn (by rw [z]; exact List.mem_cons_self)
        rw [comm ws e, List.set_set]

/-! ### walks -/
structure WalkD (Z : Wz) (J : It) (ds : List D) (Hf : Hp) : Prop where
  goes : ∀ i H Hf1, i < ds.length → Same Hf Hf1 → Same Hf1 H → J.go i H
  yields : ∀ i H x H' Hf1, i < ds.length → Same Hf Hf1 → Same Hf1 H → J.yld i H x H' → ∃ Hf2 d, Grow Hf1 H Hf2 H' ∧ ds[i]? = some d ∧ Rp Z Hf2 d x
  stops : ∀ H Hf1, Same Hf Hf1 → Same Hf1 H → J.stop ds.length H
abbrev TLD := EnvD → Nat → WD → (List D → Nat → Prop) → Prop
def liftI (F : Fd) (t : TLD) : TI := fun σ H R => ∃ (Hf : Hp) (env : EnvD) (c : Nat) (Wd : WD) (Qd : List D → Nat → Prop), Sim F.Z F.H0 F.G0 σ H Hf env c ∧ XL F σ env Wd ∧ t env c Wd Qd ∧
  ∀ (J : It) (H' Hf' : Hp) (c' : Nat) (ds : List D), Sim F.Z F.H0 F.G0 σ H' Hf' env c' → Same Hf Hf' → Keep F.Z H H' → WalkD F.Z.toWz J ds Hf' → Qd ds c' → R J H'
abbrev DI (X : Cx) (F : Fd) (tg e : Expr) (t : TLD) : Prop := PI X tg e (liftI F t)
theorem PI.imp {X : Cx} {tg e : Expr} {t t' : TI} (h : PI X tg e t) (i : ∀ σ H R, t' σ H R → t σ H R) : PI X tg e t' := ⟨fun pins s σ H R I q => h.run pins s σ H R I (i σ H R q)⟩

theorem walkD_lst {Z : Wz} {Hf : Hp} {a : Addr} {ds : List D} {vs : List V} (K : PySem.W.Frag) (h : Hf a = some (.lst vs)) (r : RpL Z Hf ds vs) : WalkD Z (Itl K a) ds Hf where
  goes := fun i H Hf1 hi s1 s2 => by
    rw [r.length] at hi
    exact ⟨vs, vs[i], SqL.of (s2 _ _ (s1 _ _ h)), by simp [hi]⟩
  yields := fun i H x H' Hf1 hi s1 s2 ⟨e, y⟩ => by
    subst e
    have z := y vs (SqL.of (s2 _ _ (s1 _ _ h)))
    obtain ⟨d, e1, e2⟩ := r.get' z
    exact ⟨Hf1, d, Grow.refl s2, e1, Rp.mono s1 _ _ e2⟩
  stops := fun H Hf1 s1 s2 => ⟨vs, SqL.of (s2 _ _ (s1 _ _ h)), by rw [r.length]; exact Nat.le_refl _⟩
theorem walkD_tup {Z : Wz} {Hf : Hp} {a : Addr} {ds : List D} {vs : List V} (K : PySem.W.Frag) (h : Hf a = some (.tup vs)) (r : RpL Z Hf ds vs) : WalkD Z (Itt K a) ds Hf where
  goes := fun i H Hf1 hi s1 s2 => by
    rw [r.length] at hi
    exact ⟨vs, vs[i], SqT.of (s2 _ _ (s1 _ _ h)), by simp [hi]⟩
  yields := fun i H x H' Hf1 hi s1 s2 ⟨e, y⟩ => by
    subst e
    have z := y vs (SqT.of (s2 _ _ (s1 _ _ h)))
    obtain ⟨d, e1, e2⟩ := r.get' z
    exact ⟨Hf1, d, Grow.refl s2, e1, Rp.mono s1 _ _ e2⟩
  stops := fun H Hf1 s1 s2 => ⟨vs, SqT.of (s2 _ _ (s1 _ _ h)), by rw [r.length]; exact Nat.le_refl _⟩
theorem walkD_scr {Z : Wz} {Hf : Hp} {a : Addr} {ns : List Int} {K : PySem.W.Frag} (h : SqL K Hf a (ns.map V.int)) : WalkD Z (Itl K a) (ns.map D.int) Hf where
  goes := fun i H Hf1 hi s1 s2 => by
    have hi' : i < (ns.map V.int).length := by simpa using hi
    exact ⟨ns.map V.int, (ns.map V.int)[i], (s1.trans s2).seq h, by simp [hi']⟩
  yields := fun i H x H' Hf1 hi s1 s2 ⟨e, y⟩ => by
    subst e
    have z := y _ ((s1.trans s2).seq h)
    rw [List.getElem?_map] at z
    cases e : ns[i]? with
    | none => rw [e] at z; cases z
    | some n =>
      rw [e] at z
      cases z
      exact ⟨Hf1, .int n, Grow.refl s2, by rw [List.getElem?_map, e]; rfl, rp_int.mpr rfl⟩
  stops := fun H Hf1 s1 s2 => ⟨_, (s1.trans s2).seq h, by simp⟩
theorem walkD_keysK {Z : Wz} {Hf : Hp} {a : Addr} {o : Obj} {kvs : List (Key × V)} (h : Hf a = some (.frz o (.dK kvs))) : WalkD Z (Itk a o kvs) (kvs.map fun p => kD p.1) Hf := by
  have w := walk_keys (d := a) (o := o) (kvs := kvs)
  refine ⟨fun i H Hf1 hi s1 s2 => w.goes i H (by simpa using hi) (s2 _ _ (s1 _ _ h)), fun i H x H' Hf1 hi s1 s2 y => ?_, fun H Hf1 s1 s2 => ?_⟩
  · obtain ⟨e, k, v, e1, e2⟩ := w.yields i H x H' (by simpa using hi) (s2 _ _ (s1 _ _ h)) y
    subst e e2
    refine ⟨Hf1, kD k, Grow.refl s2, by rw [List.getElem?_map, e1]; rfl, ?_⟩
    cases k with
    | inl i => exact rp_int.mpr rfl
    | inr x => exact rp_str.mpr rfl
  · rw [List.length_map]
    exact w.stops H (s2 _ _ (s1 _ _ h))
end DL
set_option Elab.async false
set_option linter.all false
set_option maxRecDepth 100000
set_option maxHeartbeats 200000
/-! DL8: iterables, for, while. -/
namespace DL
open PySem PySem.Spec PyProof.Rows L2

theorem kD_rp {Z : Wz} {H : Hp} : ∀ {k : Key}, Rp Z H (kD k) (kV k)
  | .inl _ => rp_int.mpr rfl
  | .inr _ => rp_str.mpr rfl
theorem kDs_rp {Z : Wz} {H : Hp} : ∀ {ks : List Key}, RpL Z H (ks.map kD) (ks.map kV)
  | [] => RpL.nil
  | k :: r => RpL.cons kD_rp kDs_rp
/-- a tuple that stood is taken into the standing part -/
theorem Grow.take {Hf H : Hp} {q : Addr} {xs : List V} (s : Same Hf H) (h : H q = some (.tup xs)) : Grow Hf H (upd Hf q (.tup xs)) H where
  hf := fun b o e => by
    by_cases hb : b = q
    · subst hb; rw [upd_same]; have z := s _ _ e; rw [h] at z; exact z
    · rw [upd_ne hb]; exact e
  h := Same.refl _
  sub := fun b o e => by
    by_cases hb : b = q
    · subst hb; rw [upd_same] at e; cases e; exact h
    · rw [upd_ne hb] at e; exact s _ _ e
  new := fun b h1 h2 => by
    by_cases hb : b = q
    · subst hb; exact .inr ⟨xs, h⟩
    · rw [upd_ne hb] at h1; exact absurd h2 h1
  ntb := fun b ps e => by
    by_cases hb : b = q
    · subst hb; rw [upd_same] at e; cases e
    · rw [upd_ne hb] at e; exact e
theorem walkD_keysT {Z : Wz} {Hf : Hp} {a : Addr} {o : Obj} {kvs : List (List Key × V)} (h : Hf a = some (.frz o (.dT kvs))) : WalkD Z (Itkt a o kvs) (kvs.map fun p => D.tup (p.1.map kD)) Hf := by
  have w := walk_keysT (d := a) (o := o) (kvs := kvs)
  refine ⟨fun i H Hf1 hi s1 s2 => w.goes i H (by simpa using hi) (s2 _ _ (s1 _ _ h)), fun i H x H' Hf1 hi s1 s2 y => ?_, fun H Hf1 s1 s2 => ?_⟩
  · obtain ⟨e, k, v, q, e1, e2, e3⟩ := w.yields i H x H' (by simpa using hi) (s2 _ _ (s1 _ _ h)) y
    subst e e2
    exact ⟨_, .tup (k.map kD), Grow.take s2 e3, by rw [List.getElem?_map, e1]; rfl, rp_tup.mpr ⟨q, _, rfl, upd_same, kDs_rp⟩⟩
  · rw [List.length_map]
    exact w.stops H (s2 _ _ (s1 _ _ h))
theorem walkD_vals {Z : Wz} {Hf : Hp} {a : Addr} {o : Obj} {kvs : List (Key × V)} {ds : List D} (h : Hf a = some (.frz o (.dK kvs))) (r : RpL Z Hf ds (kvs.map (fun p => p.2))) : WalkD Z (Itd a o kvs) ds Hf := by
  have w := walk_values (d := a) (o := o) (kvs := kvs)
  have hl : ds.length = kvs.length := by rw [r.length, List.length_map]
  refine ⟨fun i H Hf1 hi s1 s2 => w.goes i H (by omega) (s2 _ _ (s1 _ _ h)), fun i H x H' Hf1 hi s1 s2 y => ?_, fun H Hf1 s1 s2 => ?_⟩
  · obtain ⟨e, k, e1⟩ := w.yields i H x H' (by omega) (s2 _ _ (s1 _ _ h)) y
    subst e
    obtain ⟨d, e2, e3⟩ := r.get' (i := i) (v := x) (by rw [List.getElem?_map, e1]; rfl)
    exact ⟨Hf1, d, Grow.refl s2, e2, Rp.mono s1 _ _ e3⟩
  · rw [hl]
    exact w.stops H (s2 _ _ (s1 _ _ h))
theorem pair_new {Z : Wz} {Hf H : Hp} {T : Addr} {x y : V} {d e : D} (s : Same Hf H) (hT : H T = none) (r1 : Rp Z Hf d x) (r2 : Rp Z Hf e y) :
    Grow Hf H (upd Hf T (.tup [x, y])) (upd H T (.tup [x, y])) ∧ Rp Z (upd Hf T (.tup [x, y])) (.tup [d, e]) (.ref T) := new_tup s hT (RpL.cons r1 (RpL.cons r2 RpL.nil))
@[simp] def pairD (a b : D) : D := .tup [a, b]
theorem zip_get {as bs : List D} {i : Nat} {x y : D} (h1 : as[i]? = some x) (h2 : bs[i]? = some y) : (List.zipWith pairD as bs)[i]? = some (.tup [x, y]) := by
  rw [List.getElem?_zipWith, h1, h2]; rfl
theorem walkD_items {Z : Wz} {Hf : Hp} {a : Addr} {o : Obj} {kvs : List (Key × V)} {ds : List D} (h : Hf a = some (.frz o (.dK kvs))) (r : RpL Z Hf ds (kvs.map (fun p => p.2))) : WalkD Z (Iti a o kvs) (List.zipWith pairD (kvs.map fun p => kD p.1) ds) Hf := by
  have w := walk_items (d := a) (o := o) (kvs := kvs)
  have hl : ds.length = kvs.length := by rw [r.length, List.length_map]
  have hz : (List.zipWith pairD (kvs.map fun p => kD p.1) ds).length = kvs.length := by rw [List.length_zipWith, List.length_map, hl, Nat.min_self]
  refine ⟨fun i H Hf1 hi s1 s2 => w.goes i H (by omega) (s2 _ _ (s1 _ _ h)), fun i H x H' Hf1 hi s1 s2 y => ?_, fun H Hf1 s1 s2 => ?_⟩
  · obtain ⟨T, x, y2, e1, e2, e3, e4, e5⟩ := w.yields i H x H' (by omega) (s2 _ _ (s1 _ _ h)) y
    subst e1 e3
    replace e4 : kvs[i]?.map (fun kv => kV kv.1) = some x := e4
    replace e5 : kvs[i]?.map Prod.snd = some y2 := e5
    cases q : kvs[i]? with
    | none => rw [q] at e4; cases e4
    | some kv =>
      rw [q] at e4 e5
      cases e4
      cases e5
      obtain ⟨d, g1, g2⟩ := r.get' (i := i) (v := kv.2) (by rw [List.getElem?_map, q]; rfl)
      obtain ⟨gr, rp⟩ := pair_new (Z := Z) s2 e2 (kD_rp (k := kv.1)) (Rp.mono s1 _ _ g2)
      exact ⟨_, _, gr, zip_get (by rw [List.getElem?_map, q]; rfl) g1, rp⟩
  · rw [hz]
    exact w.stops H (s2 _ _ (s1 _ _ h))
def enumD : Nat → List D → List D
  | _, [] => []
  | n, d :: r => .tup [.int n, d] :: enumD (n + 1) r
theorem enumD_get : ∀ {n i : Nat} {ds : List D} {d : D}, ds[i]? = some d → (enumD n ds)[i]? = some (.tup [.int (n + i : Nat), d])
  | n, 0, d :: r, _, h => by simp at h; subst h; rfl
  | n, i + 1, d :: r, _, h => by
    have z := enumD_get (n := n + 1) (i := i) (ds := r) (by simpa using h)
    rw [show n + 1 + i = n + (i + 1) by omega] at z
    simpa [enumD] using z
theorem enumD_length : ∀ {n : Nat} {ds : List D}, (enumD n ds).length = ds.length
  | _, [] => rfl
  | n, d :: r => by simp [enumD, enumD_length]
theorem walkD_enum {Z : Wz} {Hf : Hp} {a : Addr} {ds : List D} {vs : List V} (K : PySem.W.Frag) (h : Hf a = some (.lst vs)) (r : RpL Z Hf ds vs) : WalkD Z (Ite K a) (enumD 0 ds) Hf where
  goes := fun i H Hf1 hi s1 s2 => by
    rw [enumD_length, r.length] at hi
    exact ⟨vs, vs[i], SqL.of (s2 _ _ (s1 _ _ h)), by simp [hi]⟩
  yields := fun i H x H' Hf1 hi s1 s2 ⟨T, y, e1, e2, e3, e4⟩ => by
    subst e1 e3
    obtain ⟨d, g1, g2⟩ := r.get' (e4 vs (SqL.of (s2 _ _ (s1 _ _ h))))
    obtain ⟨gr, rp⟩ := pair_new (Z := Z) (d := .int i) s2 e2 (rp_int.mpr rfl) (Rp.mono s1 _ _ g2)
    exact ⟨_, _, gr, by have z := enumD_get (n := 0) g1; rw [Nat.zero_add] at z; exact z, rp⟩
  stops := fun H Hf1 s1 s2 => ⟨vs, SqL.of (s2 _ _ (s1 _ _ h)), by rw [enumD_length, r.length]; exact Nat.le_refl _⟩
theorem walkD_zip {Z : Wz} {Hf : Hp} {a b : Addr} {ds es : List D} {vs ws : List V} (K : PySem.W.Frag) (h : Hf a = some (.lst vs)) (r : RpL Z Hf ds vs) (h' : Hf b = some (.lst ws)) (r' : RpL Z Hf es ws) : WalkD Z (Itz K a b) (List.zipWith pairD ds es) Hf where
  goes := fun i H Hf1 hi s1 s2 => by
    rw [List.length_zipWith, r.length, r'.length] at hi
    have h1 : i < vs.length := by omega
    have h2 : i < ws.length := by omega
    exact ⟨vs, ws, vs[i], ws[i], SqL.of (s2 _ _ (s1 _ _ h)), SqL.of (s2 _ _ (s1 _ _ h')), by simp [h1], by simp [h2]⟩
  yields := fun i H x H' Hf1 hi s1 s2 ⟨T, y, z, e1, e2, e3, e4, e5⟩ => by
    subst e1 e3
    obtain ⟨d, g1, g2⟩ := r.get' (e4 vs (SqL.of (s2 _ _ (s1 _ _ h))))
    obtain ⟨e, g3, g4⟩ := r'.get' (e5 ws (SqL.of (s2 _ _ (s1 _ _ h'))))
    obtain ⟨gr, rp⟩ := pair_new (Z := Z) s2 e2 (Rp.mono s1 _ _ g2) (Rp.mono s1 _ _ g4)
    exact ⟨_, _, gr, zip_get g1 g3, rp⟩
  stops := fun H Hf1 s1 s2 => ⟨vs, ws, SqL.of (s2 _ _ (s1 _ _ h)), SqL.of (s2 _ _ (s1 _ _ h')), by rw [List.length_zipWith, r.length, r'.length]; omega⟩
theorem walkD_zipT {Z : Wz} {Hf : Hp} {a b : Addr} {ds es : List D} {vs ws : List V} (K : PySem.W.Frag) (h : Hf a = some (.tup vs)) (r : RpL Z Hf ds vs) (h' : Hf b = some (.tup ws)) (r' : RpL Z Hf es ws) : WalkD Z (RZ.ItzT K a b) (List.zipWith pairD ds es) Hf where
  goes := fun i H Hf1 hi s1 s2 => by
    rw [List.length_zipWith, r.length, r'.length] at hi
    have h1 : i < vs.length := by omega
    have h2 : i < ws.length := by omega
    exact ⟨vs, ws, vs[i], ws[i], SqT.of (s2 _ _ (s1 _ _ h)), SqT.of (s2 _ _ (s1 _ _ h')), by simp [h1], by simp [h2]⟩
  yields := fun i H x H' Hf1 hi s1 s2 ⟨T, y, z, e1, e2, e3, e4, e5⟩ => by
    subst e1 e3
    obtain ⟨d, g1, g2⟩ := r.get' (e4 vs (SqT.of (s2 _ _ (s1 _ _ h))))
    obtain ⟨e, g3, g4⟩ := r'.get' (e5 ws (SqT.of (s2 _ _ (s1 _ _ h'))))
    obtain ⟨gr, rp⟩ := pair_new (Z := Z) s2 e2 (Rp.mono s1 _ _ g2) (Rp.mono s1 _ _ g4)
    exact ⟨_, _, gr, zip_get g1 g3, rp⟩
  stops := fun H Hf1 s1 s2 => ⟨vs, ws, SqT.of (s2 _ _ (s1 _ _ h)), SqT.of (s2 _ _ (s1 _ _ h')), by rw [List.length_zipWith, r.length, r'.length]; omega⟩
theorem rev_get {α : Type} {xs : List α} {i : Nat} (h : i < xs.length) : xs.reverse[i]? = xs[xs.length - 1 - i]? := List.getElem?_reverse h
theorem walkD_rev {Z : Wz} {Hf : Hp} {a : Addr} {ds : List D} {vs : List V} (K : PySem.W.Frag) (h : Hf a = some (.lst vs)) (r : RpL Z Hf ds vs) : WalkD Z (Itv K a vs.length) ds.reverse Hf where
  goes := fun i H Hf1 hi s1 s2 => by
    rw [List.length_reverse, r.length] at hi
    exact ⟨hi, vs, vs[vs.length - 1 - i]'(by omega), SqL.of (s2 _ _ (s1 _ _ h)), by simp [show vs.length - 1 - i < vs.length by omega]⟩
  yields := fun i H x H' Hf1 hi s1 s2 ⟨e, y⟩ => by
    subst e
    rw [List.length_reverse] at hi
    have z := y vs (SqL.of (s2 _ _ (s1 _ _ h)))
    rw [← r.length] at z
    obtain ⟨d, e1, e2⟩ := r.get' z
    exact ⟨Hf1, d, Grow.refl s2, by rw [rev_get hi]; exact e1, Rp.mono s1 _ _ e2⟩
  stops := fun H Hf1 s1 s2 => by rw [List.length_reverse, r.length]; exact Nat.le_refl _
theorem walkD_revT {Z : Wz} {Hf : Hp} {a : Addr} {ds : List D} {vs : List V} (K : PySem.W.Frag) (h : Hf a = some (.tup vs)) (r : RpL Z Hf ds vs) : WalkD Z (RT.ItvT K a vs.length) ds.reverse Hf where
  goes := fun i H Hf1 hi s1 s2 => by
    rw [List.length_reverse, r.length] at hi
    exact ⟨hi, vs, vs[vs.length - 1 - i]'(by omega), SqT.of (s2 _ _ (s1 _ _ h)), by simp [show vs.length - 1 - i < vs.length by omega]⟩
  yields := fun i H x H' Hf1 hi s1 s2 ⟨e, y⟩ => by
    subst e
    rw [List.length_reverse] at hi
    have z := y vs (SqT.of (s2 _ _ (s1 _ _ h)))
    rw [← r.length] at z
    obtain ⟨d, e1, e2⟩ := r.get' z
    exact ⟨Hf1, d, Grow.refl s2, by rw [rev_get hi]; exact e1, Rp.mono s1 _ _ e2⟩
  stops := fun H Hf1 s1 s2 => by rw [List.length_reverse, r.length]; exact Nat.le_refl _
/-- lo, lo + c, .. (n of them) -/
def rngD (lo c : Int) : Nat → List D
  | 0 => []
  | n + 1 => .int lo :: rngD (lo + c) c n
theorem rngD_length : ∀ {lo c : Int} {n : Nat}, (rngD lo c n).length = n
  | _, _, 0 => rfl
  | lo, c, n + 1 => by simp [rngD, rngD_length]
theorem rngD_get : ∀ {lo c : Int} {n i : Nat}, i < n → (rngD lo c n)[i]? = some (.int (lo + (i : Nat) * c))
  | lo, c, 0, i, h => by omega
  | lo, c, n + 1, 0, h => by simp [rngD]
  | lo, c, n + 1, i + 1, h => by
    have z := rngD_get (lo := lo + c) (c := c) (n := n) (i := i) (by omega)
    have e : lo + c + (i : Int) * c = lo + ((i + 1 : Nat) : Int) * c := by
      rw [Int.natCast_add, Int.add_mul]; omega
    rw [e] at z
    simpa [rngD] using z
theorem walkD_range {Z : Wz} {Hf : Hp} {lo : Int} {n : Nat} : WalkD Z (Itr lo n) (rngD lo 1 n) Hf where
  goes := fun i H Hf1 hi s1 s2 => by rw [rngD_length] at hi; exact hi
  yields := fun i H x H' Hf1 hi s1 s2 ⟨e, y⟩ => by
    subst e y
    rw [rngD_length] at hi
    exact ⟨Hf1, _, Grow.refl s2, rngD_get hi, rp_int.mpr (by rw [Int.mul_one])⟩
  stops := fun H Hf1 s1 s2 => by rw [rngD_length]; exact Nat.le_refl _
theorem walkD_rangeC {Z : Wz} {Hf : Hp} {lo c : Int} {n : Nat} : WalkD Z (Itc lo c n) (rngD lo c n) Hf where
  goes := fun i H Hf1 hi s1 s2 => by rw [rngD_length] at hi; exact hi
  yields := fun i H x H' Hf1 hi s1 s2 ⟨e, y⟩ => by
    subst e y
    rw [rngD_length] at hi
    exact ⟨Hf1, _, Grow.refl s2, rngD_get hi, rp_int.mpr rfl⟩
  stops := fun H Hf1 s1 s2 => by rw [rngD_length]; exact Nat.le_refl _
def signsD (x : Str) : List D := x.cps.toList.map fun c => .str ⟨#[c]⟩
theorem walkD_str {Z : Wz} {Hf : Hp} {x : Str} : WalkD Z (Its x) (signsD x) Hf where
  goes := fun i H Hf1 hi s1 s2 => by
    show i < x.cps.size
    simpa [signsD] using hi
  yields := fun i H v H' Hf1 hi s1 s2 ⟨e, c, e1, e2⟩ => by
    subst e e2
    exact ⟨Hf1, .str ⟨#[c]⟩, Grow.refl s2, by simp [signsD, e1], rp_str.mpr rfl⟩
  stops := fun H Hf1 s1 s2 => by
    show x.cps.size ≤ _
    simp [signsD]
/-! ### iterables -/
/-- what is walked in a value -/
@[simp] def itemsD : D → Option (List D)
  | .lst ds => some ds
  | .tup ds => some ds
  | .scr ns => some (ns.map .int)
  | .str x => some (signsD x)
  | .dic _ ks _ => some ks
  | _ => none
section
variable {X : Cx} {tg e : Expr} {te : TE}
def iAny (K : PySem.W.Frag) (te : TE) : TI := fun σ H R => te σ H fun x H1 => (∃ a, x = .ref a ∧ (∃ xs, SqL K H1 a xs) ∧ R (Itl K a) H1) ∨ (∃ a, x = .ref a ∧ (∃ xs, SqT K H1 a xs) ∧ R (Itt K a) H1) ∨ (∃ z, x = .str z ∧ R (Its z) H1) ∨
  (∃ d o kvs, x = .ref d ∧ H1 d = some (.frz o (.dK kvs)) ∧ R (Itk d o kvs) H1) ∨ ∃ d o kvs, x = .ref d ∧ H1 d = some (.frz o (.dT kvs)) ∧ R (Itkt d o kvs) H1
theorem pi_any (he : PE X e te) : PI X tg e (iAny X.K te) := by
  refine ⟨fun pins s σ H R I h => ?_⟩
  refine thn (he.run pins s σ H _ I h) fun v s1 ⟨x, H1, I1, r1, q1⟩ => ?_
  have one : ∀ {b : Addr}, b ∈ [s1.heap.objs.size] → FpOk X pins H1 b := fun {b} hb => by
    have e : b = s1.heap.objs.size := by simpa using hb
    subst e
    exact I1.fpOk (Nat.le_refl _) (I1.hok.fresh (Nat.le_refl _))
  rcases q1 with ⟨a, ex, ⟨xs, hq⟩, q⟩ | ⟨a, ex, ⟨xs, hq⟩, q⟩ | ⟨z, ex, q⟩ | ⟨d, o, kvs, ex, hd, q⟩ | ⟨d, o, kvs, ex, hd, q⟩
  · subst ex
    cases r1
    obtain ⟨its, rv, p, hz⟩ := I1.list hq
    refine wpAny_pyIter_list p.isList ?_
    exact ⟨s1.heap.objs.size, [s1.heap.objs.size], _, _, H1, rfl, I1.kept (t' := s1.toks) fun b o e => Heap.get?_push_of_some _ e, turn_list a _, ⟨_, Heap.get?_push_size _ rfl, rfl, rfl⟩, fun b hb => one hb, q⟩
  · subst ex
    cases r1
    obtain ⟨its, rv, p, hz⟩ := I1.tuple hq
    refine wpAny_pyIter_tuple (show s1.heap.IsTuple a its.toArray from p) ?_
    exact ⟨s1.heap.objs.size, [s1.heap.objs.size], _, _, H1, rfl, I1.kept (t' := s1.toks) fun b o e => Heap.get?_push_of_some _ e, turn_tuple a _, ⟨_, Heap.get?_push_size _ rfl, rfl, rfl⟩, fun b hb => one hb, q⟩
  · subst ex
    obtain ⟨t, rfl⟩ := r1
    cases ha : z.cps.all (· < 128)
    · exact wpAny_pyIter_wide ha (pi_one (tk := s1.toks) I1 _ (turn_str _ z t "str_iterator" (.inr rfl)) ⟨_, Heap.get?_push_size _ rfl, rfl, rfl⟩ q)
    · exact wpAny_pyIter_ascii ha (pi_one (tk := s1.toks) I1 _ (turn_str _ z t "str_ascii_iterator" (.inl rfl)) ⟨_, Heap.get?_push_size _ rfl, rfl, rfl⟩ q)
  · subst ex
    obtain rfl : v = Value.ref d := r1
    obtain ⟨hs, hgd, hx, es, ep, vs, hdt, hsz, kv, hm⟩ := I1.frzK hd
    refine iter_keys hs hgd hx hdt (pi_one (tk := s1.toks) I1 _ (turn_keys _ hdt) ⟨_, Heap.get?_push_size _ rfl, rfl, ?_⟩ q)
    rw [hsz] <;> rfl
  · subst ex
    obtain rfl : v = Value.ref d := r1
    obtain ⟨hs, hgd, hx, es, ep, hdt, hsz, ent⟩ := I1.frzT hd
    refine iter_keys hs hgd hx hdt (pi_one (tk := s1.toks) I1 _ (turn_keysT _ hdt) ⟨_, Heap.get?_push_size _ rfl, rfl, ?_⟩ q)
    rw [hsz] <;> rfl
end
section
variable {X : Cx} {F : Fd} {tg e e2 : Expr} {p pos : Pos} {t : TED} {ta : TAD}
@[simp] def tItD (t : TED) : TLD := fun env c W R => t env c W fun d c1 => match itemsD d with
  | some ds => R ds c1
  | none => False
theorem di_any (he : DE X F e t) (hK : F.Z.K = X.K := by rfl) : DI X F tg e (tItD t) := PI.imp (pi_any he) fun σ H R ⟨Hf, env, c, Wd, Qd, S, x, ht, k⟩ => by
  refine ⟨Hf, env, c, Wd, _, S, x, ht, fun v H' Hf' c' d S' s1 k1 r q => ?_⟩
  cases d with
  | lst ds =>
    obtain ⟨a, vs, rfl, h1, h2⟩ := rp_lst.mp r
    exact .inl ⟨a, rfl, ⟨vs, SqL.of (S'.sub _ _ h1)⟩, k _ H' Hf' c' ds S' s1 k1 (walkD_lst _ h1 h2) q⟩
  | tup ds =>
    obtain ⟨a, vs, rfl, h1, h2⟩ := rp_tup.mp r
    exact .inr (.inl ⟨a, rfl, ⟨vs, SqT.of (S'.sub _ _ h1)⟩, k _ H' Hf' c' ds S' s1 k1 (walkD_tup _ h1 h2) q⟩)
  | scr ns =>
    obtain ⟨a, rfl, h1⟩ := rp_scr.mp r
    rw [hK] at h1
    exact .inl ⟨a, rfl, ⟨_, S'.sub.seq h1⟩, k _ H' Hf' c' _ S' s1 k1 (walkD_scr h1) q⟩
  | str z =>
    cases rp_str.mp r
    exact .inr (.inr (.inl ⟨z, rfl, k _ H' Hf' c' _ S' s1 k1 walkD_str q⟩))
  | dic b ks vs =>
    cases b with
    | false =>
      obtain ⟨a, o, kvs, rfl, h1, rfl, h2⟩ := rp_dicK.mp r
      exact .inr (.inr (.inr (.inl ⟨a, o, kvs, rfl, S'.sub _ _ h1, k _ H' Hf' c' _ S' s1 k1 (walkD_keysK h1) q⟩)))
    | true =>
      obtain ⟨a, o, kvs, rfl, h1, rfl, h2⟩ := rp_dicT.mp r
      exact .inr (.inr (.inr (.inr ⟨a, o, kvs, rfl, S'.sub _ _ h1, k _ H' Hf' c' _ S' s1 k1 (walkD_keysT h1) q⟩)))
  | _ => exact q.elim
def smallI (j : Int) : Prop := -4611686018427387904 ≤ j ∧ j < 4611686018427387904
theorem smallI.use {j : Int} (h : smallI j) : -(2 ^ 62) ≤ j ∧ j < 2 ^ 62 := by
  unfold smallI at h
  omega
@[simp] def ints1 : List D → Option Int
  | [.int j] => some j
  | _ => none
@[simp] def ints2 : List D → Option (Int × Int)
  | [.int i, .int j] => some (i, j)
  | _ => none
@[simp] def ints3 : List D → Option (Int × Int × Int)
  | [.int i, .int j, .int s] => some (i, j, s)
  | _ => none
theorem ints1_of {ds : List D} {j : Int} (h : ints1 ds = some j) : ds = [.int j] := by
  unfold ints1 at h
  split at h
  · cases h; rfl
  · cases h
theorem ints2_of {ds : List D} {j : Int × Int} (h : ints2 ds = some j) : ds = [.int j.1, .int j.2] := by
  unfold ints2 at h
  split at h
  · cases h; rfl
  · cases h
theorem ints3_of {ds : List D} {j : Int × Int × Int} (h : ints3 ds = some j) : ds = [.int j.1, .int j.2.1, .int j.2.2] := by
  unfold ints3 at h
  split at h
  · cases h; rfl
  · cases h
@[simp] def tRng1D (ta : TAD) : TLD := fun env c W R => ta env c W fun ds c1 => match ints1 ds with
  | some j => smallI j ∧ R (rngD 0 1 j.toNat) c1
  | none => False
theorem di_range1 {a : Expr} (hm : X.mg "range" = none) (ha : DA X F [a] ta) (hg : Gl X "range" := by rfl) (hs : starEach [a] X.env = [(false, eval a X.env)] := by rfl) : DI X F tg (.Call (.Name "range" p) [a] [] pos) (tRng1D ta) :=
  PI.imp (pi_range1 hg hm ha hs) fun σ H R ⟨Hf, env, c, Wd, Qd, S, x, ht, k⟩ => by
  refine ⟨Hf, env, c, Wd, _, S, x, ht, fun vs H' Hf' c' ds S' s1 k1 r q => ?_⟩
  split at q
  · rename_i j e
    have e' := ints1_of e
    subst e'
    obtain ⟨v, w, rfl, h1, h2⟩ := rpL_cons.mp r
    cases rpL_nil.mp h2
    cases rp_int.mp h1
    exact ⟨j, rfl, q.1.use.1, q.1.use.2, k _ H' Hf' c' _ S' s1 k1 walkD_range q.2⟩
  · exact q.elim
@[simp] def tRng2D (ta : TAD) : TLD := fun env c W R => ta env c W fun ds c1 => match ints2 ds with
  | some p => smallI p.1 ∧ smallI p.2 ∧ R (rngD p.1 1 (p.2 - p.1).toNat) c1
  | none => False
theorem di_range2 {a b : Expr} (hm : X.mg "range" = none) (ha : DA X F [a, b] ta) (hg : Gl X "range" := by rfl) (hs : starEach [a, b] X.env = [(false, eval a X.env), (false, eval b X.env)] := by rfl) (hs2 : starEach [b] X.env = [(false, eval b X.env)] := by rfl) :
    DI X F tg (.Call (.Name "range" p) [a, b] [] pos) (tRng2D ta) :=
  PI.imp (pi_range2 hg hm ha hs hs2) fun σ H R ⟨Hf, env, c, Wd, Qd, S, x, ht, k⟩ => by
  refine ⟨Hf, env, c, Wd, _, S, x, ht, fun vs H' Hf' c' ds S' s1 k1 r q => ?_⟩
  split at q
  · rename_i j e
    have e' := ints2_of e
    subst e'
    obtain ⟨v, w, rfl, h1, h2⟩ := rpL_cons.mp r
    obtain ⟨v2, w2, rfl, h3, h4⟩ := rpL_cons.mp h2
    cases rpL_nil.mp h4
    cases rp_int.mp h1
    cases rp_int.mp h3
    exact ⟨j.1, j.2, rfl, ⟨q.1.use.1, q.1.use.2, q.2.1.use.1, q.2.1.use.2⟩, k _ H' Hf' c' _ S' s1 k1 walkD_range q.2.2⟩
  · exact q.elim
/-- with a step -/
@[simp] def tRng3D (ta : TAD) : TLD := fun env c W R => ta env c W fun ds c1 => match ints3 ds with
  | some p => ∃ n, RgC p.1 p.2.1 p.2.2 n ∧ R (rngD p.1 p.2.2 n) c1
  | none => False
theorem di_range3 {a b d : Expr} (hm : X.mg "range" = none) (ha : DA X F [a, b, d] ta) (hg : Gl X "range" := by rfl) (hs : starEach [a, b, d] X.env = (false, eval a X.env) :: starEach [b, d] X.env := by rfl) (hpl : (backTo pos (starEach [b, d] X.env)).any (·.1) = false := by rfl) :
    DI X F tg (.Call (.Name "range" p) [a, b, d] [] pos) (tRng3D ta) :=
  PI.imp (pi_range3 hg hm ha hs hpl) fun σ H R ⟨Hf, env, c, Wd, Qd, S, x, ht, k⟩ => by
  refine ⟨Hf, env, c, Wd, _, S, x, ht, fun vs H' Hf' c' ds S' s1 k1 r q => ?_⟩
  split at q
  · rename_i j e
    have e' := ints3_of e
    subst e'
    obtain ⟨n, q1, q⟩ := q
    obtain ⟨v, w, rfl, h1, h2⟩ := rpL_cons.mp r
    obtain ⟨v2, w2, rfl, h3, h4⟩ := rpL_cons.mp h2
    obtain ⟨v3, w3, rfl, h5, h6⟩ := rpL_cons.mp h4
    cases rpL_nil.mp h6
    cases rp_int.mp h1
    cases rp_int.mp h3
    cases rp_int.mp h5
    exact ⟨_, _, _, n, rfl, q1, k _ H' Hf' c' _ S' s1 k1 walkD_rangeC q⟩
  · exact q.elim
@[simp] def tEnumD (ta : TAD) : TLD := fun env c W R => ta env c W fun ds c1 => match ds with
  | [.lst xs] => R (enumD 0 xs) c1
  | _ => False
theorem di_enum {elts : List Expr} {kk : Nat} {tpos : Pos} (hm : X.mg "enumerate" = none) (ha : DA X F [e] ta) (hg : Gl X "enumerate" := by rfl) (hs : starEach [e] X.env = [(false, eval e X.env)] := by rfl) :
    DI X F (.Tuple elts kk tpos) (.Call (.Name "enumerate" p) [e] [] pos) (tEnumD ta) :=
  PI.imp (pi_enum hg hm ha hs) fun σ H R ⟨Hf, env, c, Wd, Qd, S, x, ht, k⟩ => by
  refine ⟨Hf, env, c, Wd, _, S, x, ht, fun vs H' Hf' c' ds S' s1 k1 r q => ?_⟩
  split at q
  · rename_i xs
    obtain ⟨v, w, rfl, h1, h2⟩ := rpL_cons.mp r
    cases rpL_nil.mp h2
    obtain ⟨a, ws, rfl, h3, h4⟩ := rp_lst.mp h1
    exact ⟨a, ws, rfl, SqL.of (S'.sub _ _ h3), k _ H' Hf' c' _ S' s1 k1 (walkD_enum _ h3 h4) q⟩
  · exact q.elim
@[simp] def tZipD (ta : TAD) : TLD := fun env c W R => ta env c W fun ds c1 => match ds with
  | [.lst xs, .lst ys] => R (List.zipWith pairD xs ys) c1
  | [.tup xs, .tup ys] => R (List.zipWith pairD xs ys) c1
  | _ => False
theorem di_zip {elts : List Expr} {kk : Nat} {tpos : Pos} (hm : X.mg "zip" = none) (ha : DA X F [e, e2] ta) (hg : Gl X "zip" := by rfl) (hs : starEach [e, e2] X.env = (false, eval e X.env) :: starEach [e2] X.env := by rfl) (hpl : (backTo pos (starEach [e2] X.env)).any (·.1) = false := by rfl) :
    DI X F (.Tuple elts kk tpos) (.Call (.Name "zip" p) [e, e2] [] pos) (tZipD ta) :=
  PI.imp (RZ.pi_zipA hg hm ha hs hpl) fun σ H R ⟨Hf, env, c, Wd, Qd, S, x, ht, k⟩ => by
  refine ⟨Hf, env, c, Wd, _, S, x, ht, fun vs H' Hf' c' ds S' s1 k1 r q => ?_⟩
  split at q
  · rename_i xs ys
    obtain ⟨v, w, rfl, h1, h2⟩ := rpL_cons.mp r
    obtain ⟨v2, w2, rfl, h3, h4⟩ := rpL_cons.mp h2
    cases rpL_nil.mp h4
    obtain ⟨a, ws, rfl, g1, g2⟩ := rp_lst.mp h1
    obtain ⟨b, us, rfl, g3, g4⟩ := rp_lst.mp h3
    exact ⟨a, b, ws, us, rfl, .inl ⟨SqL.of (S'.sub _ _ g1), SqL.of (S'.sub _ _ g3), k _ H' Hf' c' _ S' s1 k1 (walkD_zip _ g1 g2 g3 g4) q⟩⟩
  · rename_i xs ys
    obtain ⟨v, w, rfl, h1, h2⟩ := rpL_cons.mp r
    obtain ⟨v2, w2, rfl, h3, h4⟩ := rpL_cons.mp h2
    cases rpL_nil.mp h4
    obtain ⟨a, ws, rfl, g1, g2⟩ := rp_tup.mp h1
    obtain ⟨b, us, rfl, g3, g4⟩ := rp_tup.mp h3
    exact ⟨a, b, ws, us, rfl, .inr ⟨SqT.of (S'.sub _ _ g1), SqT.of (S'.sub _ _ g3), k _ H' Hf' c' _ S' s1 k1 (walkD_zipT _ g1 g2 g3 g4) q⟩⟩
  · exact q.elim
@[simp] def tRevD (t : TED) : TLD := fun env c W R => t env c W fun d c1 => match d with
  | .lst xs => R xs.reverse c1
  | .tup xs => R xs.reverse c1
  | _ => False
theorem di_rev (hm : X.mg "reversed" = none) (he : DE X F e t) (hg : Gl X "reversed" := by rfl) (hs : starEach [e] X.env = (false, eval e X.env) :: starEach [] X.env := by rfl) : DI X F tg (.Call (.Name "reversed" p) [e] [] pos) (tRevD t) :=
  PI.imp (RT.pi_revA hg hm he hs) fun σ H R ⟨Hf, env, c, Wd, Qd, S, x, ht, k⟩ => by
  refine ⟨Hf, env, c, Wd, _, S, x, ht, fun v H' Hf' c' d S' s1 k1 r q => ?_⟩
  cases d with
  | lst ds =>
    obtain ⟨a, vs, rfl, h1, h2⟩ := rp_lst.mp r
    exact ⟨a, vs, rfl, .inl ⟨SqL.of (S'.sub _ _ h1), k _ H' Hf' c' _ S' s1 k1 (walkD_rev _ h1 h2) q⟩⟩
  | tup ds =>
    obtain ⟨a, vs, rfl, h1, h2⟩ := rp_tup.mp r
    exact ⟨a, vs, rfl, .inr ⟨SqT.of (S'.sub _ _ h1), k _ H' Hf' c' _ S' s1 k1 (walkD_revT _ h1 h2) q⟩⟩
  | _ => exact q.elim
@[simp] def tItemsD (t : TED) : TLD := fun env c W R => t env c W fun d c1 => match d with
  | .dic false ks vs => R (List.zipWith pairD ks vs) c1
  | _ => False
theorem di_items {elts : List Expr} {kk : Nat} {tpos apos cpos : Pos} (he : DE X F e t) (hbase : attributeBase e "items" X.env (eval e X.env) = eval e X.env := by rfl) (hline : (apos.endLine == cpos.line) = true := by rfl) :
    DI X F (.Tuple elts kk tpos) (.Call (.Attribute e "items" apos) [] [] cpos) (tItemsD t) :=
  PI.imp (pi_items he hbase hline) fun σ H R ⟨Hf, env, c, Wd, Qd, S, x, ht, k⟩ => by
  refine ⟨Hf, env, c, Wd, _, S, x, ht, fun v H' Hf' c' d S' s1 k1 r q => ?_⟩
  split at q
  · rename_i ks vs
    obtain ⟨a, o, kvs, rfl, h1, rfl, h2⟩ := rp_dicK.mp r
    exact ⟨a, o, kvs, rfl, S'.sub _ _ h1, k _ H' Hf' c' _ S' s1 k1 (walkD_items h1 h2) q⟩
  · exact q.elim
@[simp] def tValsD (t : TED) : TLD := fun env c W R => t env c W fun d c1 => match d with
  | .dic false ks vs => R vs c1
  | _ => False
theorem di_values {apos cpos : Pos} (he : DE X F e t) (hbase : attributeBase e "values" X.env (eval e X.env) = eval e X.env := by rfl) (hline : (apos.endLine == cpos.line) = true := by rfl) :
    DI X F tg (.Call (.Attribute e "values" apos) [] [] cpos) (tValsD t) :=
  PI.imp (pi_values he hbase hline) fun σ H R ⟨Hf, env, c, Wd, Qd, S, x, ht, k⟩ => by
  refine ⟨Hf, env, c, Wd, _, S, x, ht, fun v H' Hf' c' d S' s1 k1 r q => ?_⟩
  split at q
  · rename_i ks vs
    obtain ⟨a, o, kvs, rfl, h1, rfl, h2⟩ := rp_dicK.mp r
    exact ⟨a, o, kvs, rfl, S'.sub _ _ h1, k _ H' Hf' c' _ S' s1 k1 (walkD_vals h1 h2) q⟩
  · exact q.elim
end
end DL
set_option Elab.async false
set_option linter.all false
set_option maxRecDepth 100000
set_option maxHeartbeats 1000000
/-! DL9: for, while, list comprehensions, freezing a slot. -/
namespace DL
open PySem PySem.Spec PyProof.Rows L2

theorem drop_cons {α : Type} {xs : List α} {i : Nat} {x : α} (h : xs[i]? = some x) : xs.drop i = x :: xs.drop (i + 1) := by
  obtain ⟨h1, h2⟩ := List.getElem?_eq_some_iff.mp h
  rw [← h2]
  exact List.drop_eq_getElem_cons h1

/-! ### for -/
/-- the turns that are left -/
@[simp] def loopD (tg : Tg) (tb : TSD) (D0 : EndsD) : List D → EnvD → Nat → Prop
  | [] => fun env c => D0.nx env c
  | d :: ds => fun env c => tg.set d env fun env1 => tb { D0 with nx := loopD tg tb D0 ds, ct := loopD tg tb D0 ds, bk := D0.nx } env1 c
@[simp] def tForD (tg : Tg) (ti : TLD) (tb : TSD) : TSD := fun D0 env c => ti env c (fun d c1 => D0.ex d env c1) fun ds c1 => loopD tg tb D0 ds env c1
section
variable {X : Cx} {F : Fd} {pos : Pos}
theorem ds_for {target iter : Expr} {body : List Stmt} {ti : TLD} {tb : TSD} (tg : Tg) {K : PySem.W.Frag} (hp : PassesOwn (model X.prog X.w) X.A X.env X.xe) (hc : X.calm = true) (hi : DI X F target iter ti) (hg : PG X target (tg.g K)) (hb : DSs X F body tb)
    (hs : ∀ x, foldedSetIterable iter X.env x = pure x := by intro _; rfl) : DS X F (.For target iter body [] pos) (tForD tg ti tb) := PS.imp (ps_for hp hc hi hg hb hs) fun D0 σ H ⟨Hf, env, c, Dd, S, L, h⟩ => by
  refine ⟨Hf, env, c, _, _, S, L.xl σ env, h, fun J H1 Hf1 c1 ds S1 s1 k1 w q => ?_⟩
  refine ⟨fun i m σ H => m = ds.length - i ∧ i ≤ ds.length ∧ ∃ (Hf2 : Hp) (env : EnvD) (c : Nat), Sim F.Z F.H0 F.G0 σ H Hf2 env c ∧ Same Hf1 Hf2 ∧ loopD tg tb Dd (ds.drop i) env c, ⟨_, rfl, Nat.zero_le _, Hf1, env, c1, S1, Same.refl _, q⟩, ?_⟩
  rintro i m σ2 H2 ⟨rfl, hi2, Hf2, env2, c2, S2, s2, q2⟩
  by_cases hlt : i < ds.length
  · refine .inr ⟨w.goes i H2 Hf2 hlt s2 S2.sub, fun σ H => ∃ (Hf3 : Hp) (env : EnvD) (c : Nat), Sim F.Z F.H0 F.G0 σ H Hf3 env c ∧ Same Hf1 Hf3 ∧ loopD tg tb Dd (ds.drop (i + 1)) env c, fun σ' H' z => ⟨_, ?_, rfl, hlt, z⟩, fun x H' y => ?_⟩
    · omega
    · obtain ⟨Hf3, d, g, e, r⟩ := w.yields i H2 x H' Hf2 hlt s2 S2.sub y
      rw [drop_cons e] at q2
      refine Tg.use (S2.grow g) r q2 fun σ' env' S3 _ _ q3 => ?_
      refine ⟨Hf3, env', c2, _, S3, ?_, q3⟩
      have sx : Same Hf Hf3 := (s1.trans s2).trans g.hf
      exact ⟨fun σ H Hf4 env c S s q => ⟨Hf4, env, c, S, (s2.trans g.hf).trans s, q⟩, fun σ H Hf4 env c d v S s r q => L.rt σ H Hf4 env c d v S (sx.trans s) r q, fun σ H Hf4 env c S s q => L.nx σ H Hf4 env c S (sx.trans s) q,
        fun σ H Hf4 env c S s q => ⟨Hf4, env, c, S, (s2.trans g.hf).trans s, q⟩, L.ex⟩
  · have e : i = ds.length := by omega
    subst e
    rw [List.drop_length] at q2
    exact .inl ⟨w.stops H2 Hf2 s2 S2.sub, L.nx σ2 H2 Hf2 env2 c2 S2 (s1.trans s2) q2⟩
/-! ### while -/
@[simp] def tWhileD (tc : TTD) (tb : TSD) : TSD := fun D0 env c => ∃ W : Nat → EnvD → Nat → Prop, (∃ m, W m env c) ∧ ∀ m env c, W m env c → tc env c (fun d c1 => D0.ex d env c1) fun b c1 =>
  if b = true then tb { D0 with nx := fun env' c' => ∃ m', m' < m ∧ W m' env' c', ct := fun env' c' => ∃ m', m' < m ∧ W m' env' c', bk := D0.nx } env c1 else D0.nx env c1
theorem ds_while {e : Expr} {body : List Stmt} {tc : TTD} {tb : TSD} (hp : PassesOwn (model X.prog X.w) X.A X.env X.xe) (hc : DT X F e tc) (hb : DSs X F body tb) : DS X F (.While e body [] pos) (tWhileD tc tb) :=
  PS.imp (ps_while hp hc hb) fun D0 σ H ⟨Hf, env, c, Dd, S, L, W, ⟨m0, w0⟩, turn⟩ => by
  refine ⟨fun m σ H => ∃ (Hf2 : Hp) (env : EnvD) (c : Nat), Sim F.Z F.H0 F.G0 σ H Hf2 env c ∧ Same Hf Hf2 ∧ W m env c, ⟨m0, Hf, env, c, S, Same.refl _, w0⟩, ?_⟩
  rintro m σ2 H2 ⟨Hf2, env2, c2, S2, s2, w2⟩
  refine ⟨Hf2, env2, c2, _, _, S2, L.xl σ2 env2, turn m env2 c2 w2, fun b H3 Hf3 c3 S3 s3 _ q => ?_⟩
  cases b with
  | true =>
    refine iteT ⟨fun σ H => ∃ (m' : Nat), m' < m ∧ ∃ (Hf2 : Hp) (env : EnvD) (c : Nat), Sim F.Z F.H0 F.G0 σ H Hf2 env c ∧ Same Hf Hf2 ∧ W m' env c, fun σ' H' z => z, Hf3, env2, c3, _, S3, ?_, q⟩
    have sx := s2.trans s3
    exact ⟨fun σ H Hf4 env c S s ⟨m', lt, q⟩ => ⟨m', lt, Hf4, env, c, S, sx.trans s, q⟩, fun σ H Hf4 env c d v S s r q => L.rt σ H Hf4 env c d v S (sx.trans s) r q, fun σ H Hf4 env c S s q => L.nx σ H Hf4 env c S (sx.trans s) q,
      fun σ H Hf4 env c S s ⟨m', lt, q⟩ => ⟨m', lt, Hf4, env, c, S, sx.trans s, q⟩, L.ex⟩
  | false => exact iteF (L.nx σ2 H3 Hf3 env2 c3 S3 (s2.trans s3) q)
end

/-! ### a slot's own thing is kept from here on -/
def tFreezeS (t : TS) : TS := fun D0 σ H => ∃ (a : Addr) (u : HO), H a = some u ∧ ((∃ vs, u = .lst vs ∧ t D0 σ H) ∨ (((∃ kvs, u = .dK kvs) ∨ ∃ kvs, u = .dT kvs) ∧ ∀ od, t D0 σ (upd H a (.frz od u))))
theorem pss_freeze {X : Cx} {sts : List Stmt} {t : TS} (h : PSs X sts t) : PSs X sts (tFreezeS t) := ⟨fun pins s σ H D0 I q => by
  obtain ⟨a, u, e, q | ⟨m, q⟩⟩ := q
  · obtain ⟨vs, _, q⟩ := q
    exact h.run pins s σ H D0 I q
  · obtain ⟨od, I2⟩ := I.lock e (by rcases m with ⟨kvs, rfl⟩ | ⟨kvs, rfl⟩ <;> trivial)
    exact h.run pins s σ _ D0 I2 (q od)⟩
@[simp] def tFrzD (i : Nat) (t : TSD) : TSD := fun D0 env c => match env[i]? with
  | some (.own d) => t D0 (env.set i (.val d)) c
  | _ => False
theorem set_same {α : Type} : ∀ {xs : List α} {i : Nat} {x : α}, xs[i]? = some x → xs.set i x = xs
  | [], _, _, h => by simp at h
  | a :: r, 0, x, h => by simp at h; subst h; rfl
  | a :: r, i + 1, x, h => by
    rw [List.set_cons_succ, set_same (by simpa using h)]
theorem EL.back {F : Fd} {H1 H2 : Hp} {D0 : Ends} {Dd : EndsD} (L : EL F H1 D0 Dd) (s : Same H1 H2) : EL F H2 D0 Dd := L.grow s
theorem dss_freeze {X : Cx} {F : Fd} (i : Nat) {sts : List Stmt} {t : TSD} (h : DSs X F sts t) : DSs X F sts (tFrzD i t) := PSs.imp (pss_freeze h) fun D0 σ H ⟨Hf, env, c, Dd, S, L, q⟩ => by
  unfold tFrzD at q
  split at q
  · rename_i d e
    obtain ⟨a, e1, h2, h3, h4, h5⟩ := S.own i _ e
    obtain ⟨S1, f, r⟩ := S.letGo e e1
    have fin : ∀ o : HO, ((∃ vs, o = .lst vs ∧ H a = some (.lst vs)) ∨ (∃ od kvs, o = .frz od (.dK kvs) ∧ H a = some (.dK kvs)) ∨ ∃ od kvs, o = .frz od (.dT kvs) ∧ H a = some (.dT kvs)) → liftS F t D0 σ (upd H a o) := fun o ho => by
      have S2 := (S1.freeze f o (fun u hu => OwnRp.ntab hu r) (own_ntb ho)).set (own_rp (H' := H) f.hf r o ho) i
      rw [set_same e1, List.set_set] at S2
      exact ⟨_, _, c, Dd, S2, L.grow (same_upd f.hf), q⟩
    cases d with
    | lst ds =>
      obtain ⟨vs, g1, _⟩ := id r
      have z := fin _ (.inl ⟨vs, rfl, g1⟩)
      rw [upd_id g1] at z
      exact ⟨a, _, g1, .inl ⟨vs, rfl, z⟩⟩
    | dic t ks ds =>
      cases t with
      | false =>
        obtain ⟨kvs, g1, _⟩ := id r
        exact ⟨a, _, g1, .inr ⟨.inl ⟨kvs, rfl⟩, fun od => fin _ (.inr (.inl ⟨od, kvs, rfl, g1⟩))⟩⟩
      | true =>
        obtain ⟨kvs, g1, _⟩ := id r
        exact ⟨a, _, g1, .inr ⟨.inr ⟨kvs, rfl⟩, fun od => fin _ (.inr (.inr ⟨od, kvs, rfl, g1⟩))⟩⟩
    | _ => exact r.elim
  · exact q.elim

/-! ### blocks of comprehensions -/
@[simp] def wipeD (env : EnvD) : List Nat → EnvD
  | [] => env
  | v :: vs => (wipeD env vs).set v .un
theorem wipeD_in {env : EnvD} {i : Nat} {d : D} : ∀ {vs : List Nat}, i ∈ vs → (wipeD env vs)[i]? ≠ some (Slot.own d)
  | v :: vs, h, e => by
    show False
    replace e : ((wipeD env vs).set v .un)[i]? = some (Slot.own d) := e
    rw [List.getElem?_set] at e
    by_cases hv : v = i
    · rw [if_pos hv] at e
      split at e <;> cases e
    · rw [if_neg hv] at e
      rcases List.mem_cons.mp h with z | z
      · exact hv z.symm
      · exact wipeD_in z e
theorem wipeD_out {env : EnvD} {i : Nat} : ∀ {vs : List Nat}, i ∉ vs → (wipeD env vs)[i]? = env[i]?
  | [], h => rfl
  | v :: vs, h => by
    show ((wipeD env vs).set v .un)[i]? = _
    rw [List.getElem?_set_ne fun z => h (by rw [z]; exact List.mem_cons_self)]
    exact wipeD_out fun z => h (List.mem_cons_of_mem _ z)
theorem wipe_out {σ : L2.St} {i : Nat} : ∀ {vs : List Nat}, i ∉ vs → (wipe σ vs)[i]? = σ[i]?
  | [], h => rfl
  | v :: vs, h => by
    show ((wipe σ vs).set v none)[i]? = _
    rw [List.getElem?_set_ne fun z => h (by rw [z]; exact List.mem_cons_self)]
    exact wipe_out fun z => h (List.mem_cons_of_mem _ z)
open Classical in
/-- the heap without what the slots alone hold -/
noncomputable def mask (H : Hp) (σ : L2.St) (env : EnvD) : Hp := fun b => if ∃ (i : Nat) (d : D), env[i]? = some (Slot.own d) ∧ σ[i]? = some (some (.ref b)) then none else H b
theorem mask_in {H : Hp} {σ : L2.St} {env : EnvD} {b : Addr} {i : Nat} {d : D} (h1 : env[i]? = some (Slot.own d)) (h2 : σ[i]? = some (some (.ref b))) : mask H σ env b = none := by
  unfold mask
  rw [if_pos ⟨i, d, h1, h2⟩]
theorem mask_out {H : Hp} {σ : L2.St} {env : EnvD} {b : Addr} (h : ∀ (i : Nat) (d : D), env[i]? = some (Slot.own d) → σ[i]? ≠ some (some (.ref b))) : mask H σ env b = H b := by
  unfold mask
  rw [if_neg]
  rintro ⟨i, d, h1, h2⟩
  exact h i d h1 h2
theorem mask_some {H : Hp} {σ : L2.St} {env : EnvD} {b : Addr} {o : HO} (h : mask H σ env b = some o) : H b = some o := by
  unfold mask at h
  split at h
  · cases h
  · exact h
section
variable {Z : Wd} {H0 G0 : Hp} {σ : L2.St} {H Hf H' Hf' : Hp} {env : EnvD} {c : Nat}
theorem Sim.kill (S : Sim Z H0 G0 σ H Hf env c) (i : Nat) : Sim Z H0 G0 (σ.set i none) H Hf (env.set i .un) c where
  sub := S.sub
  g0 := S.g0
  new := S.new
  keep := S.keep
  len := by rw [List.length_set, List.length_set]; exact S.len
  val := fun j e h => by
    rw [List.getElem?_set] at h ⊢
    by_cases hj : i = j
    · rw [if_pos hj] at h
      split at h <;> cases h
    · rw [if_neg hj] at h ⊢
      exact S.val j e h
  own := fun j e h => by
    rw [List.getElem?_set] at h ⊢
    by_cases hj : i = j
    · rw [if_pos hj] at h
      split at h <;> cases h
    · rw [if_neg hj] at h ⊢
      exact S.own j e h
  inj := fun j k d e a h1 h2 h3 h4 => by
    rw [List.getElem?_set] at h1 h2 h3 h4
    by_cases hj : i = j
    · rw [if_pos hj] at h1
      split at h1 <;> cases h1
    · by_cases hk : i = k
      · rw [if_pos hk] at h2
        split at h2 <;> cases h2
      · rw [if_neg hj] at h1 h3
        rw [if_neg hk] at h2 h4
        exact S.inj j k d e a h1 h2 h3 h4
  st := S.st
  stf := S.stf
  tab := S.tab
  ntb := S.ntb
theorem Sim.wiped (S : Sim Z H0 G0 σ H Hf env c) : ∀ vs : List Nat, Sim Z H0 G0 (wipe σ vs) H Hf (wipeD env vs) c
  | [] => S
  | v :: vs => (S.wiped vs).kill v
/-- a frame of its own begins here -/
theorem Sim.enter (S : Sim Z H0 G0 σ H Hf env c) : Sim Z (mask H σ env) Hf σ H Hf env c where
  sub := S.sub
  g0 := Same.refl _
  new := fun b h1 h2 => absurd h2 h1
  keep := fun b o h _ => mask_some h
  len := S.len
  val := S.val
  own := fun i d h => by
    obtain ⟨a, h1, h2, h3, h4, h5⟩ := S.own i d h
    exact ⟨a, h1, h2, mask_in h h1, h4, h5⟩
  inj := S.inj
  st := S.st
  stf := S.stf
  tab := S.tab
  ntb := fun _ _ h => h
/-- .. and is left -/
theorem Sim.join {σ2 : L2.St} {env2 : EnvD} {vs : List Nat} {c' : Nat} (S : Sim Z H0 G0 σ H Hf env c) (B : Sim Z (mask H (wipe σ vs) (wipeD env vs)) Hf σ2 H' Hf' env2 c') (he : ∀ i, i ∉ vs → env2[i]? = env[i]?) (hs : ∀ i, i ∉ vs → σ2[i]? = σ[i]?) : Sim Z H0 G0 σ H' Hf' env c' where
  sub := B.sub
  g0 := S.g0.trans B.g0
  new := fun b h1 h2 => by
    by_cases e : Hf b = none
    · have z := B.new b h1 e
      cases q : H0 b with
      | none => exact .inl rfl
      | some o =>
        by_cases s : Z.S b
        · exfalso
          exact h1 (B.stf b s)
        · have hb := S.keep b o q s
          have hm : mask H (wipe σ vs) (wipeD env vs) b = H b := mask_out fun j d g1 g2 => by
            have hj : j ∉ vs := fun m => wipeD_in m g1
            rw [wipeD_out hj] at g1
            rw [wipe_out hj] at g2
            obtain ⟨a, g3, _, g4, _⟩ := S.own j d g1
            rw [g2] at g3
            cases g3
            rw [q] at g4
            cases g4
          rw [hm, hb] at z
          exact z
    · exact S.new b e h2
  keep := fun b o h n => by
    have hb := S.keep b o h n
    have hm : mask H (wipe σ vs) (wipeD env vs) b = H b := mask_out fun j d g1 g2 => by
      have hj : j ∉ vs := fun m => wipeD_in m g1
      rw [wipeD_out hj] at g1
      rw [wipe_out hj] at g2
      obtain ⟨a, g3, _, g4, _⟩ := S.own j d g1
      rw [g2] at g3
      cases g3
      rw [h] at g4
      cases g4
    exact B.keep b o (by rw [hm]; exact hb) n
  len := S.len
  val := fun i d h => let ⟨v, h1, h2⟩ := S.val i d h; ⟨v, h1, Rp.mono B.g0 _ _ h2⟩
  own := fun i d h => by
    obtain ⟨a, h1, h2, h3, h4, h5⟩ := S.own i d h
    by_cases hi : i ∈ vs
    · have hm : mask H (wipe σ vs) (wipeD env vs) a = H a := mask_out fun j e g1 g2 => by
        have hj : j ∉ vs := fun m => wipeD_in m g1
        rw [wipeD_out hj] at g1
        rw [wipe_out hj] at g2
        have z := S.inj i j d e a h g1 h1 g2
        subst z
        exact hj hi
      obtain ⟨u, hu⟩ := h5.some
      have hk := B.keep a u (by rw [hm]; exact hu) fun z => h4 z.t
      refine ⟨a, h1, ?_, h3, h4, ?_⟩
      · cases q : Hf' a with
        | none => rfl
        | some o =>
          have z := B.new a (by rw [q]; exact fun z => by cases z) h2
          rw [hm, hu] at z
          cases d with
          | lst ds => obtain ⟨vs, e, _⟩ := h5; rw [hu] at e; cases e; rcases z with z | ⟨xs, z⟩ <;> cases z
          | dic t ks ds => cases t <;> (obtain ⟨kvs, e, _⟩ := h5; rw [hu] at e; cases e; rcases z with z | ⟨xs, z⟩ <;> cases z)
          | _ => exact h5.elim
      · have h6 : OwnRp Z.toWz Hf H' a d := OwnRp.at (by rw [hk, hu]) h5
        exact OwnRp.mono (Z := Z) B.g0 KeepX.refl h4 h6
    · have e2 := he i hi
      have s2 := hs i hi
      obtain ⟨a', g1, g2, g3, g4, g5⟩ := B.own i d (by rw [e2]; exact h)
      rw [s2, h1] at g1
      cases g1
      exact ⟨a, h1, g2, h3, h4, g5⟩
  inj := S.inj
  st := B.st
  stf := B.stf
  tab := B.tab
  ntb := fun b ps h => S.ntb b ps (B.ntb b ps h)
/-- a new thing that no slot holds is changed -/
theorem Sim.touch (S : Sim Z H0 G0 σ H Hf env c) {a : Addr} (f : Fresh Z H0 σ Hf env a) (o : HO) (nt : ∀ u, H a = some u → ¬ IsTab u) : Sim Z H0 G0 σ (upd H a o) Hf env c where
  sub := fun b u e => by rw [upd_ne (ne_of_none e f.hf)]; exact S.sub b u e
  g0 := S.g0
  new := S.new
  keep := fun b u h n => by
    rw [upd_ne (ne_of_none h f.h0)]
    exact S.keep b u h n
  len := S.len
  val := S.val
  own := fun i d h => by
    obtain ⟨b, h1, h2, h3, h4, h5⟩ := S.own i d h
    have nb : b ≠ a := fun z => f.ns i d h (by rw [h1, z])
    exact ⟨b, h1, h2, h3, h4, OwnRp.at (upd_ne nb) h5⟩
  inj := S.inj
  st := fun hs => (S.st hs).keep fun b hb u e => by
    rw [upd_ne (fun z => f.nt ⟨hs, by rw [← z]; exact hb⟩)]
    exact e
  stf := S.stf
  tab := tabs_keep (fun b u e it => by rw [upd_ne (fun z => nt u (by rw [← z]; exact e) it)]; exact e) S.tab
  ntb := S.ntb
end
end DL
set_option Elab.async false
set_option linter.all false
set_option maxRecDepth 100000
set_option maxHeartbeats 1000000
/-! DL10: list comprehensions. -/
namespace DL
open PySem PySem.Spec PyProof.Rows L2

theorem wipe_get_in {σ : L2.St} {i : Nat} : ∀ {vs : List Nat}, i ∈ vs → (wipe σ vs)[i]? = if i < σ.length then some none else none
  | v :: vs, h => by
    show ((wipe σ vs).set v none)[i]? = _
    rw [List.getElem?_set, wipe_length]
    by_cases hv : v = i
    · rw [if_pos hv, hv]
    · rw [if_neg hv]
      rcases List.mem_cons.mp h with z | z
      · exact absurd z.symm hv
      · exact wipe_get_in z
theorem wipe_wipe (σ : L2.St) (vs : List Nat) : wipe (wipe σ vs) vs = wipe σ vs := by
  apply List.ext_getElem?
  intro i
  by_cases h : i ∈ vs
  · rw [wipe_get_in h, wipe_get_in h, wipe_length]
  · rw [DL.wipe_out h]
def noW : WX := fun _ _ _ _ => False
def noWD : WD := fun _ _ => False
theorem xl_no {F : Fd} {σ : L2.St} {env : EnvD} : XL F σ env noWD := fun _ _ _ _ _ _ _ _ h => h.elim
/-- in a block of X: P there, whatever frame -/
def InBlk (X : Cx) (F : Fd) (scope : Scope) (P : Cx → Fd → Prop) : Prop := ∀ (s : Shared) (H : Hp) (C : Addr) (cl : List (Str × Addr)) (fp : List Addr) (H0 G0 : Hp), P (X.blk s H scope (compEnvC scope cl C X.env) fp) ⟨F.Z, H0, G0, noW⟩
abbrev DTs (X : Cx) (F : Fd) (ifs : List Expr) (t : TTD) : Prop := PTs X ifs (liftT F t)
@[simp] def tYesD : TTD := fun _ c _ Q => Q true c
theorem PTs.imp {X : Cx} {e : List Expr} {t t' : TT} (h : PTs X e t) (i : ∀ σ H Q, t' σ H Q → t σ H Q) : PTs X e t' := ⟨fun pins s σ H Q I q => h.run pins s σ H Q I (i σ H Q q)⟩
theorem dts_nil {X : Cx} {F : Fd} : DTs X F [] tYesD := PTs.imp pts_nil fun σ H Q ⟨Hf, env, c, Wd, Qd, S, _, ht, k⟩ => k true H Hf c S (Same.refl _) Keep.refl ht
theorem dts_one {X : Cx} {F : Fd} {e : Expr} {t : TTD} (h : DT X F e t) : DTs X F [e] t := pts_one h
def liftEB (Z : Wd) (t : TED) : TE := fun σ H Q => ∃ H0 G0 : Hp, liftE ⟨Z, H0, G0, noW⟩ t σ H Q
def liftTB (Z : Wd) (t : TTD) : TT := fun σ H Q => ∃ H0 G0 : Hp, liftT ⟨Z, H0, G0, noW⟩ t σ H Q
theorem pe_EB {X : Cx} {e : Expr} {Z : Wd} {t : TED} (h : ∀ H0 G0 : Hp, DE X ⟨Z, H0, G0, noW⟩ e t) : PE X e (liftEB Z t) := ⟨fun pins s σ H Q I ⟨H0, G0, q⟩ => (h H0 G0).run pins s σ H Q I q⟩
theorem pts_TB {X : Cx} {e : List Expr} {Z : Wd} {t : TTD} (h : ∀ H0 G0 : Hp, DTs X ⟨Z, H0, G0, noW⟩ e t) : PTs X e (liftTB Z t) := ⟨fun pins s σ H Q I ⟨H0, G0, q⟩ => (h H0 G0).run pins s σ H Q I q⟩

/-- the turns that are left, what is found so far -/
@[simp] def lcD (tg : Tg) (own : List Nat) (tt : TTD) (te : TED) (env : EnvD) (Q : D → Nat → Prop) : List D → List D → Nat → Prop
  | [] => fun acc c => Q (.lst acc) c
  | d :: ds => fun acc c => tg.set d (wipeD env own) fun env1 => tt env1 c noWD fun b c1 => if b = true then te env1 c1 noWD fun y c2 => acc.length < sizeLine ∧ lcD tg own tt te env Q ds (acc ++ [y]) c2 else lcD tg own tt te env Q ds acc c1
@[simp] def tLcDD (tg : Tg) (own : List Nat) (ti : TLD) (tt : TTD) (te : TED) : TED := fun env c W Q => ti env c W fun ds c1 => lcD tg own tt te env Q ds [] c1
theorem NewB.not_lst {o : Option HO} {vs : List V} (h : NewB o) (e : o = some (.lst vs)) : False := by
  subst e
  rcases h with h | ⟨xs, h⟩ <;> cases h
theorem lc_use {F : Fd} {K : PySem.W.Frag} {tg : Tg} {vs : List Nat} {ti : TLD} {tt : TTD} {te : TED} {σ : L2.St} {H : Hp} {Q : VK} (hv : ∀ i ∈ tg.slots, i ∈ vs) (h : liftO F (tLcDD tg vs ti tt te) σ H Q) :
    tLc (liftI F ti) (tg.g K) (liftTB F.Z tt) (liftEB F.Z te) vs σ H Q := by
  obtain ⟨Hf, env, c, Wd, Qd, S, x, ht, k⟩ := h
  refine ⟨Hf, env, c, Wd, _, S, x, ht, fun J H1 Hf1 c1 ds S1 s1 k1 w q => fun p0 hD => ?_⟩
  have fD := S1.fresh hD
  have nm : ∀ (Hx : Hp), mask Hx (wipe σ vs) (wipeD env vs) p0 = Hx p0 := fun Hx => mask_out fun j d g1 g2 => by
    have hj : j ∉ vs := fun m => wipeD_in m g1
    rw [wipeD_out hj] at g1
    rw [DL.wipe_out hj] at g2
    exact fD.ns j d g1 g2
  refine ⟨fun i m H => m = ds.length - i ∧ i ≤ ds.length ∧ ∃ (Hf2 : Hp) (c : Nat) (acc : List D) (av : List V), Sim F.Z F.H0 F.G0 σ H Hf2 env c ∧ Same Hf1 Hf2 ∧ Keep F.Z H1 H ∧ H p0 = some (.lst av) ∧ RpL F.Z.toWz Hf2 acc av ∧ Hf2 p0 = none ∧ lcD tg vs tt te env Qd (ds.drop i) acc c,
    ⟨_, rfl, Nat.zero_le _, Hf1, c1, [], [], S1.laid hD _, Same.refl _, Keep.of (same_upd hD), upd_same, RpL.nil, fD.hf, q⟩, ?_⟩
  rintro i m H2 ⟨rfl, hi2, Hf2, c2, acc, av, S2, s2, k2, hD2, r2, f2, q2⟩
  by_cases hlt : i < ds.length
  · refine .inr ⟨w.goes i H2 Hf2 hlt s2 S2.sub, fun H => ∃ (Hf3 : Hp) (c : Nat) (acc : List D) (av : List V), Sim F.Z F.H0 F.G0 σ H Hf3 env c ∧ Same Hf1 Hf3 ∧ Keep F.Z H1 H ∧ H p0 = some (.lst av) ∧ RpL F.Z.toWz Hf3 acc av ∧ Hf3 p0 = none ∧ lcD tg vs tt te env Qd (ds.drop (i + 1)) acc c,
      fun H' z => ⟨_, ?_, rfl, hlt, z⟩, fun x H' y => ?_⟩
    · omega
    · obtain ⟨Hf3, d, g, e, r⟩ := w.yields i H2 x H' Hf2 hlt s2 S2.sub y
      rw [drop_cons e] at q2
      have S3 := S2.grow g
      have hD3 := g.h _ _ hD2
      have f3 : Hf3 p0 = none := by
        cases z : Hf3 p0 with
        | none => rfl
        | some o => exact (NewB.not_lst (g.new p0 (by rw [z]; exact fun z => by cases z) f2) hD2).elim
      refine Tg.use (S3.wiped vs).enter r q2 fun σ' env' B ⟨us, hσ⟩ hne q3 => ?_
      have hw : wipe σ' vs = wipe σ vs := by rw [hσ, setAll_wipe hv, wipe_wipe]
      have he : ∀ j, j ∉ vs → env'[j]? = env[j]? := fun j hj => (hne j fun z => hj (hv j z)).trans (wipeD_out hj)
      have hs : ∀ j, j ∉ vs → σ'[j]? = σ[j]? := fun j hj => by rw [← DL.wipe_out hj, hw, DL.wipe_out hj]
      have stay : ∀ {Hx Hfx : Hp} {cx : Nat}, Sim F.Z (mask H' (wipe σ vs) (wipeD env vs)) Hf3 σ' Hx Hfx env' cx → Hx p0 = some (.lst av) ∧ Hfx p0 = none := fun {Hx Hfx cx} Bx => by
        have hm : mask H' (wipe σ vs) (wipeD env vs) p0 = some (.lst av) := by rw [nm H']; exact hD3
        refine ⟨Bx.keep p0 _ hm fun z => fD.nt z.t, ?_⟩
        cases z : Hfx p0 with
        | none => rfl
        | some o => exact (NewB.not_lst (Bx.new p0 (by rw [z]; exact fun z => by cases z) f3) hm).elim
      refine ⟨hw, mask H' (wipe σ vs) (wipeD env vs), Hf3, Hf3, env', c2, noWD, _, B, xl_no, q3, fun b H4 Hf4 c4 B4 s4 k4 q4 => ?_⟩
      cases b with
      | true =>
        refine iteT ⟨mask H' (wipe σ vs) (wipeD env vs), Hf3, Hf4, env', c4, noWD, _, B4, xl_no, q4, fun v H5 Hf5 c5 d5 B5 s5 k5 r5 ⟨hl, q5⟩ => ?_⟩
        obtain ⟨hD5, f5⟩ := stay B5
        have S5 := S3.join B5 he hs
        have sx : Same Hf2 Hf5 := (g.hf.trans s4).trans s5
        refine ⟨av, hD5, by rw [← r2.length]; exact hl, Hf5, c5, acc ++ [d5], av ++ [v], S5.touch ⟨fD.h0, f5, fD.nt, fD.ns⟩ _ (fun u hu => by rw [hD5] at hu; cases hu; exact ntab_lst), s2.trans sx, ?_, upd_same, (RpL.mono sx _ _ r2).append (RpL.cons r5 RpL.nil), f5, q5⟩
        have kk : Keep F.Z H1 H5 := ((k2.trans (Keep.of g.h)).trans k4).trans k5
        exact Keep.refl.upd hD kk _
      | false =>
        obtain ⟨hD4, f4⟩ := stay B4
        exact iteF ⟨Hf4, c4, acc, av, S3.join B4 he hs, (s2.trans g.hf).trans s4, (k2.trans (Keep.of g.h)).trans k4, hD4, RpL.mono (g.hf.trans s4) _ _ r2, f4, q4⟩
  · have e : i = ds.length := by omega
    subst e
    rw [List.drop_length] at q2
    exact .inl ⟨w.stops H2 Hf2 s2 S2.sub, k p0 H2 Hf2 c2 (.lst acc) S2 (s1.trans s2) (k1.trans k2) ⟨fD.h0, f2, fD.nt, fD.ns⟩ (k1.upd hD k2) ⟨av, hD2, r2⟩ q2⟩
section
variable {X : Cx} {F : Fd} {elt target iter : Expr} {ifs : List Expr} {scope : Scope} {pos : Pos} {ti : TLD} {tt : TTD} {te : TED}
theorem do_lc (tg : Tg) {K : PySem.W.Frag} (own : List (Str × Nat)) (hc : X.calm = true) (hN : X.N.Nodup) (hi : DI X F target iter ti) (ok : BlkOk X.N X.env.scope scope own)
    (hg : InBlk X F scope fun X' _ => PG X' target (tg.g K)) (ht : InBlk X F scope fun X' F' => DTs X' F' ifs tt) (he : InBlk X F scope fun X' F' => DE X' F' elt te)
    (hv : ∀ i ∈ tg.slots, i ∈ own.map (·.2) := by decide) (hs : ∀ x, foldedSetIterable iter X.env x = pure x := by intro _; rfl) : DO X F (.ListComp elt [⟨target, iter, ifs, 0⟩] scope pos) (tLcDD tg (own.map (·.2)) ti tt te) :=
  PE.imp (pe_lc hc hN hi ok (fun s H C cl fp => hg s H C cl fp H H) (fun s H C cl fp => pts_TB (ht s H C cl fp)) (fun s H C cl fp => pe_EB (he s H C cl fp)) hs) fun σ H Q h => lc_use hv h
/-- name = [..] on one line, the name a local: the list in a slot of its own -/
theorem ds_setLc (i : Nat) {y : Str} {py spos : Pos} (tg : Tg) {K : PySem.W.Frag} (own : List (Str × Nat)) (hc : X.calm = true) (hN : X.N.Nodup) (hy : X.N[i]? = some y) (hyl : X.env.scope.names.lookup y = some .local)
    (hsw : swapsWith (.ListComp elt [⟨target, iter, ifs, 0⟩] scope pos) (some (.Name y py)) spos.line X.env = pure true) (hi : DI X F target iter ti) (ok : BlkOk X.N X.env.scope scope own)
    (hg : InBlk X F scope fun X' _ => PG X' target (tg.g K)) (ht : InBlk X F scope fun X' F' => DTs X' F' ifs tt) (he : InBlk X F scope fun X' F' => DE X' F' elt te)
    (hv : ∀ i ∈ tg.slots, i ∈ own.map (·.2) := by decide) (hs : ∀ x, foldedSetIterable iter X.env x = pure x := by intro _; rfl) :
    DS X F (.Assign [.Name y py] (.ListComp elt [⟨target, iter, ifs, 0⟩] scope pos) spos) (tSetO i (tLcDD tg (own.map (·.2)) ti tt te)) :=
  PS.imp (ps_setLc hc hN hy hyl hsw hi ok (fun s H C cl fp => hg s H C cl fp H H) (fun s H C cl fp => pts_TB (ht s H C cl fp)) (fun s H C cl fp => pe_EB (he s H C cl fp)) hs) fun D σ H ⟨Hf, env, c, Dd, S, L, h⟩ =>
    lc_use hv ⟨Hf, env, c, _, _, S, L.xl σ env, h, fun a H' Hf' c' d S' s1 _ f _ r q => L.nx _ H' Hf' _ c' (S'.setOwn f r i) s1 q⟩
end
end DL
set_option Elab.async false
set_option linter.all false
set_option maxRecDepth 100000
set_option maxHeartbeats 1000000
/-! DL11: defs with the law's state at hand. -/
namespace DL
open PySem PySem.Spec PyProof.Rows L2

structure GrowS (Z : Wz) (Hf H Hf' H' : Hp) : Prop where
  hf : Same Hf Hf'
  h : KeepX ⟨Z, true, []⟩ H H'
  sub : Same Hf' H'
  new : ∀ b, Hf' b ≠ none → Hf b = none → NewB (H b)
  stf : ∀ b, (b = Z.sa ∨ b = Z.sl) → Hf' b = none
  ntb : ∀ b ps, Hf' b = some (.tbl ps) → Hf b = some (.tbl ps)
section
variable {Z : Wd} {H0 G0 : Hp} {σ : L2.St} {H Hf H' Hf' : Hp} {env : EnvD} {c c' : Nat}
theorem keep_of {Z : Wd} {H H' : Hp} (hz : Z.sf = true) (k : KeepX ⟨Z.toWz, true, []⟩ H H') : Keep Z H H' := fun b o e n => .inr ⟨o, k b o e fun s => n ⟨hz, s.2⟩, id⟩
theorem keepX_of {Z : Wd} {H H' : Hp} (hz : Z.sf = true) (k : KeepX ⟨Z.toWz, true, []⟩ H H') : KeepX Z H H' := fun b o e n => k b o e fun s => n ⟨hz, s.2⟩
theorem Sim.growS (S : Sim Z H0 G0 σ H Hf env c) (hz : Z.sf = true) (g : GrowS Z.toWz Hf H Hf' H') (st : StAt Z.toWz H' c') : Sim Z H0 G0 σ H' Hf' env c' where
  sub := g.sub
  g0 := S.g0.trans g.hf
  new := fun b h1 h2 => by
    by_cases e : Hf b = none
    · have hb := g.new b h1 e
      cases q : H0 b with
      | none => exact .inl rfl
      | some o =>
        by_cases s : Z.S b
        · exact absurd (g.stf b s.2) h1
        · rw [S.keep b o q s] at hb
          exact hb
    · exact S.new b e h2
  keep := fun b o h n => g.h b o (S.keep b o h n) fun s => n ⟨hz, s.2⟩
  len := S.len
  val := fun i d h => let ⟨v, h1, h2⟩ := S.val i d h; ⟨v, h1, Rp.mono g.hf _ _ h2⟩
  own := fun i d h => by
    obtain ⟨a, h1, h2, h3, h4, h5⟩ := S.own i d h
    refine ⟨a, h1, ?_, h3, h4, OwnRp.mono g.hf (keepX_of hz g.h) h4 h5⟩
    cases q : Hf' a with
    | none => rfl
    | some o =>
      have z := g.new a (by rw [q]; exact fun z => by cases z) h2
      cases d with
      | lst ds => obtain ⟨vs, e, _⟩ := h5; rw [e] at z; rcases z with z | ⟨xs, z⟩ <;> cases z
      | dic t ks ds => cases t <;> (obtain ⟨kvs, e, _⟩ := h5; rw [e] at z; rcases z with z | ⟨xs, z⟩ <;> cases z)
      | _ => exact h5.elim
  inj := S.inj
  st := fun _ => st
  stf := fun b s => g.stf b s.2
  tab := tabs_keep (fun b u e it => g.h b u e fun s => by
    obtain ⟨_, _, _, _, a1, a2, _⟩ := S.st hz
    rcases s.2 with z | z
    · replace z : b = Z.sa := z
      rw [z, a1] at e; cases e; exact ntab_dK it
    · replace z : b = Z.sl := z
      rw [z, a2] at e; cases e; exact ntab_lst it) S.tab
  ntb := fun b ps h => S.ntb b ps (g.ntb b ps h)
theorem Sim.backS (S : Sim Z H0 G0 σ H Hf env c) (hz : Z.sf = true) : GrowS Z.toWz G0 H0 Hf H :=
  ⟨S.g0, fun b o h n => S.keep b o h fun s => n ⟨rfl, s.2⟩, S.sub, S.new, fun b s => S.stf b ⟨hz, s⟩, S.ntb⟩
end

/-- a promise over trees of a def that may draw: arguments, the count of draws, wanted exception, wanted value -/
abbrev PFS := List D → Nat → WD → (D → Nat → Prop) → Prop
def spS (K : PySem.W.Frag) (mg : Str → Option Value) (f : PFS) : Sp := fun vs H Q E => ∃ (Z : Wz) (ds : List D) (G : Hp) (c : Nat) (W : WD) (R : D → Nat → Prop), Z.K = K ∧ Z.mg = mg ∧ Same G H ∧ RpL Z G ds vs ∧ StAt Z H c ∧ (∀ b, (b = Z.sa ∨ b = Z.sl) → G b = none) ∧ f ds c W R ∧
  (∀ (v : V) (H' G' : Hp) (d : D) (c' : Nat), GrowS Z G H G' H' → StAt Z H' c' → Rp Z G' d v → R d c' → Q v H') ∧
  (∀ (cls : Value) (dx : Option Addr) (H' G' : Hp) (d : D) (c' : Nat), GrowS Z G H G' H' → StAt Z H' c' → IsX Z G' cls dx d → W d c' → E cls dx H')
section
variable {P : Program} {w : World} {K : PySem.W.Frag} {mg : Str → Option Value} {base : Heap}
/-- the frame of a def with the state at hand -/
abbrev fdS (K : PySem.W.Frag) (mg : Str → Option Value) (sa sl sc : Addr) (H G : Hp) (W : WX) : Fd := ⟨⟨⟨K, mg, sa, sl, sc⟩, true, []⟩, H, G, W⟩
theorem okS {x qual : Str} {st : Stmt} {f : Addr} {fd : FuncData} {N ps : List Str} {k : Nat} {pf : PFS} (Fn : Fun K x qual st f fd) (S : FnScope N ps (defScope st)) (len : ∀ ds c W R, pf ds c W R → ds.length = ps.length)
    (hbody : ∀ (X : Cx) (F : Fd) (cdv : Value) (A : Around) (outer : List Env) (s : Shared) (H G : Hp) (sa sl sc : Addr) (E : XK), X = cxOf (L2.CX P w) P w K mg base N qual (defScope st) f cdv A outer s H E → F = fdS K mg sa sl sc H G (fun cls d _ H => E cls d H) →
      Takes X F.W → Room k X.A → ∃ t, DSs X F (defBody st) t ∧ ∀ (ds : List D) (c : Nat) (W : WD) (R : D → Nat → Prop), pf ds c W R → t { nx := fun _ c => R .non c, rt := R, ex := fun d _ c => W d c } (envAt N.length ds) c) :
    FnOk P w K mg base (L2.CX P w) (k + 1) f fd ps (spS K mg pf) := by
  refine Fn.okX S (fun vs H Q E h => ?_) fun cdv A outer s H vs Q E hr h => ?_
  · obtain ⟨Z, ds, G, c, W, R, _, _, _, r, _, _, hp, _⟩ := h
    rw [← r.length]
    exact len _ _ _ _ hp
  · obtain ⟨⟨K', mg', sa, sl, sc⟩, ds, G, c, W, R, e1, e2, g, r, st, sf, hp, kq, kx⟩ := h
    cases e1
    cases e2
    obtain ⟨t, ht, hq⟩ := hbody _ (fdS K' mg' sa sl sc H G (fun cls d _ H => E cls d H)) cdv A outer s H G sa sl sc E rfl rfl (takes_of rfl rfl rfl rfl) hr
    refine ⟨_, ht, G, envAt N.length ds, c, _, Sim.begin (Z := ⟨⟨K', mg', sa, sl, sc⟩, true, []⟩) g r (fun _ => st) (fun b s => sf b s.2) (fun _ z => absurd z List.not_mem_nil), ?_, hq ds c W R hp⟩
    refine ⟨fun σ' H' Hf' env' c' S' _ q => ?_, fun σ' H' Hf' env' c' d v S' _ r' q => ?_, fun σ' H' Hf' env' c' S' _ q => q.elim, fun σ' H' Hf' env' c' S' _ q => q.elim, fun σ' H' Hf' env' c' cls dx d S' x' q => ?_⟩
    · exact kq .non H' Hf' .non c' (S'.backS rfl) (S'.st rfl) (rp_non.mpr rfl) q
    · exact kq v H' Hf' d c' (S'.backS rfl) (S'.st rfl) r' q
    · exact kx cls dx H' Hf' d c' (S'.backS rfl) (S'.st rfl) x' q
end
/-! ### a call of such a def -/
@[simp] def tDrawn (f : PFS) (t : TAD) : TED := fun env c W Q => t env c W fun ds c1 => f ds c1 W Q
section
variable {X : Cx} {F : Fd} {k : Nat} {f : Addr} {fd : FuncData} {ps : List Str} {pf : PFS} {x : Str} {p pos : Pos} {e : Expr} {es : List Expr} {t : TAD}
theorem callS_use {σ : L2.St} {H : Hp} {Q : VK} {K : PySem.W.Frag} {mg : Str → Option Value} (hz : F.Z.sf = true) (hK : F.Z.K = K) (hM : F.Z.mg = mg) (h : liftE F (tDrawn pf t) σ H Q) : tCallS (spS K mg pf) (WE F.W) (liftA F t) σ H Q := by
  obtain ⟨Hf, env, c, Wd, Qd, S, x, ht, k⟩ := h
  refine ⟨Hf, env, c, Wd, _, S, x, ht, fun vs H1 Hf1 c1 ds S1 s1 k1 r1 q1 => ?_⟩
  refine ⟨F.Z.toWz, ds, Hf1, c1, _, _, hK, hM, S1.sub, r1, S1.st hz, fun b s => S1.stf b ⟨hz, s⟩, q1, fun v H' G' d c' g st r q => ?_, fun cls dx H' G' d c' g st i q => ?_⟩
  · exact k v H' G' c' d (S1.growS hz g st) (s1.trans g.hf) (k1.trans (keep_of hz g.h)) r q
  · exact x cls dx H' G' c' d (S1.growS hz g st) i q
theorem de_callS (Fk : FnOk X.prog X.w X.K X.mg X.base (L2.CX X.prog X.w) k f fd ps (spS X.K X.mg pf)) (hr : Room k X.A) (hm : X.mg x = some (.ref f)) (hk : PySem.W.keepIn X.K (.ref f) = true) (hb : Binds X.K fd ps []) (tk : Takes X F.W)
    (ha : DA X F (e :: es) t) (hz : F.Z.sf = true := by rfl) (hg : Gl X x := by rfl) (hK : F.Z.K = X.K := by rfl) (hM : F.Z.mg = X.mg := by rfl) (hdb : (x == ("__debug__" : Str)) = false := by decide) (he : starEach (e :: es) X.env = (false, eval e X.env) :: starEach es X.env := by rfl)
    (hpl : (backTo pos (starEach es X.env)).any (·.1) = false := by rfl) : DE X F (.Call (.Name x p) (e :: es) [] pos) (tDrawn pf t) :=
  PE.imp (pe_callS Fk hr hg hm hk hb (fun σ => passAt tk σ) ha hdb he hpl) fun σ H Q h => callS_use hz hK hM h
end
end DL
set_option Elab.async false
set_option linter.all false
set_option maxRecDepth 100000
set_option maxHeartbeats 1000000
/-! DL12: _law_draw, by hand. -/
namespace DL
open PySem PySem.Spec PyProof.Rows L2

/-! ### lists of ints, as data -/
def pyInts (ls : List Int) : PyData := .list (ls.map .int)
theorem pyInts_lay : ∀ ls : List Int, PyData.canLayAll0 (ls.map .int) = true
  | [] => by simp [PyData.canLayAll0]
  | z :: zs => by simp [PyData.canLayAll0, PyData.canLay0, pyInts_lay zs]
theorem pyInts_depth : ∀ ls : List Int, PyData.depthAll (ls.map .int) = 0
  | [] => by simp [PyData.depthAll]
  | z :: zs => by
    have h1 := pyInts_depth zs
    simp only [List.map_cons, PyData.depthAll, PyData.depth, h1]
    omega
theorem pyInts_shaped (ls : List Int) : SeqAt.shaped (pyInts ls) = true := by
  have h1 := pyInts_depth ls
  have h2 : PyData.depth (pyInts ls) ≤ 64 := by
    simp only [pyInts, PyData.depth, h1]
    omega
  show (PyData.canLay0 (pyInts ls) && decide (PyData.depth (pyInts ls) ≤ 64)) = true
  rw [Bool.and_eq_true]
  exact ⟨by simp only [pyInts, PyData.canLay0]; exact pyInts_lay ls, decide_eq_true h2⟩
theorem pyInts_ne (ls : List Int) : (!PyData.eqv (pyInts ls) (pyInts [])) = !ls.isEmpty := by
  cases ls with
  | nil => simp [pyInts, PyData.eqv, PyData.eqvAll]
  | cons a r => simp [pyInts, PyData.eqv, PyData.eqvAll]
theorem dp_ints {K : PySem.W.Frag} {H : Hp} {a : Addr} {ls : List Int} (h : H a = some (.lst (ls.map V.int))) : Dp K H (.ref a) (pyInts ls) := by
  refine Dp.lst (SqL.of h) ?_
  clear h
  induction ls with
  | nil => exact DpAll.nil
  | cons z r ih => exact DpAll.cons (Dp.int z) ih

/-! ### the readings -/
def rDct : R2 := fun x y H Q => ∃ a v, x = .ref a ∧ DGet H a y (some v) ∧ Q v H
def tSt (k : Str) : TE := tOp rDct (tVar 0) (tC (.str k))
def rIntC : List V → Hp → VK → Prop := fun xs H Q => (∃ i, xs = [.int i] ∧ Q (.int i) H) ∨ ∃ k, xs = [.bl k] ∧ Q (.int (if k then 1 else 0)) H
def tInt (t : TE) : TE := tCB rIntC (tCons t tNil)
def rGtS : R2 := rI0 fun i j => .bl (decide (j < i))
def rAddI : R2 := rI0 fun i j => .int (i + j)
def rMulI : R2 := rI CMul fun i j => .int (i * j)
def rModI : R2 := rI (fun _ j => 0 < j) fun i j => .int (i % j)
def rDivI : R2 := rI CDiv fun i j => .int (i / j)
def rPowI : R2 := rI CPow fun i j => .int (i ^ j.toNat)
def rLenQ (K : PySem.W.Frag) : List V → Hp → VK → Prop := fun xs H Q => ∃ p ys, xs = [.ref p] ∧ (SqL K H p ys ∨ SqT K H p ys) ∧ Q (.int ys.length) H
def tDrawW (K : PySem.W.Frag) : TS := tWhile (tAnd (tTest (tOp rEq (tSt "left") (tC (.int 0)))) (tTest (tOp (rNeD K) (tSt "large") (tLst tNil)))) (tAsg (tBM K "list" rPopAt (tSt "large") (tCons (tC (.int 0)) tNil)) (gSub (tVar 0) (tC (.str "left")) rSetD))
def tDrawI : TS := tIfS (tTest (tOp rGtS (tSt "left") (tC (.int 0)))) (tSeq (tAsg (tOp rModI (tInt (tSt "left")) (tVar 1)) (gName 2)) (tSeq (tAsg (tOp rDivI (tSt "left") (tVar 1)) (gSub (tVar 0) (tC (.str "left")) rSetD)) (tRet (tVar 2)))) tNext
def tDrawT : TS := tSeq (tAsg (tOp rAddI (tSt "turn") (tC (.int 1))) (gName 3)) (tAsg (tVar 3) (gSub (tVar 0) (tC (.str "turn")) rSetD))
def tDrawC (K : PySem.W.Frag) : TS := tAsg (tIf (tTest (tOp (rNeD K) (tSt "cells") (tLst tNil))) (tOp (rIx K) (tSt "cells") (tOp rModI (tInt (tVar 3)) (tCB (rLenQ K) (tCons (tSt "cells") tNil)))) (tC (.int 0))) (gName 4)
def tDrawM : TS := tAsg (tOp rModI (tInt (tOp rPowI (tOp rAddI (tOp rAddI (tOp rModI (tInt (tVar 4)) (tC (.int 2147483563))) (tOp rMulI (tC (.int 40692)) (tVar 3))) (tC (.int 24681))) (tC (.int 3)))) (tC (.int 2147483629))) (gName 5)
def tDrawR : TS := tRet (tOp rModI (tInt (tOp rDivI (tOp rModI (tInt (tOp rPowI (tOp rAddI (tVar 5) (tOp rMulI (tC (.int 104917)) (tVar 3))) (tC (.int 5)))) (tC (.int 2147483579))) (tC (.int 29)))) (tVar 1))
def tDraw (K : PySem.W.Frag) : TS := tSeq (tDrawW K) (tSeq tDrawI (tSeq (tAsg (tOp rAddI (tSt "turn") (tC (.int 1))) (gName 3)) (tSeq (tAsg (tVar 3) (gSub (tVar 0) (tC (.str "turn")) rSetD)) (tSeq (tDrawC K) (tSeq tDrawM tDrawR)))))
/-- the promise: any number below n -/
def drawPF : PFS := fun ds c _ R => ∃ n : Int, ds = [.st, .int n] ∧ 0 < n ∧ n < 1073741824 ∧ c < 2 ^ 40 ∧ ∀ v : Int, 0 ≤ v → v < n → R (.int v) (c + 1)

/-- the state by its parts -/
structure StX (Z : Wz) (H : Hp) (l t : Int) (ls cs : List Int) : Prop where
  a : H Z.sa = some (.dK [(.inr "large", .ref Z.sl), (.inr "cells", .ref Z.sc), (.inr "left", .int l), (.inr "turn", .int t)])
  l : H Z.sl = some (.lst (ls.map V.int))
  c : H Z.sc = some (.lst (cs.map V.int))
  n1 : Z.sa ≠ Z.sl
  n2 : Z.sa ≠ Z.sc
  n3 : Z.sl ≠ Z.sc
theorem val_pos {k : Key} {v : V} {r : List (Key × V)} : some v = valV ((k, v) :: r) k := by rw [valV_pos rfl]
theorem big3 {w t : Int} (h1 : 0 ≤ w) (h2 : w < 2147483563) (h3 : 0 ≤ t) (h4 : t < 2 ^ 41) : (w + 40692 * (t + 1) + 24681).natAbs < 2 ^ 64 := by omega
theorem big5 {w t : Int} (h1 : 0 ≤ w) (h2 : w < 2147483629) (h3 : 0 ≤ t) (h4 : t < 2 ^ 41) : (w + 104917 * (t + 1)).natAbs < 2 ^ 64 := by omega
section
variable {Z : Wz} {H H' : Hp} {l t : Int} {ls cs : List Int}
theorem kLC : ¬ ((.inr "large" : Key) = .inr "cells") := by decide +kernel
theorem kLl : ¬ ((.inr "large" : Key) = .inr "left") := by decide +kernel
theorem kLt : ¬ ((.inr "large" : Key) = .inr "turn") := by decide +kernel
theorem kCl : ¬ ((.inr "cells" : Key) = .inr "left") := by decide +kernel
theorem kCt : ¬ ((.inr "cells" : Key) = .inr "turn") := by decide +kernel
theorem klt : ¬ ((.inr "left" : Key) = .inr "turn") := by decide +kernel
theorem ktl : ¬ ((.inr "turn" : Key) = .inr "left") := by decide +kernel
theorem StX.mono (S : StX Z H l t ls cs) (s : Same H H') : StX Z H' l t ls cs := ⟨s _ _ S.a, s _ _ S.l, s _ _ S.c, S.n1, S.n2, S.n3⟩
theorem StX.gLarge (S : StX Z H l t ls cs) {Q : VK} {σ : L2.St} (h0 : σ[0]? = some (some (.ref Z.sa))) (q : Q (.ref Z.sl) H) : tSt "large" σ H Q :=
  ⟨_, h0, Z.sa, .ref Z.sl, rfl, .inl ⟨_, .inr "large", .inl S.a, rfl, val_pos⟩, q⟩
theorem StX.gCells (S : StX Z H l t ls cs) {Q : VK} {σ : L2.St} (h0 : σ[0]? = some (some (.ref Z.sa))) (q : Q (.ref Z.sc) H) : tSt "cells" σ H Q :=
  ⟨_, h0, Z.sa, .ref Z.sc, rfl, .inl ⟨_, .inr "cells", .inl S.a, rfl, by rw [valV_neg kLC]; exact val_pos⟩, q⟩
theorem StX.gLeft (S : StX Z H l t ls cs) {Q : VK} {σ : L2.St} (h0 : σ[0]? = some (some (.ref Z.sa))) (q : Q (.int l) H) : tSt "left" σ H Q :=
  ⟨_, h0, Z.sa, .int l, rfl, .inl ⟨_, .inr "left", .inl S.a, rfl, by rw [valV_neg kLl, valV_neg kCl]; exact val_pos⟩, q⟩
theorem StX.gTurn (S : StX Z H l t ls cs) {Q : VK} {σ : L2.St} (h0 : σ[0]? = some (some (.ref Z.sa))) (q : Q (.int t) H) : tSt "turn" σ H Q :=
  ⟨_, h0, Z.sa, .int t, rfl, .inl ⟨_, .inr "turn", .inl S.a, rfl, by rw [valV_neg kLt, valV_neg kCt, valV_neg klt]; exact val_pos⟩, q⟩
theorem put_left (x y : V) (l t l' : V) : putK [(.inr "large", x), (.inr "cells", y), (.inr "left", l), (.inr "turn", t)] (.inr "left") l' = ([(.inr "large", x), (.inr "cells", y), (.inr "left", l'), (.inr "turn", t)] : List (Key × V)) := by
  unfold putK
  rw [if_pos (by simp)]
  simp only [List.map_cons, List.map_nil, if_neg kLl, if_neg kCl, if_neg ktl, if_true]
theorem put_turn (x y : V) (l t t' : V) : putK [(.inr "large", x), (.inr "cells", y), (.inr "left", l), (.inr "turn", t)] (.inr "turn") t' = ([(.inr "large", x), (.inr "cells", y), (.inr "left", l), (.inr "turn", t')] : List (Key × V)) := by
  unfold putK
  rw [if_pos (by simp)]
  simp only [List.map_cons, List.map_nil, if_neg kLt, if_neg kCt, if_neg klt, if_true]
theorem keep_sa {o : HO} : KeepX ⟨Z, true, []⟩ H (upd H Z.sa o) := fun b u e n => by
  rw [upd_ne fun z => n ⟨rfl, .inl z⟩]
  exact e
theorem keep_sl {o : HO} : KeepX ⟨Z, true, []⟩ H (upd H Z.sl o) := fun b u e n => by
  rw [upd_ne fun z => n ⟨rfl, .inr z⟩]
  exact e
theorem StX.pLeft (S : StX Z H l t ls cs) {σ : L2.St} {Q : L2.St → Hp → Prop} {l' : Int} (h0 : σ[0]? = some (some (.ref Z.sa))) (q : ∀ H', StX Z H' l' t ls cs → KeepX ⟨Z, true, []⟩ H H' → Q σ H') : gSub (tVar 0) (tC (.str "left")) rSetD (.int l') σ H Q := by
  refine ⟨_, h0, Z.sa, _, rfl, DPut.k (k := .inr "left") S.a (show 4 < sizeLine by rw [sizeLine_eq]; decide), ?_⟩
  rw [put_left]
  refine q _ ⟨upd_same, ?_, ?_, S.n1, S.n2, S.n3⟩ keep_sa
  · rw [upd_ne S.n1.symm]; exact S.l
  · rw [upd_ne S.n2.symm]; exact S.c
theorem StX.pTurn (S : StX Z H l t ls cs) {σ : L2.St} {Q : L2.St → Hp → Prop} {t' : Int} (h0 : σ[0]? = some (some (.ref Z.sa))) (q : ∀ H', StX Z H' l t' ls cs → KeepX ⟨Z, true, []⟩ H H' → Q σ H') : gSub (tVar 0) (tC (.str "turn")) rSetD (.int t') σ H Q := by
  refine ⟨_, h0, Z.sa, _, rfl, DPut.k (k := .inr "turn") S.a (show 4 < sizeLine by rw [sizeLine_eq]; decide), ?_⟩
  rw [put_turn]
  refine q _ ⟨upd_same, ?_, ?_, S.n1, S.n2, S.n3⟩ keep_sa
  · rw [upd_ne S.n1.symm]; exact S.l
  · rw [upd_ne S.n2.symm]; exact S.c
theorem StX.pop {z : Int} {r : List Int} {K : PySem.W.Frag} (S : StX Z H l t (z :: r) cs) {σ : L2.St} {Q : VK} (h0 : σ[0]? = some (some (.ref Z.sa))) (q : ∀ H', StX Z H' l t r cs → KeepX ⟨Z, true, []⟩ H H' → Q (.int z) H') :
    tBM K "list" rPopAt (tSt "large") (tCons (tC (.int 0)) tNil) σ H Q := by
  refine S.gLarge h0 ⟨.inl ⟨rfl, _, SqL.of S.l⟩, Z.sl, _, 0, 0, .int z, rfl, rfl, S.l, by decide, by decide, seqIndex_of (by decide) (by simp), rfl, ?_⟩
  refine q _ ⟨?_, ?_, ?_, S.n1, S.n2, S.n3⟩ keep_sl
  · rw [upd_ne S.n1]; exact S.a
  · rw [upd_same]; rfl
  · rw [upd_ne S.n3.symm]; exact S.c
/-- state[k] != [] -/
theorem ne_nil {K : PySem.W.Frag} {a : Addr} {xs : List Int} {σ : L2.St} {Q : Bool → Hp → Prop} {te : TE} (h : ∀ Q', Q' (.ref a) H → te σ H Q') (hx : H a = some (.lst (xs.map V.int))) (q : ∀ H', Same H H' → Q (!xs.isEmpty) H') : tTest (tOp (rNeD K) te (tLst tNil)) σ H Q := by
  refine h _ ⟨Nat.zero_le _, fun p hp => ?_⟩
  have s : Same H (upd H p (.lst [])) := same_upd hp
  refine ⟨pyInts xs, pyInts [], dp_ints (s _ _ hx), dp_ints (ls := []) upd_same, pyInts_shaped _, pyInts_shaped _, _, rfl, ?_⟩
  rw [pyInts_ne]
  exact q _ s
theorem keepS (s : Same H H') : KeepX ⟨Z, true, []⟩ H H' := KeepX.of s
end
/-- the frame of a draw -/
theorem draw_run {K : PySem.W.Frag} {Z : Wz} {H : Hp} {l t n : Int} {ls cs : List Int} {D0 : Ends} {s2 s3 s4 s5 : Option V} (S : StX Z H l t ls cs) (hl : 0 ≤ l) (ht : 0 ≤ t) (htb : t < 2 ^ 41) (hls : ∀ z ∈ ls, 0 ≤ z) (hcs : ∀ z ∈ cs, 0 ≤ z) (hn : 0 < n) (hn2 : n < 1073741824)
    (q : ∀ (v l' t' : Int) (ls' : List Int) (H' : Hp), 0 ≤ v → v < n → StX Z H' l' t' ls' cs → 0 ≤ l' → 0 ≤ t' → t' ≤ t + 1 → (∀ z ∈ ls', 0 ≤ z) → KeepX ⟨Z, true, []⟩ H H' → D0.rt (.int v) H') :
    tDraw K D0 [some (.ref Z.sa), some (.int n), s2, s3, s4, s5] H := by
  have behind : ∀ (H1 : Hp) (l1 : Int) (ls1 : List Int), StX Z H1 l1 t ls1 cs → 0 ≤ l1 → (∀ z ∈ ls1, 0 ≤ z) → KeepX ⟨Z, true, []⟩ H H1 →
      (tSeq tDrawI (tSeq (tAsg (tOp rAddI (tSt "turn") (tC (.int 1))) (gName 3)) (tSeq (tAsg (tVar 3) (gSub (tVar 0) (tC (.str "turn")) rSetD)) (tSeq (tDrawC K) (tSeq tDrawM tDrawR))))) D0 [some (.ref Z.sa), some (.int n), s2, s3, s4, s5] H1 := by
    intro H1 l1 ls1 S1 hl1 hls1 k1
    have e0 : ([some (V.ref Z.sa), some (V.int n), s2, s3, s4, s5] : L2.St)[0]? = some (some (.ref Z.sa)) := rfl
    refine S1.gLeft e0 ⟨l1, 0, rfl, rfl, decide (0 < l1), rfl, ?_⟩
    by_cases hp : 0 < l1
    · rw [decide_eq_true hp]
      refine iteT ?_
      refine S1.gLeft e0 (.inl ⟨l1, rfl, _, rfl, l1, n, rfl, rfl, hn, ?_⟩)
      have e1 : ([some (V.ref Z.sa), some (V.int n), some (V.int (l1 % n)), s3, s4, s5] : L2.St)[0]? = some (some (.ref Z.sa)) := rfl
      refine S1.gLeft e1 ⟨_, rfl, l1, n, rfl, rfl, ⟨hn, hn2⟩, ?_⟩
      refine S1.pLeft e1 fun H2 S2 k2 => ⟨_, rfl, ?_⟩
      exact q (l1 % n) (l1 / n) t ls1 H2 (Int.emod_nonneg _ (by omega)) (Int.emod_lt_of_pos _ hn) S2 (Int.ediv_nonneg hl1 (by omega)) ht (by omega) hls1 (k1.trans k2)
    · rw [decide_eq_false hp]
      refine iteF ?_
      refine S1.gTurn e0 ⟨t, 1, rfl, rfl, ?_⟩
      have e1 : ([some (V.ref Z.sa), some (V.int n), s2, some (V.int (t + 1)), s4, s5] : L2.St)[0]? = some (some (.ref Z.sa)) := rfl
      refine ⟨_, rfl, S1.pTurn e1 fun H2 S2 k2 => ?_⟩
      have behind2 : ∀ (H3 : Hp) (w : Int), StX Z H3 l1 (t + 1) ls1 cs → 0 ≤ w → KeepX ⟨Z, true, []⟩ H H3 → (tSeq tDrawM tDrawR) D0 [some (.ref Z.sa), some (.int n), s2, some (.int (t + 1)), some (.int w), s5] H3 := by
        intro H3 w S3 hw k3
        have hm0 : 0 ≤ w % 2147483563 := Int.emod_nonneg _ (by omega)
        have hm1 : w % 2147483563 < 2147483563 := Int.emod_lt_of_pos _ (by omega)
        refine ⟨_, rfl, .inl ⟨w, rfl, w, 2147483563, rfl, rfl, (show (0 : Int) < 2147483563 by decide), _, rfl, 40692, t + 1, rfl, rfl, .inl ⟨by decide, by decide⟩, _, _, rfl, rfl, _, _, rfl, rfl, _, _, rfl, rfl, ⟨by decide, by decide, big3 hm0 hm1 ht htb⟩, .inl ⟨_, rfl, _, _, rfl, rfl, (show (0 : Int) < 2147483629 by decide), ?_⟩⟩⟩
        refine ⟨_, rfl, _, rfl, 104917, t + 1, rfl, rfl, .inl ⟨by decide, by decide⟩, _, _, rfl, rfl, _, _, rfl, rfl, ⟨by decide, by decide, big5 (Int.emod_nonneg _ (by omega)) (Int.emod_lt_of_pos _ (by omega)) ht htb⟩, .inl ⟨_, rfl, _, _, rfl, rfl, (show (0 : Int) < 2147483579 by decide), _, _, rfl, rfl, ⟨by decide, by decide⟩, .inl ⟨_, rfl, _, rfl, _, n, rfl, rfl, hn, ?_⟩⟩⟩
        exact q _ l1 (t + 1) ls1 H3 (Int.emod_nonneg _ (by omega)) (Int.emod_lt_of_pos _ hn) S3 hl1 (by omega) (by omega) hls1 k3
      have e2 : ([some (V.ref Z.sa), some (V.int n), s2, some (V.int (t + 1)), s4, s5] : L2.St)[0]? = some (some (.ref Z.sa)) := rfl
      refine ne_nil (K := K) (te := tSt "cells") (fun Q' q' => S2.gCells e2 q') S2.c fun H3 s3' => ?_
      have S3 := S2.mono s3'
      have k3 : KeepX ⟨Z, true, []⟩ H H3 := (k1.trans k2).trans (keepS s3')
      cases hc : cs with
      | nil => exact iteF (behind2 H3 0 S3 (by decide) k3)
      | cons z r =>
        refine iteT (S3.gCells e2 ⟨_, rfl, .inl ⟨t + 1, rfl, S3.gCells e2 ⟨Z.sc, _, rfl, .inl (SqL.of S3.c), ?_⟩⟩⟩)
        rw [List.length_map]
        have hlen : 0 < cs.length := by rw [hc]; simp
        have i0 : 0 ≤ (t + 1) % (cs.length : Int) := Int.emod_nonneg _ (by omega)
        have i1 : (t + 1) % (cs.length : Int) < cs.length := Int.emod_lt_of_pos _ (by omega)
        have hj : ((t + 1) % (cs.length : Int)).toNat < cs.length := by omega
        have eg : (cs.map V.int)[((t + 1) % (cs.length : Int)).toNat]? = some (.int (cs[((t + 1) % (cs.length : Int)).toNat])) := by
          rw [List.getElem?_map, List.getElem?_eq_getElem hj]; rfl
        have ea := atI_nat eg
        rw [Int.toNat_of_nonneg i0] at ea
        refine ⟨_, _, rfl, rfl, by omega, .inl ⟨Z.sc, _, _, _, rfl, rfl, SqL.of S3.c, ea, ?_⟩⟩
        exact behind2 H3 _ S3 (hcs _ (List.getElem_mem hj)) k3
  refine ⟨fun m σ H1 => σ = [some (.ref Z.sa), some (.int n), s2, s3, s4, s5] ∧ ∃ (l1 : Int) (ls1 : List Int), m = ls1.length ∧ StX Z H1 l1 t ls1 cs ∧ 0 ≤ l1 ∧ (∀ z ∈ ls1, 0 ≤ z) ∧ KeepX ⟨Z, true, []⟩ H H1, ⟨ls.length, rfl, l, ls, rfl, S, hl, hls, KeepX.refl⟩, ?_⟩
  rintro m σ H1 ⟨rfl, l1, ls1, rfl, S1, hl1, hls1, k1⟩
  have e0 : ([some (V.ref Z.sa), some (V.int n), s2, s3, s4, s5] : L2.St)[0]? = some (some (.ref Z.sa)) := rfl
  refine S1.gLeft e0 ⟨rfl, decide (V.int l1 = V.int 0), rfl, ?_⟩
  by_cases hz : l1 = 0
  · rw [decide_eq_true (by rw [hz])]
    refine iteT ?_
    refine ne_nil (K := K) (te := tSt "large") (fun Q' q' => S1.gLarge e0 q') S1.l fun H2 s2' => ?_
    have S2 := S1.mono s2'
    cases ls1 with
    | nil => exact iteF (behind H2 l1 [] S2 hl1 hls1 (k1.trans (keepS s2')))
    | cons z r =>
      refine iteT ⟨fun σ' H' => σ' = [some (.ref Z.sa), some (.int n), s2, s3, s4, s5] ∧ ∃ (l1 : Int), StX Z H' l1 t r cs ∧ 0 ≤ l1 ∧ KeepX ⟨Z, true, []⟩ H H', fun σ' H' ⟨e, l2, S3, h3, k3⟩ => ⟨r.length, by simp, e, l2, r, rfl, S3, h3, fun z hz => hls1 z (List.mem_cons_of_mem _ hz), k3⟩, ?_⟩
      refine S2.pop e0 fun H3 S3 k3 => ?_
      refine S3.pLeft e0 fun H4 S4 k4 => ?_
      exact ⟨rfl, z, S4, hls1 z List.mem_cons_self, ((k1.trans (keepS s2')).trans k3).trans k4⟩
  · rw [decide_eq_false (fun e => hz (by cases e; rfl))]
    exact iteF (iteF (behind H1 l1 ls1 S1 hl1 hls1 k1))
end DL
namespace DL
open PySem PySem.Spec PyProof.Rows L2
section
variable {P : Program} {w : World} {K : PySem.W.Frag} {mg : Str → Option Value} {base : Heap}
theorem ok_draw {x qual : Str} {st : Stmt} {f : Addr} {fd : FuncData} {N ps : List Str} {k : Nat} (Fn : Fun K x qual st f fd) (S : FnScope N ps (defScope st)) (hps : ps.length = 2) (hN : N.length = 6)
    (hbody : ∀ (X : Cx) (cdv : Value) (A : Around) (outer : List Env) (s : Shared) (H : Hp) (E : XK), X = cxOf (L2.CX P w) P w K mg base N qual (defScope st) f cdv A outer s H E → Room k X.A → PSs X (defBody st) (tDraw X.K)) :
    FnOk P w K mg base (L2.CX P w) (k + 1) f fd ps (spS K mg drawPF) := by
  refine Fn.okX S (fun vs H Q E h => ?_) fun cdv A outer s H vs Q E hr h => ?_
  · obtain ⟨Z, ds, G, c, W, R, _, _, _, r, _, _, ⟨n, e, _⟩, _⟩ := h
    rw [← r.length, e, hps]
    rfl
  · obtain ⟨Z, ds, G, c, W, R, e1, e2, g, r, st, sf, ⟨n, e, hn, hn2, hc, hR⟩, kq, kx⟩ := h
    refine ⟨_, hbody _ cdv A outer s H E rfl hr, ?_⟩
    subst e
    obtain ⟨v, vs1, rfl, r1, r2⟩ := rpL_cons.mp r
    obtain ⟨v2, vs2, rfl, r3, r4⟩ := rpL_cons.mp r2
    cases rpL_nil.mp r4
    cases rp_st.mp r1
    cases rp_int.mp r3
    obtain ⟨l, t, ls, cs, a1, a2, a3, hl, ht, htc, hls, hcs, hlen, n1, n2, n3⟩ := st
    have es : L2.start N [V.ref Z.sa, V.int n] = [some (.ref Z.sa), some (.int n), none, none, none, none] := by
      unfold L2.start
      rw [hN]
      rfl
    rw [es]
    refine draw_run (Z := Z) ⟨a1, a2, a3, n1, n2, n3⟩ hl ht (by omega) hls hcs hn hn2 fun v l' t' ls' H' hv0 hv1 S' hl' ht' ht2 hls' kp => ?_
    refine kq (.int v) H' G (.int v) (c + 1) ⟨Same.refl _, kp, fun b o e => ?_, fun b h1 h2 => absurd h2 h1, sf, fun _ _ h => h⟩ ⟨l', t', ls', cs, S'.a, S'.l, S'.c, hl', ht', by omega, hls', hcs, hlen, n1, n2, n3⟩ (rp_int.mpr rfl) (hR v hv0 hv1)
    exact kp b o (g b o e) fun s => by
      have z := sf b s.2
      rw [e] at z
      cases z
end
end DL
set_option Elab.async false
set_option linter.all false
set_option maxRecDepth 100000
set_option maxHeartbeats 1000000
/-! DL13: _law_begun. -/
namespace DL
open PySem PySem.Spec PyProof.Rows L2

/-- a list in a slot of its own stands from now on -/
theorem Sim.freezeL {Z : Wd} {H0 G0 : Hp} {σ : L2.St} {H Hf : Hp} {env : EnvD} {c : Nat} (S : Sim Z H0 G0 σ H Hf env c) {i : Nat} {ds : List D} (e : env[i]? = some (Slot.own (.lst ds))) :
    ∃ (a : Addr) (vs : List V), σ[i]? = some (some (.ref a)) ∧ H a = some (.lst vs) ∧ Fresh Z H0 σ Hf (env.set i .un) a ∧ RpL Z.toWz Hf ds vs ∧ Sim Z H0 G0 σ H (upd Hf a (.lst vs)) (env.set i (.val (.lst ds))) c := by
  obtain ⟨a, e1, h2, h3, h4, h5⟩ := S.own i _ e
  obtain ⟨S1, f, r⟩ := S.letGo e e1
  obtain ⟨vs, g1, g2⟩ := id r
  have S2 := (S1.freeze f (.lst vs) (fun u hu => OwnRp.ntab hu r) (fun _ z => by cases z)).set (own_rp (H' := H) f.hf r (.lst vs) (.inl ⟨vs, rfl, g1⟩)) i
  rw [set_same e1, List.set_set, upd_id g1] at S2
  exact ⟨a, vs, e1, g1, f, g2, S2⟩

@[simp] def tAbsC : TED := tLcDD (.one 3) [3] (tItD (tVarD 0)) tYesD (tCallD absD (tConsD (tVarB 3) tNilD))
@[simp] def tBigC : TED := tOpD powD (tCD (.int 10)) (tCD (.int 18))
@[simp] def tLargeC : TED := tLcDD (.one 3) [3] (tItD (tVarD 1)) (tTestD (tOpD geD (tVarB 3) tBigC)) (tOpD subD (tVarB 3) tBigC)
theorem pow18 : CPow 10 18 := ⟨by decide, by decide, by decide⟩
def absI (n : Int) : Int := if n < 0 then -n else n
theorem abs_lc {e0 e1 e2 e3 : Slot} {Q : D → Nat → Prop} : ∀ (ns : List Int) (acc : List D) (c : Nat), acc.length + ns.length ≤ 63 → Q (.lst (acc ++ ns.map fun n => D.int (absI n))) c →
    lcD (.one 3) [3] tYesD (tCallD absD (tConsD (tVarB 3) tNilD)) [e0, e1, e2, e3] Q (ns.map D.int) acc c
  | [], acc, c, _, q => by
    simpa using q
  | n :: r, acc, c, h, q => by
    rw [List.length_cons] at h
    simp
    refine ⟨by rw [sizeLine_eq]; omega, ?_⟩
    have z := abs_lc (e0 := e0) (e1 := e1) (e2 := e2) (e3 := e3) (Q := Q) r (acc ++ [.int (absI n)]) c (by simp; omega) (by simpa using q)
    simpa [absI] using z
def big18 : Int := 1000000000000000000
def bigI (n : Int) : Bool := decide (big18 ≤ n)
theorem big_lc {e0 e1 e2 e3 : Slot} {Q : D → Nat → Prop} : ∀ (ns : List Int) (acc : List D) (c : Nat), acc.length + ns.length ≤ 63 → Q (.lst (acc ++ (ns.filter bigI).map fun n => D.int (n - big18))) c →
    lcD (.one 3) [3] (tTestD (tOpD geD (tVarB 3) tBigC)) (tOpD subD (tVarB 3) tBigC) [e0, e1, e2, e3] Q (ns.map D.int) acc c
  | [], acc, c, _, q => by
    simpa using q
  | n :: r, acc, c, h, q => by
    rw [List.length_cons] at h
    have p18 := pow18
    simp [p18]
    by_cases hb : big18 ≤ n
    · rw [if_pos (show (1000000000000000000 : Int) ≤ n from hb)]
      refine ⟨by rw [sizeLine_eq]; omega, ?_⟩
      have z := big_lc (e0 := e0) (e1 := e1) (e2 := e2) (e3 := e3) (Q := Q) r (acc ++ [.int (n - big18)]) c (by simp; omega) (by
        have e : bigI n = true := decide_eq_true hb
        rw [List.filter_cons_of_pos e] at q
        simpa using q)
      simpa [big18] using z
    · rw [if_neg (show ¬ (1000000000000000000 : Int) ≤ n from hb)]
      have z := big_lc (e0 := e0) (e1 := e1) (e2 := e2) (e3 := e3) (Q := Q) r acc c (by omega) (by
        have e : ¬ bigI n = true := fun z => hb (of_decide_eq_true z)
        rw [List.filter_cons_of_neg e] at q
        exact q)
      simpa using z
theorem rpL_ints {Z : Wz} {H : Hp} : ∀ {ns : List Int} {vs : List V}, RpL Z H (ns.map D.int) vs → vs = ns.map V.int
  | [], vs, h => rpL_nil.mp h
  | n :: r, vs, h => by
    obtain ⟨v, w, rfl, h1, h2⟩ := rpL_cons.mp h
    rw [rp_int.mp h1, rpL_ints h2]
    rfl

/-- the readings of the body -/
def tBegun (F : Fd) : TS := tSeq (liftS F (tSetO 1 tAbsC)) (tSeq (liftS F (tSetO 2 tLargeC)) (tRet (tDisp [(tC (.str "large"), tVar 2), (tC (.str "cells"), tVar 1), (tC (.str "left"), tC (.int 0)), (tC (.str "turn"), tC (.int 0))])))
def spBegun (K : PySem.W.Frag) (mg : Str → Option Value) : Sp := fun vs H Q _ => ∃ (a : Addr) (ns : List Int), vs = [.ref a] ∧ SqL K H a (ns.map V.int) ∧ ns.length ≤ 63 ∧
  ∀ (H' : Hp) (sa sl sc : Addr), Same H H' → H sa = none → H sl = none → StAt ⟨K, mg, sa, sl, sc⟩ H' 0 → Q (.ref sa) H'
theorem merge4_of {a b c d : Key} (h1 : ¬ a = b) (h2 : ¬ a = c) (h3 : ¬ a = d) (h4 : ¬ b = c) (h5 : ¬ b = d) (h6 : ¬ c = d) (x y l t : V) : mergeK [] [(a, x), (b, y), (c, l), (d, t)] = ([(a, x), (b, y), (c, l), (d, t)] : List (Key × V)) := by
  simp [mergeK, putK, h1, h2, h3, h4, h5, h6]
theorem merge4 (x y l t : V) : mergeK [] [(.inr "large", x), (.inr "cells", y), (.inr "left", l), (.inr "turn", t)] = ([(.inr "large", x), (.inr "cells", y), (.inr "left", l), (.inr "turn", t)] : List (Key × V)) :=
  merge4_of kLC kLl kLt kCl kCt klt x y l t
theorem absI_nn (n : Int) : 0 ≤ absI n := by
  unfold absI
  split <;> omega
theorem begun_run {K : PySem.W.Frag} {mg : Str → Option Value} {H : Hp} {a : Addr} {ns : List Int} {D0 : Ends} {N : List Str} {W : WX} (hN : N.length = 4) (hs : SqL K H a (ns.map V.int)) (hl : ns.length ≤ 63)
    (q : ∀ (H' : Hp) (sa sl sc : Addr), Same H H' → H sa = none → H sl = none → StAt ⟨K, mg, sa, sl, sc⟩ H' 0 → D0.rt (.ref sa) H') (hW : ∀ cls dx σ H, ¬ W cls dx σ H) :
    tBegun ⟨⟨⟨K, mg, 0, 0, 0⟩, false, []⟩, H, H, W⟩ D0 (L2.start N [.ref a]) H := by
  have S0 : Sim (⟨⟨K, mg, 0, 0, 0⟩, false, []⟩ : Wd) H H (L2.start N [V.ref a]) H H (envAt N.length [.scr ns]) 0 :=
    Sim.begin (Same.refl _) (RpL.cons (rp_scr.mpr ⟨a, rfl, hs⟩) RpL.nil) (fun z => absurd z Bool.false_ne_true) (fun b s => absurd s.1 Bool.false_ne_true) fun _ z => absurd z List.not_mem_nil
  have no : ∀ (D0' : Ends) (H1 : Hp) (P : EnvD → Nat → Prop), (∀ σ H' Hf env c, Sim (⟨⟨K, mg, 0, 0, 0⟩, false, []⟩ : Wd) H H σ H' Hf env c → P env c → D0'.nx σ H') →
      EL ⟨⟨⟨K, mg, 0, 0, 0⟩, false, []⟩, H, H, W⟩ H1 D0' { nx := P, rt := fun _ _ => False, ex := fun _ _ _ => False } := fun D0' H1 P h =>
    ⟨fun σ H' Hf env c S _ p => h σ H' Hf env c S p, fun _ _ _ _ _ _ _ _ _ _ z => z.elim, fun _ _ _ _ _ _ _ z => z.elim, fun _ _ _ _ _ _ _ z => z.elim, fun _ _ _ _ _ _ _ _ _ _ z => z.elim⟩
  refine ⟨H, _, 0, _, S0, no _ H (fun env c => env = [.val (.scr ns), .own (.lst (ns.map fun n => D.int (absI n))), .un, .un]) fun σ H1 Hf1 env c S1 e => ?_, ?_⟩
  · subst e
    obtain ⟨sc, vs1, e1, g1, f1, r1, S2⟩ := S1.freezeL (i := 1) rfl
    refine ⟨_, _, c, _, S2, no _ _ (fun env _ => env = [.val (.scr ns), .val (.lst (ns.map fun n => D.int (absI n))), .own (.lst (((ns.map absI).filter bigI).map fun n => D.int (n - big18))), .un]) fun σ H3 Hf3 env c S3 e => ?_, ?_⟩
    · subst e
      obtain ⟨v1, w1, w2⟩ := S3.val 1 _ rfl
      obtain ⟨sc', vs3, rfl, g3, r3⟩ := rp_lst.mp w2
      obtain ⟨sl, w3, n3, n4, _, vs2, g2, r2⟩ := S3.own 2 _ rfl
      have e2 : (ns.map fun n => D.int (absI n)) = (ns.map absI).map D.int := by rw [List.map_map]; rfl
      rw [e2] at r3
      have e3 : (((ns.map absI).filter bigI).map fun n => D.int (n - big18)) = (((ns.map absI).filter bigI).map fun n => n - big18).map D.int := by rw [List.map_map]; rfl
      rw [e3] at r2
      have r3' := rpL_ints r3
      have r2' := rpL_ints r2
      subst r3' r2'
      have g3' := S3.sub _ _ g3
      intro p hp
      have s3 : Same H H3 := fun b o e => S3.keep b o e fun s => absurd s.1 Bool.false_ne_true
      refine ⟨_, w3, _, w1, ?_⟩
      refine ⟨upd_same, [(.inr "large", .ref sl), (.inr "cells", .ref sc'), (.inr "left", .int 0), (.inr "turn", .int 0)], rfl, (show 4 ≤ 15 by decide), ?_⟩
      rw [merge4]
      have np1 : sl ≠ p := ne_of_none g2 hp
      have np2 : sc' ≠ p := ne_of_none g3' hp
      refine q _ p sl sc' ?_ (s3.free hp) n4 ⟨0, 0, ((ns.map absI).filter bigI).map (fun n => n - big18), ns.map absI, upd_same, ?_, ?_, by decide, by decide, by decide, ?_, ?_, ?_, np1.symm, np2.symm, ?_⟩
      · refine fun b o e => ?_
        have nb : b ≠ p := ne_of_none (s3 b o e) hp
        rw [upd_ne nb, upd_ne nb]
        exact s3 b o e
      · rw [upd_ne np1, upd_ne np1]; exact g2
      · rw [upd_ne np2, upd_ne np2]; exact g3'
      · intro z hz
        obtain ⟨n, h1, rfl⟩ := List.mem_map.mp hz
        have h2 := (List.mem_filter.mp h1).2
        have h3 : big18 ≤ n := of_decide_eq_true h2
        omega
      · intro z hz
        obtain ⟨n, _, rfl⟩ := List.mem_map.mp hz
        exact absI_nn n
      · rw [List.length_map]; exact hl
      · intro z
        replace z : sl = sc' := z
        rw [z, g3] at n3
        cases n3
    · simp [envAt, hN]
      have z := big_lc (e0 := .val (.scr ns)) (e1 := .val (.lst (ns.map fun n => D.int (absI n)))) (e2 := .un) (e3 := .un) (Q := fun d _ => [Slot.val (.scr ns), .val (.lst (ns.map fun n => D.int (absI n))), .own d, .un] = [Slot.val (.scr ns), .val (.lst (ns.map fun n => D.int (absI n))), .own (.lst (((ns.map absI).filter bigI).map fun n => D.int (n - big18))), .un]) (ns.map absI) [] c (by simp; omega) (by simp)
      have e2 : (ns.map absI).map D.int = (ns.map fun n => D.int (absI n)) := by rw [List.map_map]; rfl
      rw [e2] at z
      simpa using z
  · have e : envAt N.length [D.scr ns] = [.val (.scr ns), .un, .un, .un] := by simp [envAt, hN]
    rw [e]
    have z := abs_lc (e0 := .val (.scr ns)) (e1 := .un) (e2 := .un) (e3 := .un) (Q := fun d _ => [Slot.val (.scr ns), .own d, .un, .un] = [Slot.val (.scr ns), .own (.lst (ns.map fun n => D.int (absI n))), .un, .un]) ns [] 0 (by simp; omega) (by simp)
    simpa using z
section
variable {P : Program} {w : World} {K : PySem.W.Frag} {mg : Str → Option Value} {base : Heap}
theorem ok_begun {x qual : Str} {st : Stmt} {f : Addr} {fd : FuncData} {N ps : List Str} {k : Nat} (Fn : Fun K x qual st f fd) (S : FnScope N ps (defScope st)) (hps : ps.length = 1) (hN : N.length = 4)
    (hbody : ∀ (X : Cx) (F : Fd) (cdv : Value) (A : Around) (outer : List Env) (s : Shared) (H : Hp) (E : XK), X = cxOf (L2.CX P w) P w K mg base N qual (defScope st) f cdv A outer s H E → F = fdP K mg 0 0 0 H H noW → Room k X.A → PSs X (defBody st) (tBegun F)) :
    FnOk P w K mg base (L2.CX P w) (k + 1) f fd ps (spBegun K mg) := by
  refine Fn.okX S (fun vs H Q E h => ?_) fun cdv A outer s H vs Q E hr h => ?_
  · obtain ⟨a, ns, rfl, _⟩ := h
    exact hps.symm
  · obtain ⟨a, ns, rfl, hs, hl, q⟩ := h
    exact ⟨_, hbody _ _ cdv A outer s H E rfl rfl hr, begun_run (W := noW) hN hs hl q fun _ _ _ _ z => z⟩
end
end DL
set_option Elab.async false
set_option linter.all false
set_option maxRecDepth 100000
set_option maxHeartbeats 1000000
/-! DL14: defs of the text, by name. -/
namespace DL
open PySem PySem.Spec PyProof.Rows L2

/-- a def stands in the text's part under its name -/
structure Df (K : PySem.W.Frag) (mg : Str → Option Value) (x : Str) (st : Stmt) (ps : List Str) : Prop where
  ex : ∃ (f : Addr) (fd : FuncData), Fun K x x st f fd ∧ mg x = some (.ref f) ∧ Binds K fd ps []
/-- .. and keeps a promise -/
structure Has (P : Program) (w : World) (K : PySem.W.Frag) (mg : Str → Option Value) (base : Heap) (k : Nat) (x : Str) (ps : List Str) (sp : Sp) : Prop where
  ex : ∃ (f : Addr) (fd : FuncData), FnOk P w K mg base (L2.CX P w) k f fd ps sp ∧ mg x = some (.ref f) ∧ PySem.W.keepIn K (.ref f) = true ∧ Binds K fd ps []
/-- the built-in names that no def hides -/
def bltNames : List Str := ["abs", "int", "len", "min", "max", "sum", "all", "any", "tuple", "list", "dict", "sorted", "range", "zip", "enumerate", "reversed", "repr", "isinstance", "set", "str", "bool"]
structure Blt (mg : Str → Option Value) : Prop where
  abs : mg "abs" = none
  int : mg "int" = none
  len : mg "len" = none
  min : mg "min" = none
  max : mg "max" = none
  sum : mg "sum" = none
  all : mg "all" = none
  any : mg "any" = none
  tuple : mg "tuple" = none
  list : mg "list" = none
  dict : mg "dict" = none
  sorted : mg "sorted" = none
  range : mg "range" = none
  zip : mg "zip" = none
  enumerate : mg "enumerate" = none
  reversed : mg "reversed" = none
  repr : mg "repr" = none
  isinstance : mg "isinstance" = none
  set : mg "set" = none
  str : mg "str" = none
  bool : mg "bool" = none
section
variable {P : Program} {w : World} {K : PySem.W.Frag} {mg : Str → Option Value} {base : Heap}
theorem has_of {k : Nat} {x : Str} {st : Stmt} {ps : List Str} {sp : Sp} (D0 : Df K mg x st ps) (h : ∀ (f : Addr) (fd : FuncData), Fun K x x st f fd → FnOk P w K mg base (L2.CX P w) k f fd ps sp) : Has P w K mg base k x ps sp := by
  obtain ⟨f, fd, F, m, b⟩ := D0.ex
  exact ⟨f, fd, h f fd F, m, F.kp, b⟩
end
section
variable {X : Cx} {F : Fd} {k : Nat} {ps : List Str} {x : Str} {p pos : Pos} {e : Expr} {es : List Expr} {t : TAD}
theorem de_P {pf : PF} (h : Has X.prog X.w X.K X.mg X.base k x ps (spP X.K X.mg pf)) (hr : Room k X.A) (tk : Takes X F.W) (ha : DA X F (e :: es) t) (hg : Gl X x := by rfl) (hK : F.Z.K = X.K := by rfl) (hM : F.Z.mg = X.mg := by rfl)
    (hdb : (x == ("__debug__" : Str)) = false := by decide) (he : starEach (e :: es) X.env = (false, eval e X.env) :: starEach es X.env := by rfl) (hpl : (backTo pos (starEach es X.env)).any (·.1) = false := by rfl) :
    DE X F (.Call (.Name x p) (e :: es) [] pos) (tCallP pf t) := by
  obtain ⟨f, fd, Fk, hm, hk, hb⟩ := h.ex
  exact de_callP Fk hr hm hk hb tk ha hg hK hM hdb he hpl
theorem de_S {pf : PFS} (h : Has X.prog X.w X.K X.mg X.base k x ps (spS X.K X.mg pf)) (hr : Room k X.A) (tk : Takes X F.W) (ha : DA X F (e :: es) t) (hz : F.Z.sf = true := by rfl) (hg : Gl X x := by rfl) (hK : F.Z.K = X.K := by rfl) (hM : F.Z.mg = X.mg := by rfl)
    (hdb : (x == ("__debug__" : Str)) = false := by decide) (he : starEach (e :: es) X.env = (false, eval e X.env) :: starEach es X.env := by rfl) (hpl : (backTo pos (starEach es X.env)).any (·.1) = false := by rfl) :
    DE X F (.Call (.Name x p) (e :: es) [] pos) (tDrawn pf t) := by
  obtain ⟨f, fd, Fk, hm, hk, hb⟩ := h.ex
  exact de_callS Fk hr hm hk hb tk ha hz hg hK hM hdb he hpl
/-- a number of the module -/
theorem de_glob {d : D} {v : V} {u : Value} (hm : X.mg x = some u) (r : RelV v u) (f : flatD d v) (hg : Gl X x := by rfl) (hdb : (x == ("__debug__" : Str)) = false := by decide) : DE X F (.Name x pos) (tCD d) := de_c (pe_glob hg hm r hdb) f
end
/-- a def without the law's state -/
theorem has_P {P : Program} {w : World} {K : PySem.W.Frag} {mg : Str → Option Value} {base : Heap} {x : Str} {st : Stmt} {N ps : List Str} {k : Nat} {pf : PF} {t : TSD} (D0 : Df K mg x st ps) (S : FnScope N ps (defScope st)) (len : ∀ ds W R, pf ds W R → ds.length = ps.length)
    (hd : ∀ (X : Cx) (F : Fd) (f : Addr) (cdv : Value) (A : Around) (outer : List Env) (s : Shared) (H G : Hp) (sa sl sc : Addr) (E : XK), X = cxOf (L2.CX P w) P w K mg base N x (defScope st) f cdv A outer s H E → F = fdP K mg sa sl sc H G (fun cls d _ H => E cls d H) →
      Takes X F.W → Room k X.A → DSs X F (defBody st) t)
    (hq : ∀ (ds : List D) (W R : D → Prop), pf ds W R → t { nx := fun _ _ => R .non, rt := fun d _ => R d, ex := fun d _ _ => W d } (envAt N.length ds) 0) : Has P w K mg base (k + 1) x ps (spP K mg pf) :=
  has_of D0 fun f fd Fn => okP Fn S len fun X F cdv A outer s H G sa sl sc E eX eF tk hr => ⟨t, hd X F f cdv A outer s H G sa sl sc E eX eF tk hr, hq⟩
/-- .. with it -/
theorem has_S {P : Program} {w : World} {K : PySem.W.Frag} {mg : Str → Option Value} {base : Heap} {x : Str} {st : Stmt} {N ps : List Str} {k : Nat} {pf : PFS} {t : TSD} (D0 : Df K mg x st ps) (S : FnScope N ps (defScope st)) (len : ∀ ds c W R, pf ds c W R → ds.length = ps.length)
    (hd : ∀ (X : Cx) (F : Fd) (f : Addr) (cdv : Value) (A : Around) (outer : List Env) (s : Shared) (H G : Hp) (sa sl sc : Addr) (E : XK), X = cxOf (L2.CX P w) P w K mg base N x (defScope st) f cdv A outer s H E → F = fdS K mg sa sl sc H G (fun cls d _ H => E cls d H) →
      Takes X F.W → Room k X.A → DSs X F (defBody st) t)
    (hq : ∀ (ds : List D) (c : Nat) (W : WD) (R : D → Nat → Prop), pf ds c W R → t { nx := fun _ c => R .non c, rt := R, ex := fun d _ c => W d c } (envAt N.length ds) c) : Has P w K mg base (k + 1) x ps (spS K mg pf) :=
  has_of D0 fun f fd Fn => okS Fn S len fun X F cdv A outer s H G sa sl sc E eX eF tk hr => ⟨t, hd X F f cdv A outer s H G sa sl sc E eX eF tk hr, hq⟩
end DL
set_option Elab.async false
set_option linter.all false
set_option maxRecDepth 100000
set_option maxHeartbeats 1000000
/-! DL15: small rules for the printed derivations. -/
namespace DL
open PySem PySem.Spec PyProof.Rows L2

theorem boot_isi : bootBuiltins "isinstance" = some (.builtin "isinstance") := by decide +kernel
theorem boot_abs' : bootBuiltins "abs" = some (.builtin "abs") := by decide +kernel
theorem boot_len' : bootBuiltins "len" = some (.builtin "len") := by decide +kernel
theorem boot_min' : bootBuiltins "min" = some (.builtin "min") := by decide +kernel
theorem boot_max' : bootBuiltins "max" = some (.builtin "max") := by decide +kernel
theorem boot_all' : bootBuiltins "all" = some (.builtin "all") := by decide +kernel
theorem boot_any' : bootBuiltins "any" = some (.builtin "any") := by decide +kernel
theorem boot_int' : bootBuiltins "int" = some (.type "int") := by decide +kernel
theorem boot_tuple' : bootBuiltins "tuple" = some (.type "tuple") := by decide +kernel
theorem hr65 {k : Nat} {A : Around} (r : Room k A) : A.units + 65 < cLine := by have := r.un; omega
section
variable {X : Cx} {F : Fd} {e : Expr} {pos : Pos} {te : TED}
/-- a number of the module -/
theorem de_globI {x : Str} {i : Int} (hm : ∃ t, X.mg x = some (.int i t)) (hg : Gl X x := by rfl) (hdb : (x == ("__debug__" : Str)) = false := by decide) : DE X F (.Name x pos) (tCD (.int i)) := by
  obtain ⟨t, hm⟩ := hm
  exact de_glob (v := .int i) hm ⟨t, rfl⟩ rfl hg hdb
/-- a, b = e -/
@[simp] def tTgD (tg : Tg) (t : TED) : TSD := fun D env c => t env c (fun d c1 => D.ex d env c1) fun d c1 => tg.set d env fun env' => D.nx env' c1
theorem ds_tg {target : Expr} (tg : Tg) {K : PySem.W.Frag} (he : DE X F e te) (hg : PG X target (tg.g K)) (hs : swapsWithSole [target] e pos.line X.env = pure false := by rfl) (hw : swappedStores [target] e X.env = pure none := by rfl)
    (h1 : (assignEach [target] X.env).map (·.2) = [assign target X.env] := by rfl) : DS X F (.Assign [target] e pos) (tTgD tg te) :=
  PS.imp (ps_asg he hg hs hw h1) fun D σ H ⟨Hf, env, c, Dd, S, L, h⟩ => ⟨Hf, env, c, _, _, S, L.xl σ env, h, fun v H' Hf' c' d S' s1 _ r q =>
    Tg.use S' r q fun σ' env' S2 _ _ q2 => L.nx σ' H' Hf' env' c' S2 s1 q2⟩
/-- xs.append(e) -/
theorem ds_app (i : Nat) {x : Str} {p apos cpos : Pos} (he : DE X F e te) (hx : PE X (.Name x p) (tVar i) := by exact pv _)
    (hbase : attributeBase (.Name x p) "append" X.env (eval (.Name x p) X.env) = eval (.Name x p) X.env := by rfl)
    (hfew : ((backTo cpos (starEach (e :: []) X.env)).all (fun x => !x.1) && (backToKw cpos (keywordEach [] X.env)).all (fun x => x.1.isSome)
      && decide ((e :: []).length + ([] : List Keyword).length + (if ([] : List Keyword).isEmpty then 0 else 1) < 30)) = true := by rfl)
    (hline : (apos.endLine == cpos.line) = true := by rfl) (he2 : starEach (e :: []) X.env = (false, eval e X.env) :: starEach [] X.env := by rfl) (hplain : (backTo cpos (starEach [] X.env)).any (·.1) = false := by rfl)
    (hs : swapsWith (.Call (.Attribute (.Name x p) "append" apos) [e] [] cpos) none pos.line X.env = pure false := by rfl) :
    DS X F (.Expr (.Call (.Attribute (.Name x p) "append" apos) [e] [] cpos) pos) (tAppD i te) :=
  ds_append i he (fun h => pe_bm PySem.F.plainAttrs_list PySem.F.slot_list_append PySem.F.type_list_append (fun pins s σ H x xs v us Q I rx rxs h => mt_append pins s σ H x xs v us Q I rx rxs h) hx (pa_cons h pa_nil he2) hbase hfew hline he2 hplain) hs
end
/-- an own class of exceptions without an __init__ of its own, under ValueError -/
structure Exc (K : PySem.W.Frag) (mg : Str → Option Value) (x : Str) : Prop where
  ex : ∃ (C : Addr), mg x = some (.ref C) ∧ PySem.W.keepIn K (.ref C) = true ∧ (∃ (bm : List Value) (B nw ini : String), ExcBaseFacts B nw ini bm ∧ PySem.W.excIn K C bm nw = true) ∧ PySem.W.subIn K (.ref C) (.type "BaseException") = some true ∧ PySem.W.typeIn K (.ref C) = some (.type "type")
theorem ds_raiseX {X : Cx} {F : Fd} {K : PySem.W.Frag} {mg : Str → Option Value} {x m : Str} {j : Nat} {p p2 pos pos2 : Pos} (h : Exc K mg x) (tk : Takes X F.W) (hc : X.calm = true := by rfl) (hK : X.K = K := by rfl) (hM : X.mg = mg := by rfl) (hM2 : F.Z.mg = X.mg := by rfl) (hg : Gl X x := by rfl)
    (hdb : (x == ("__debug__" : Str)) = false := by decide) : DS X F (.Raise (some (.Call (.Name x p) [.Constant (.str m) j p2] [] pos)) none pos2) (tRaiseD x) := by
  subst hK hM
  obtain ⟨C, gC, kC, ⟨bm, B, nw, ini, FB, q⟩, h1, h2⟩ := h.ex
  exact ds_raise hc tk FB q gC kC (raises_own h1 h2) hM2 hg hdb
end DL
set_option Elab.async false
set_option linter.all false
set_option maxRecDepth 100000
set_option maxHeartbeats 1000000
/-! DL16: built-ins that give a new list; parallel assignments. -/
namespace DL
open PySem PySem.Spec PyProof.Rows L2

/-! ### a new list of a built-in -/
def liftN (Z : Wz) (r : CD) : List V → Hp → VK → Prop := fun vs H Q => ∃ (Hf : Hp) (ds : List D) (k : D → Prop), Same Hf H ∧ VRpL Z Hf H ds vs ∧ r ds k ∧
  ∀ (l : Addr) (zs : List V) (es : List D), H l = none → RpL Z Hf es zs → k (.lst es) → Q (.ref l) (upd H l (.lst zs))
abbrev CallN (X : Cx) (Z : Wz) (f : Value) (r : CD) : Prop := CallR X f (liftN Z r)
theorem callN_use {F : Fd} {σ : L2.St} {H : Hp} {r : CD} {t : TAD} {Q : VK} (h : liftO F (tCallD r t) σ H Q) : tCB (liftN F.Z.toWz r) (liftAB F t) σ H Q := by
  obtain ⟨Hf, env, c, Wd, Qd, S, x, ht, k⟩ := h
  refine ⟨Hf, env, c, Wd, _, S, x, ht, fun vs H1 Hf1 c1 ds S1 s1 k1 r1 q1 => ?_⟩
  refine ⟨Hf1, ds, _, S1.sub, r1.at S1, q1, fun l zs es hl rp q2 => ?_⟩
  have f := S1.fresh hl
  exact k l _ Hf1 c1 (.lst es) (S1.laid hl _) s1 (k1.trans (Keep.of (same_upd hl))) f (k1.upd hl (Keep.of (same_upd hl))) ⟨zs, upd_same, rp⟩ q2
section
variable {X : Cx} {F : Fd} {e : Expr} {es : List Expr} {pos p : Pos} {x : Str} {r : CD} {t : TAD}
theorem do_blt {id : String} (hc : CallN X F.Z.toWz (.builtin id) r) (hm : X.mg x = none) (hv : bootBuiltins x = some (.builtin id)) (ha : DAB X F (e :: es) t) (hg : Gl X x := by rfl) (hn : x ≠ "__name__" := by decide)
    (hdb : (x == ("__debug__" : Str)) = false := by decide) (he : starEach (e :: es) X.env = (false, eval e X.env) :: starEach es X.env := by rfl) (hpl : (backTo pos (starEach es X.env)).any (·.1) = false := by rfl) :
    DO X F (.Call (.Name x p) (e :: es) [] pos) (tCallD r t) := PE.imp (pe_callB hc hg hm hv ha hn hdb he hpl) fun σ H Q h => callN_use h
theorem do_ty {T : String} (hc : CallN X F.Z.toWz (.type T) r) (hm : X.mg x = none) (hv : bootBuiltins x = some (.type T)) (ha : DAB X F (e :: es) t) (hg : Gl X x := by rfl) (hn : x ≠ "__name__" := by decide)
    (hdb : (x == ("__debug__" : Str)) = false := by decide) (he : starEach (e :: es) X.env = (false, eval e X.env) :: starEach es X.env := by rfl) (hpl : (backTo pos (starEach es X.env)).any (·.1) = false := by rfl) :
    DO X F (.Call (.Name x p) (e :: es) [] pos) (tCallD r t) := PE.imp (pe_callTy hc hg hm hv ha hn hdb he hpl) fun σ H Q h => callN_use h
end
@[simp] def listD : CD
  | [.lst ds], k => k (.lst ds)
  | [.tup ds], k => k (.lst ds)
  | _, _ => False
theorem call_listD' {X : Cx} {Z : Wz} : CallN X Z (.type "list") listD := by
  intro pins s σ H xs us Q I r h
  obtain ⟨Hf, ds, k, sub, hx, hr, kk⟩ := h
  unfold listD at hr
  split at hr
  · obtain ⟨x, rfl, hw⟩ := vrpL_1 hx
    obtain ⟨p, vs, rfl, h1, r1⟩ := vrp_lst sub hw
    exact call_list_of pins s σ H _ us Q I r ⟨p, vs, rfl, .inl (SqL.of h1), fun l hl => kk l vs _ hl r1 hr⟩
  · obtain ⟨x, rfl, hw⟩ := vrpL_1 hx
    obtain ⟨p, vs, rfl, h1, r1, w1⟩ := vrp_tup sub hw
    exact call_list_of pins s σ H _ us Q I r ⟨p, vs, rfl, .inr (SqT.of h1), fun l hl => kk l vs _ hl r1 hr⟩
  · exact hr.elim
theorem boot_list' : bootBuiltins "list" = some (.type "list") := by decide +kernel
theorem boot_sorted' : bootBuiltins "sorted" = some (.builtin "sorted") := by decide +kernel
theorem RpL.perm {Z : Wz} {H : Hp} {vs ws : List V} (p : ws.Perm vs) : ∀ {ds : List D}, RpL Z H ds vs → ∃ es : List D, es.Perm ds ∧ RpL Z H es ws := by
  induction p with
  | nil => exact fun {ds} h => ⟨ds, List.Perm.refl _, h⟩
  | cons v _ ih =>
    intro ds h
    cases ds with
    | nil => have e := h.length; simp at e
    | cons d ds =>
      obtain ⟨v', w', e, h1, h2⟩ := rpL_cons.mp h
      cases e
      obtain ⟨es, g1, g2⟩ := ih h2
      exact ⟨d :: es, g1.cons d, RpL.cons h1 g2⟩
  | swap v w l =>
    intro ds h
    cases ds with
    | nil => have e := h.length; simp at e
    | cons d ds =>
      obtain ⟨v', w', e, h1, h2⟩ := rpL_cons.mp h
      cases e
      cases ds with
      | nil => have e := h2.length; simp at e
      | cons d2 ds =>
        obtain ⟨v', w', e, h3, h4⟩ := rpL_cons.mp h2
        cases e
        exact ⟨d2 :: d :: ds, List.Perm.swap d d2 ds, RpL.cons h3 (RpL.cons h1 h4)⟩
  | trans _ _ ih1 ih2 =>
    intro ds h
    obtain ⟨es, g1, g2⟩ := ih2 h
    obtain ⟨fs, g3, g4⟩ := ih1 g2
    exact ⟨fs, g3.trans g1, g4⟩
/-! ### sorted -/
def pD (q : Int × Int) : D := .tup [.int q.1, .int q.2]
theorem pD_inj {a b : Int × Int} (h : pD a = pD b) : a = b := by
  simp [pD] at h
  exact Prod.ext h.1 h.2
def pairsD : List D → Option (List (Int × Int))
  | [] => some []
  | .tup [.int i, .int j] :: r => (pairsD r).map fun l => (i, j) :: l
  | _ => none
theorem pairsD_of : ∀ {ds : List D} {ps : List (Int × Int)}, pairsD ds = some ps → ds = ps.map pD
  | [], ps, h => by cases h; rfl
  | d :: r, ps, h => by
    unfold pairsD at h
    split at h
    · rename_i e
      cases e
    · rename_i i j r' e
      cases e
      cases e2 : pairsD r with
      | none => rw [e2] at h; cases h
      | some l =>
        rw [e2] at h
        cases h
        rw [pairsD_of e2]
        rfl
    · cases h
theorem pairsD_map (ps : List (Int × Int)) : pairsD (ps.map pD) = some ps := by
  induction ps with
  | nil => rfl
  | cons p r ih =>
    show (pairsD (r.map pD)).map (fun l => (p.1, p.2) :: l) = _
    rw [ih]
    rfl
/-- the pair at a place -/
def keyAt (H : Hp) : V → Int × Int
  | .ref t => match H t with
    | some (.tup [.int i, .int j]) => (i, j)
    | _ => (0, 0)
  | _ => (0, 0)
theorem rp_pD {Z : Wz} {Hf H : Hp} {q : Int × Int} {v : V} (s : Same Hf H) (h : Rp Z Hf (pD q) v) : keyAt H v = q ∧ ∃ t, v = V.ref t ∧ H t = some (.tup [.int q.1, .int q.2]) := by
  obtain ⟨a, vs, rfl, h1, h2⟩ := rp_tup.mp h
  obtain ⟨v1, w1, rfl, h3, h4⟩ := rpL_cons.mp h2
  obtain ⟨v2, w2, rfl, h5, h6⟩ := rpL_cons.mp h4
  cases rpL_nil.mp h6
  cases rp_int.mp h3
  cases rp_int.mp h5
  have e := s _ _ h1
  refine ⟨?_, a, rfl, e⟩
  show (match H a with
    | some (.tup [.int i, .int j]) => (i, j)
    | _ => (0, 0)) = q
  rw [e]
theorem rpL_pD {Z : Wz} {Hf H : Hp} (s : Same Hf H) : ∀ {ds : List D} {vs : List V}, RpL Z Hf ds vs → (∀ d ∈ ds, ∃ q, d = pD q) → ds = (vs.map (keyAt H)).map pD
  | [], vs, h, _ => by rw [rpL_nil.mp h]; rfl
  | d :: ds, vs, h, a => by
    obtain ⟨v, w, rfl, h1, h2⟩ := rpL_cons.mp h
    obtain ⟨q, rfl⟩ := a d List.mem_cons_self
    rw [rpL_pD s h2 fun d hd => a d (List.mem_cons_of_mem _ hd)]
    rw [List.map_cons, List.map_cons, (rp_pD s h1).1]
@[simp] def sortD : CD
  | [.lst ds], k => (∃ ps, ds = ps.map pD ∧ ∀ qs : List (Int × Int), qs.Perm ps → qs.Pairwise (fun a b => SrtO.lexB b a = false) → k (.lst (qs.map pD))) ∨
    ∃ ns : List Int, ds = ns.map .int ∧ ∀ ms : List Int, ms.Perm ns → ms.Pairwise (· ≤ ·) → k (.lst (ms.map .int))
  | _, _ => False
theorem map_inj {α β : Type} {f : α → β} (hf : ∀ a b, f a = f b → a = b) : ∀ {xs ys : List α}, xs.map f = ys.map f → xs = ys
  | [], [], _ => rfl
  | [], _ :: _, h => by cases h
  | _ :: _, [], h => by cases h
  | x :: xs, y :: ys, h => by
    rw [List.map_cons, List.map_cons] at h
    injection h with h1 h2
    rw [hf _ _ h1, map_inj hf h2]
theorem ints_rpL {Z : Wz} {H : Hp} : ∀ {ns : List Int}, RpL Z H (ns.map D.int) (ns.map V.int)
  | [] => RpL.nil
  | n :: r => RpL.cons (rp_int.mpr rfl) ints_rpL
theorem call_sortedD' {X : Cx} {Z : Wz} (hK : Z.K = X.K := by rfl) : CallN X Z (.builtin "sorted") sortD := by
  intro pins s σ H xs us Q I r h
  obtain ⟨Hf, ds, k, sub, hx, hr, kk⟩ := h
  unfold sortD at hr
  split at hr
  · obtain ⟨x, rfl, hw⟩ := vrpL_1 hx
    obtain ⟨p, vs, rfl, h1, r1⟩ := vrp_lst sub hw
    rcases hr with ⟨ps, rfl, hr⟩ | ⟨ns, rfl, hr⟩
    · have all1 : ∀ d ∈ ps.map pD, ∃ q, d = pD q := fun d hd => by
        obtain ⟨q, _, e⟩ := List.mem_map.mp hd
        exact ⟨q, e.symm⟩
      have e1 := rpL_pD sub r1 all1
      have e2 : ps = vs.map (keyAt H) := map_inj (fun a b => pD_inj) e1
      refine cr_sortedPO pins s σ H _ us Q I r ⟨p, vs, keyAt H, rfl, SqL.of h1, fun x hx => ?_, fun ys l hs hst hl => ?_⟩
      · obtain ⟨i, hi⟩ := List.getElem?_of_mem hx
        obtain ⟨d, g1, g2⟩ := r1.get' hi
        obtain ⟨q, rfl⟩ := all1 d (List.mem_of_getElem? g1)
        obtain ⟨g3, t, g4, g5⟩ := rp_pD sub g2
        exact ⟨t, g4, by rw [g3]; exact g5⟩
      · obtain ⟨es, g1, g2⟩ := RpL.perm hst.perm r1
        have e3 := rpL_pD sub g2 fun d hd => all1 d (g1.mem_iff.mp hd)
        refine kk l ys es hl g2 ?_
        rw [e3]
        refine hr _ ?_ ?_
        · rw [e2]
          exact hst.perm.map _
        · rw [List.pairwise_map]
          exact hs
    · have e1 := rpL_ints r1
      subst e1
      refine cr_sortedI pins s σ H _ us Q I r ⟨p, ns, rfl, SqL.of h1, fun ms l hp hs hl => ?_⟩
      exact kk l _ _ hl ints_rpL (hr ms hp hs)
  · exact hr.elim
end DL
set_option Elab.async false
set_option linter.all false
set_option maxRecDepth 100000
set_option maxHeartbeats 1000000
/-! DL17: parallel assignments; lists that give items up. -/
namespace DL
open PySem PySem.Spec PyProof.Rows L2

/-! ### arguments, kept or new -/
abbrev TSlD := EnvD → Nat → WD → (List Slot → Nat → Prop) → Prop
/-- items of a parallel assignment: kept, or new things -/
def ItsRp (Z : Wd) (H0 : Hp) (σ : L2.St) (env : EnvD) (Hf H : Hp) : List Slot → List V → Prop
  | [], vs => vs = []
  | .val d :: r, vs => ∃ v w, vs = v :: w ∧ Rp Z.toWz Hf d v ∧ ItsRp Z H0 σ env Hf H r w
  | .own d :: r, vs => ∃ a w, vs = .ref a :: w ∧ Fresh Z H0 σ Hf env a ∧ OwnRp Z.toWz Hf H a d ∧ (∀ e b, (Slot.own e, V.ref b) ∈ List.zip r w → b ≠ a) ∧ ItsRp Z H0 σ env Hf H r w
  | .un :: _, _ => False
def liftIt (F : Fd) (t : TSlD) : TA := fun σ H Q => ∃ (Hf : Hp) (env : EnvD) (c : Nat) (Wd : WD) (Qd : List Slot → Nat → Prop), Sim F.Z F.H0 F.G0 σ H Hf env c ∧ XL F σ env Wd ∧ t env c Wd Qd ∧
  ∀ (vs : List V) (H' Hf' : Hp) (c' : Nat) (ds : List Slot), Sim F.Z F.H0 F.G0 σ H' Hf' env c' → Same Hf Hf' → ItsRp F.Z F.H0 σ env Hf' H' ds vs → Qd ds c' → Q vs H'
abbrev DAI (X : Cx) (F : Fd) (es : List Expr) (t : TSlD) : Prop := PA X es (liftIt F t)
@[simp] def tNilI : TSlD := fun _ c _ Q => Q [] c
@[simp] def tConsV (t : TED) (u : TSlD) : TSlD := fun env c W Q => t env c W fun d c1 => u env c1 W fun ds c2 => Q (.val d :: ds) c2
@[simp] def tConsO (t : TED) (u : TSlD) : TSlD := fun env c W Q => t env c W fun d c1 => u env c1 W fun ds c2 => Q (.own d :: ds) c2
theorem xl_enter {F : Fd} {σ : L2.St} {env : EnvD} {Wd : WD} {H Hf : Hp} {c : Nat} (S : Sim F.Z F.H0 F.G0 σ H Hf env c) (x : XL F σ env Wd) : XL ⟨F.Z, mask H σ env, Hf, F.W⟩ σ env Wd :=
  fun cls dx H' Hf' c' d B i w => x cls dx H' Hf' c' d (S.join (vs := []) B (fun _ _ => rfl) fun _ _ => rfl) i w
theorem its_out {Z : Wd} {H0 G0 : Hp} {σ : L2.St} {H Hf H' Hf' : Hp} {env : EnvD} {c : Nat} (S : Sim Z H0 G0 σ H Hf env c) : ∀ {ss : List Slot} {vs : List V}, ItsRp Z (mask H σ env) σ env Hf' H' ss vs → ItsRp Z H0 σ env Hf' H' ss vs
  | [], vs, h => h
  | .val d :: r, vs, ⟨v, w, e, h1, h2⟩ => ⟨v, w, e, h1, its_out S h2⟩
  | .own d :: r, vs, ⟨a, w, e, f, h1, h2, h3⟩ => by
    have m : mask H σ env a = H a := mask_out f.ns
    have hn : H a = none := by rw [← m]; exact f.h0
    refine ⟨a, w, e, ⟨?_, f.hf, f.nt, f.ns⟩, h1, h2, its_out S h3⟩
    cases q : H0 a with
    | none => rfl
    | some o =>
      rw [S.keep a o q fun z => f.nt z.t] at hn
      cases hn
theorem its_zip {Z : Wd} {H0 : Hp} {σ : L2.St} {Hf H : Hp} {env : EnvD} {e : D} {b : Addr} : ∀ {ss : List Slot} {vs : List V}, ItsRp Z H0 σ env Hf H ss vs → (Slot.own e, V.ref b) ∈ List.zip ss vs → H0 b = none
  | .val d :: r, vs, ⟨v, w, eq, h1, h2⟩, m => by
    subst eq
    rcases List.mem_cons.mp m with z | z
    · cases z
    · exact its_zip h2 z
  | .own d :: r, vs, ⟨a, w, eq, f, h1, h2, h3⟩, m => by
    subst eq
    rcases List.mem_cons.mp m with z | z
    · cases z
      exact f.h0
    · exact its_zip h3 z
section
variable {X : Cx} {F : Fd} {e : Expr} {es : List Expr} {t : TED} {u : TSlD}
theorem dai_nil : DAI X F [] tNilI := PA.imp pa_nil fun σ H Q ⟨Hf, env, c, Wd, Qd, S, _, ht, k⟩ => k [] H Hf c [] S (Same.refl _) rfl ht
theorem dai_val (ha : DE X F e t) (hr : DAI X F es u) (hs : starEach (e :: es) X.env = (false, eval e X.env) :: starEach es X.env := by rfl) : DAI X F (e :: es) (tConsV t u) :=
  PA.imp (pa_cons ha hr hs) fun σ H Q ⟨Hf, env, c, Wd, Qd, S, x, ht, k⟩ => ⟨Hf, env, c, Wd, _, S, x, ht, fun v H1 Hf1 c1 d S1 s1 k1 r1 q1 =>
    ⟨Hf1, env, c1, Wd, _, S1, x, q1, fun vs H2 Hf2 c2 ds S2 s2 r2 q2 => k (v :: vs) H2 Hf2 c2 (.val d :: ds) S2 (s1.trans s2) ⟨v, vs, rfl, Rp.mono s2 _ _ r1, r2⟩ q2⟩⟩
theorem dai_own (ha : DO X F e t) (hr : ∀ H0 G0 : Hp, DAI X ⟨F.Z, H0, G0, F.W⟩ es u) (hs : starEach (e :: es) X.env = (false, eval e X.env) :: starEach es X.env := by rfl) : DAI X F (e :: es) (tConsO t u) := by
  have hr' : PA X es (fun σ H Q => ∃ H0 G0 : Hp, liftIt ⟨F.Z, H0, G0, F.W⟩ u σ H Q) := ⟨fun pos pins s σ H Q I ⟨H0, G0, q⟩ => (hr H0 G0).run pos pins s σ H Q I q⟩
  refine PA.imp (pa_cons ha hr' hs) fun σ H Q ⟨Hf, env, c, Wd, Qd, S, x, ht, k⟩ => ⟨Hf, env, c, Wd, _, S, x, ht, fun a H1 Hf1 c1 d S1 s1 k1 f1 hn o1 q1 => ?_⟩
  refine ⟨mask H1 σ env, Hf1, Hf1, env, c1, Wd, _, S1.enter, xl_enter S1 x, q1, fun vs H2 Hf2 c2 ds S2 s2 its q2 => ?_⟩
  obtain ⟨ob, hob⟩ := o1.some
  have m : mask H1 σ env a = some ob := by rw [mask_out f1.ns]; exact hob
  have h2 : H2 a = some ob := S2.keep a ob m fun z => f1.nt z.t
  have hf2 : Hf2 a = none := by
    cases q : Hf2 a with
    | none => rfl
    | some o =>
      have z := S2.new a (by rw [q]; exact fun z => by cases z) f1.hf
      replace z : NewB (mask H1 σ env a) := z
      rw [m] at z
      cases d with
      | lst ds => obtain ⟨vs, e, _⟩ := o1; rw [hob] at e; cases e; rcases z with z | ⟨xs, z⟩ <;> cases z
      | dic t ks ds => cases t <;> (obtain ⟨kvs, e, _⟩ := o1; rw [hob] at e; cases e; rcases z with z | ⟨xs, z⟩ <;> cases z)
      | _ => exact o1.elim
  have o2 : OwnRp F.Z.toWz Hf2 H2 a d := OwnRp.mono (Z := F.Z) s2 KeepX.refl f1.nt (OwnRp.at (by rw [h2, hob]) o1)
  refine k (.ref a :: vs) H2 Hf2 c2 (.own d :: ds) (S1.join (vs := []) S2 (fun _ _ => rfl) fun _ _ => rfl) (s1.trans s2) ⟨a, vs, rfl, ⟨f1.h0, hf2, f1.nt, f1.ns⟩, o2, fun e b mb eb => ?_, its_out S1 its⟩ q2
  have z : mask H1 σ env b = none := its_zip its mb
  rw [eb, m] at z
  cases z
end
/-! ### the stores -/
@[simp] def setSl (env : EnvD) : List Nat → List Slot → EnvD
  | i :: is, s :: ss => setSl (env.set i s) is ss
  | _, _ => env
theorem Fresh.setV {Z : Wd} {H0 : Hp} {σ : L2.St} {Hf : Hp} {env : EnvD} {a : Addr} (f : Fresh Z H0 σ Hf env a) (i : Nat) (d : D) (v : V) : Fresh Z H0 (σ.set i (some v)) Hf (env.set i (.val d)) a := ⟨f.h0, f.hf, f.nt, fun j e h => by
  rw [List.getElem?_set] at h
  by_cases hj : i = j
  · rw [if_pos hj] at h
    split at h <;> cases h
  · rw [if_neg hj] at h
    rw [List.getElem?_set_ne hj]
    exact f.ns j e h⟩
theorem Fresh.setO {Z : Wd} {H0 : Hp} {σ : L2.St} {Hf : Hp} {env : EnvD} {a b : Addr} (f : Fresh Z H0 σ Hf env a) (i : Nat) (d : D) (hb : a ≠ b) : Fresh Z H0 (σ.set i (some (.ref b))) Hf (env.set i (.own d)) a := ⟨f.h0, f.hf, f.nt, fun j e h => by
  rw [List.getElem?_set] at h
  by_cases hj : i = j
  · rw [List.getElem?_set, if_pos hj]
    split
    · intro z
      cases z
      exact hb rfl
    · intro z; cases z
  · rw [if_neg hj] at h
    rw [List.getElem?_set_ne hj]
    exact f.ns j e h⟩
theorem its_setV {Z : Wd} {H0 : Hp} {σ : L2.St} {Hf H : Hp} {env : EnvD} {i : Nat} {d : D} {v : V} : ∀ {ss : List Slot} {vs : List V}, ItsRp Z H0 σ env Hf H ss vs → ItsRp Z H0 (σ.set i (some v)) (env.set i (.val d)) Hf H ss vs
  | [], vs, h => h
  | .val _ :: r, vs, ⟨w, ws, e, h1, h2⟩ => ⟨w, ws, e, h1, its_setV h2⟩
  | .own _ :: r, vs, ⟨a, ws, e, f, h1, h2, h3⟩ => ⟨a, ws, e, f.setV i d v, h1, h2, its_setV h3⟩
theorem its_setO {Z : Wd} {H0 : Hp} {σ : L2.St} {Hf H : Hp} {env : EnvD} {i : Nat} {d : D} {b : Addr} : ∀ {ss : List Slot} {vs : List V}, (∀ e a, (Slot.own e, V.ref a) ∈ List.zip ss vs → a ≠ b) → ItsRp Z H0 σ env Hf H ss vs → ItsRp Z H0 (σ.set i (some (.ref b))) (env.set i (.own d)) Hf H ss vs
  | [], vs, _, h => h
  | .val _ :: r, vs, n, ⟨w, ws, e, h1, h2⟩ => ⟨w, ws, e, h1, its_setO (fun e' a m => n e' a (by subst e; exact List.mem_cons_of_mem _ m)) h2⟩
  | .own _ :: r, vs, n, ⟨a, ws, e, f, h1, h2, h3⟩ => ⟨a, ws, e, f.setO i d (n _ a (by subst e; exact List.mem_cons_self)), h1, h2, its_setO (fun e' a' m => n e' a' (by subst e; exact List.mem_cons_of_mem _ m)) h3⟩
theorem sim_its {Z : Wd} {H0 G0 H Hf : Hp} {c : Nat} : ∀ {is : List Nat} {ss : List Slot} {vs : List V} {σ : L2.St} {env : EnvD}, Sim Z H0 G0 σ H Hf env c → ItsRp Z H0 σ env Hf H ss vs → Sim Z H0 G0 (setAll σ is vs) H Hf (setSl env is ss) c
  | [], ss, vs, σ, env, S, h => by cases ss <;> cases vs <;> exact S
  | i :: is, [], vs, σ, env, S, h => by
    cases h
    exact S
  | i :: is, .val d :: ss, vs, σ, env, S, ⟨v, w, e, h1, h2⟩ => by
    subst e
    have z := sim_its (is := is) (S.set h1 i) (its_setV h2)
    exact z
  | i :: is, .own d :: ss, vs, σ, env, S, ⟨a, w, e, f, h1, h2, h3⟩ => by
    subst e
    have z := sim_its (is := is) (S.setOwn f h1 i) (its_setO h2 h3)
    exact z
theorem its_length {Z : Wd} {H0 : Hp} {σ : L2.St} {Hf H : Hp} {env : EnvD} : ∀ {ss : List Slot} {vs : List V}, ItsRp Z H0 σ env Hf H ss vs → ss.length = vs.length
  | [], vs, h => by cases h; rfl
  | .val _ :: r, vs, ⟨w, ws, e, h1, h2⟩ => by subst e; rw [List.length_cons, List.length_cons, its_length h2]
  | .own _ :: r, vs, ⟨a, ws, e, f, h1, h2, h3⟩ => by subst e; rw [List.length_cons, List.length_cons, its_length h3]
@[simp] def tParD (is : List Nat) (u : TSlD) : TSD := fun D env c => u env c (fun d c1 => D.ex d env c1) fun ss c1 => ss.length = is.length ∧ D.nx (setSl env is ss) c1
section
variable {X : Cx} {F : Fd} {u : TSlD} {pos : Pos}
theorem ds_par2 (i j : Nat) {x y : Str} {a b : Expr} {px py pt : Pos} {kt k2 pt2} (hN : X.N.Nodup) (ha : DAI X F [a, b] u) (hij : i ≠ j) (hw : swappedStores [.Tuple [.Name x px, .Name y py] kt pt] (.Tuple [a, b] k2 pt2) X.env = pure (some [x, y])) (hc : X.calm = true := by rfl) (hi : X.N[i]? = some x := by rfl) (hj : X.N[j]? = some y := by rfl)
    (hx : X.env.scope.names.lookup x = some .local := by rfl) (hy : X.env.scope.names.lookup y = some .local := by rfl)
    (hs : swapsWithSole [.Tuple [.Name x px, .Name y py] kt pt] (.Tuple [a, b] k2 pt2) pos.line X.env = pure false := by rfl) :
    DS X F (.Assign [.Tuple [.Name x px, .Name y py] kt pt] (.Tuple [a, b] k2 pt2) pos) (tParD [i, j] u) :=
  PS.imp (ps_par hc hN hi hj hij hx hy ha hw hs) fun D0 σ H ⟨Hf, env, c, Dd, S, L, h⟩ => ⟨Hf, env, c, _, _, S, L.xl σ env, h, fun vs H' Hf' c' ss S' s1 its ⟨hl, q⟩ => by
    have hv := its_length its
    match vs, hv.symm.trans hl with
    | [v, w], _ => exact ⟨v, w, rfl, L.nx _ H' Hf' _ c' (sim_its (is := [i, j]) S' its) s1 q⟩⟩
theorem ds_par3 (i j l : Nat) {x y z : Str} {a b c : Expr} {px py pz pt : Pos} {kt k2 pt2} (hN : X.N.Nodup) (ha : DAI X F [a, b, c] u) (hij : i ≠ j) (hil : i ≠ l) (hjl : j ≠ l) (hw : swappedStores [.Tuple [.Name x px, .Name y py, .Name z pz] kt pt] (.Tuple [a, b, c] k2 pt2) X.env = pure (some [x, y, z])) (hc : X.calm = true := by rfl) (hi : X.N[i]? = some x := by rfl) (hj : X.N[j]? = some y := by rfl) (hl : X.N[l]? = some z := by rfl)
    (hx : X.env.scope.names.lookup x = some .local := by rfl) (hy : X.env.scope.names.lookup y = some .local := by rfl) (hz : X.env.scope.names.lookup z = some .local := by rfl)
    (hs : swapsWithSole [.Tuple [.Name x px, .Name y py, .Name z pz] kt pt] (.Tuple [a, b, c] k2 pt2) pos.line X.env = pure false := by rfl) :
    DS X F (.Assign [.Tuple [.Name x px, .Name y py, .Name z pz] kt pt] (.Tuple [a, b, c] k2 pt2) pos) (tParD [i, j, l] u) :=
  PS.imp (ps_par3 hc hN hi hj hl hij hil hjl hx hy hz ha hw hs) fun D0 σ H ⟨Hf, env, c, Dd, S, L, h⟩ => ⟨Hf, env, c, _, _, S, L.xl σ env, h, fun vs H' Hf' c' ss S' s1 its ⟨hl, q⟩ => by
    have hv := its_length its
    match vs, hv.symm.trans hl with
    | [v, w, u], _ => exact ⟨v, w, u, rfl, L.nx _ H' Hf' _ c' (sim_its (is := [i, j, l]) S' its) s1 q⟩⟩
end
/-! ### expressions that change a slot's own thing -/
abbrev TPD := EnvD → Nat → WD → (D → EnvD → Nat → Prop) → Prop
def liftP (F : Fd) (t : TPD) : TE := fun σ H Q => ∃ (Hf : Hp) (env : EnvD) (c : Nat) (Wd : WD) (Qd : D → EnvD → Nat → Prop), Sim F.Z F.H0 F.G0 σ H Hf env c ∧ XL F σ env Wd ∧ t env c Wd Qd ∧
  ∀ (v : V) (H' Hf' : Hp) (c' : Nat) (d : D) (env' : EnvD), Sim F.Z F.H0 F.G0 σ H' Hf' env' c' → Same Hf Hf' → Rp F.Z.toWz Hf' d v → Qd d env' c' → Q v H'
abbrev DP (X : Cx) (F : Fd) (e : Expr) (t : TPD) : Prop := PE X e (liftP F t)
section
variable {X : Cx} {F : Fd} {e : Expr} {pos : Pos} {t : TPD} {te : TED}
@[simp] def tSetP (i : Nat) (t : TPD) : TSD := fun D env c => t env c (fun d c1 => D.ex d env c1) fun d env' c1 => D.nx (env'.set i (.val d)) c1
theorem ds_setP (i : Nat) {x : Str} {p : Pos} (hN : X.N.Nodup) (he : DP X F e t) (hi : X.N[i]? = some x := by rfl) (hx : Loc X.env.scope x := by first | exact Or.inl rfl | exact Or.inr rfl) (hs : swapsWith e (some (.Name x p)) pos.line X.env = pure false := by rfl)
    (hf : X.fn x = true ∨ X.env.scope.names.lookup x = some .local := by first | exact .inl rfl | exact .inr rfl) : DS X F (.Assign [.Name x p] e pos) (tSetP i t) :=
  PS.imp (ps_set hN hi hx he hs hf) fun D σ H ⟨Hf, env, c, Dd, S, L, h⟩ => ⟨Hf, env, c, _, _, S, L.xl σ env, h, fun v H' Hf' c' d env' S' s1 r q => L.nx _ H' Hf' _ c' (S'.set r i) s1 q⟩
@[simp] def tDropP (t : TPD) : TSD := fun D env c => t env c (fun d c1 => D.ex d env c1) fun _ env' c1 => D.nx env' c1
theorem ds_exprP (he : DP X F e t) (hs : swapsWith e none pos.line X.env = pure false := by rfl) : DS X F (.Expr e pos) (tDropP t) := PS.imp (ps_expr he hs) fun D σ H ⟨Hf, env, c, Dd, S, L, h⟩ =>
  ⟨Hf, env, c, _, _, S, L.xl σ env, h, fun v H' Hf' c' d env' S' s1 _ q => L.nx σ H' Hf' env' c' S' s1 q⟩
/-- xs.append(ys.pop(..)) -/
@[simp] def tAppP (i : Nat) (t : TPD) : TSD := fun D env c => match env[i]? with
  | some (.own (.lst _)) => t env c (fun d c1 => D.ex d env c1) fun d env' c1 => match env'[i]? with
    | some (.own (.lst ds)) => ds.length < sizeLine ∧ D.nx (env'.set i (.own (.lst (ds ++ [d])))) c1
    | _ => False
  | _ => False
theorem ds_appP (i : Nat) {x : Str} {p apos cpos : Pos} (he : DP X F e t) (hx : PE X (.Name x p) (tVar i) := by exact pv _)
    (hbase : attributeBase (.Name x p) "append" X.env (eval (.Name x p) X.env) = eval (.Name x p) X.env := by rfl)
    (hfew : ((backTo cpos (starEach (e :: []) X.env)).all (fun x => !x.1) && (backToKw cpos (keywordEach [] X.env)).all (fun x => x.1.isSome)
      && decide ((e :: []).length + ([] : List Keyword).length + (if ([] : List Keyword).isEmpty then 0 else 1) < 30)) = true := by rfl)
    (hline : (apos.endLine == cpos.line) = true := by rfl) (he2 : starEach (e :: []) X.env = (false, eval e X.env) :: starEach [] X.env := by rfl) (hplain : (backTo cpos (starEach [] X.env)).any (·.1) = false := by rfl)
    (hs : swapsWith (.Call (.Attribute (.Name x p) "append" apos) [e] [] cpos) none pos.line X.env = pure false := by rfl) :
    DS X F (.Expr (.Call (.Attribute (.Name x p) "append" apos) [e] [] cpos) pos) (tAppP i t) :=
  PS.imp (ps_expr (pe_bm PySem.F.plainAttrs_list PySem.F.slot_list_append PySem.F.type_list_append (fun pins s σ H x xs v us Q I rx rxs h => mt_append pins s σ H x xs v us Q I rx rxs h) hx (pa_cons he pa_nil he2) hbase hfew hline he2 hplain) hs) fun D σ H ⟨Hf, env, c, Dd, S, L, h⟩ => by
  unfold tAppP at h
  split at h
  · rename_i ds0 e0
    obtain ⟨a, e1, h2, h3, h4, vs, e5, r5⟩ := S.own i _ e0
    refine ⟨.ref a, e1, .inl ⟨rfl, vs, SqL.of e5⟩, Hf, env, c, _, _, S, L.xl σ env, h, fun v H' Hf' c' d env' S' s1 r q => ?_⟩
    split at q
    · rename_i ds e6
      obtain ⟨hl, q⟩ := q
      obtain ⟨a', g1, g2, g3, g4, ws, g5, q5⟩ := S'.own i _ e6
      rw [e1] at g1
      cases g1
      refine ⟨a, ws, v, rfl, rfl, g5, by rw [← q5.length]; exact hl, ?_⟩
      exact L.nx σ _ Hf' _ c' (S'.change (d' := .lst (ds ++ [d])) e6 e1 ⟨_, upd_same, q5.append (RpL.cons r RpL.nil)⟩) s1 q
    · exact q.elim
  · exact h.elim
/-- ys.pop(e) -/
@[simp] def tPopAtD (j : Nat) (te : TED) : TPD := fun env c W Q => match env[j]? with
  | some (.own (.lst ds)) => te env c W fun d c1 => match d with
    | .int i => (-(2 ^ 63) ≤ i ∧ i < 2 ^ 63) ∧ ∃ k x, seqIndex? i ds.length = some k ∧ ds[k]? = some x ∧ Q x (env.set j (.own (.lst (ds.eraseIdx k)))) c1
    | _ => False
  | _ => False
theorem dp_popAt (j : Nat) {x : Str} {p apos cpos : Pos} (he : DE X F e te) (hx : PE X (.Name x p) (tVar j) := by exact pv _)
    (hbase : attributeBase (.Name x p) "pop" X.env (eval (.Name x p) X.env) = eval (.Name x p) X.env := by rfl)
    (hfew : ((backTo cpos (starEach (e :: []) X.env)).all (fun x => !x.1) && (backToKw cpos (keywordEach [] X.env)).all (fun x => x.1.isSome)
      && decide ((e :: []).length + ([] : List Keyword).length + (if ([] : List Keyword).isEmpty then 0 else 1) < 30)) = true := by rfl)
    (hline : (apos.endLine == cpos.line) = true := by rfl) (he2 : starEach (e :: []) X.env = (false, eval e X.env) :: starEach [] X.env := by rfl) (hplain : (backTo cpos (starEach [] X.env)).any (·.1) = false := by rfl) :
    DP X F (.Call (.Attribute (.Name x p) "pop" apos) [e] [] cpos) (tPopAtD j te) :=
  PE.imp (pe_bm PySem.F.plainAttrs_list PySem.F.slot_list_pop PySem.F.type_list_pop (fun pins s σ H x xs v us Q I rx rxs h => mt_popAt pins s σ H x xs v us Q I rx rxs h) hx (pa_cons he pa_nil he2) hbase hfew hline he2 hplain) fun σ H Q ⟨Hf, env, c, Wd, Qd, S, xl, h, k⟩ => by
  unfold tPopAtD at h
  split at h
  · rename_i ds0 e0
    obtain ⟨a, e1, h2, h3, h4, vs, e5, r5⟩ := S.own j _ e0
    refine ⟨.ref a, e1, .inl ⟨rfl, vs, SqL.of e5⟩, Hf, env, c, _, _, S, xl, h, fun v H' Hf' c' d S' s1 k1 r q => ?_⟩
    split at q
    · rename_i i
      obtain ⟨⟨b1, b2⟩, n, y, q1, q2, q3⟩ := q
      cases rp_int.mp r
      obtain ⟨a', g1, g2, g3, g4, ws, g5, q5⟩ := S'.own j _ e0
      rw [e1] at g1
      cases g1
      obtain ⟨w, w1, w2⟩ := q5.get q2
      refine ⟨a, ws, i, n, w, rfl, rfl, g5, b1, b2, by rw [← q5.length]; exact q1, w1, ?_⟩
      exact k w _ Hf' c' y _ (S'.change (d' := .lst (ds0.eraseIdx n)) e0 e1 ⟨_, upd_same, q5.erase n⟩) s1 w2 q3
    · exact q.elim
  · exact h.elim
/-- ys.pop() -/
@[simp] def tPopD (j : Nat) : TPD := fun env c _ Q => match env[j]? with
  | some (.own (.lst ds)) => ∃ x, ds[ds.length - 1]? = some x ∧ Q x (env.set j (.own (.lst ds.dropLast))) c
  | _ => False
theorem RpL.dropLast {Z : Wz} {H : Hp} {ds : List D} {vs : List V} (h : RpL Z H ds vs) : RpL Z H ds.dropLast vs.dropLast := by
  rw [List.dropLast_eq_take, List.dropLast_eq_take, h.length]
  exact h.take _
theorem dp_pop (j : Nat) {x : Str} {p apos cpos : Pos} (hx : PE X (.Name x p) (tVar j) := by exact pv _)
    (hbase : attributeBase (.Name x p) "pop" X.env (eval (.Name x p) X.env) = eval (.Name x p) X.env := by rfl) (hline : (apos.endLine == cpos.line) = true := by rfl) :
    DP X F (.Call (.Attribute (.Name x p) "pop" apos) [] [] cpos) (tPopD j) :=
  PE.imp (pe_bm0 PySem.F.plainAttrs_list PySem.F.slot_list_pop PySem.F.type_list_pop (fun pins s σ H x xs v us Q I rx rxs h => mt_pop pins s σ H x xs v us Q I rx rxs h) hx hbase hline) fun σ H Q ⟨Hf, env, c, Wd, Qd, S, xl, h, k⟩ => by
  unfold tPopD at h
  split at h
  · rename_i ds0 e0
    obtain ⟨a, e1, h2, h3, h4, vs, e5, r5⟩ := S.own j _ e0
    obtain ⟨y, q2, q3⟩ := h
    obtain ⟨w, w1, w2⟩ := r5.get q2
    rw [r5.length] at w1
    exact ⟨.ref a, e1, .inl ⟨rfl, vs, SqL.of e5⟩, a, vs, w, rfl, rfl, e5, w1, k w _ Hf c y _ (S.change (d' := .lst ds0.dropLast) e0 e1 ⟨_, upd_same, r5.dropLast⟩) (Same.refl _) w2 q3⟩
  · exact h.elim
end
end DL
set_option Elab.async false
set_option linter.all false
set_option maxRecDepth 100000
set_option maxHeartbeats 1000000
/-! DL18: dict displays of constants. -/
namespace DL
open PySem PySem.Spec PyProof.Rows L2
theorem tPairs_c {σ : L2.St} {H : Hp} {Q : List (V × V) → Hp → Prop} : ∀ {kvs : List (Key × V)}, Q (kvs.map fun p => (kV p.1, p.2)) H → tPairs (kvs.map fun p => (tC (kV p.1), tC p.2)) σ H Q
  | [], h => h
  | p :: r, h => tPairs_c (kvs := r) (Q := fun ps H3 => Q ((kV p.1, p.2) :: ps) H3) h
theorem do_dispC {X : Cx} {F : Fd} {pos : Pos} {keys : List (Option Expr)} {values : List Expr} (kvs : List (Key × V)) (ds : List D) (h : PPs X pos keys values (kvs.map fun p => (tC (kV p.1), tC p.2))) (hall : keys.all (·.isSome) = true) (hl : keys.length = values.length) (h0 : keys ≠ [])
    (h15 : keys.length ≤ 15) (hk : kvs.length ≤ 15) (hm : mergeK [] kvs = kvs) (hd : ∀ (Z : Wz) (H : Hp), RpL Z H ds (kvs.map fun p => p.2)) : DO X F (.Dict keys values pos) (tCD (.dic false (kvs.map fun p => kD p.1) ds)) :=
  PE.imp (pe_disp h hall hl h0 h15) fun σ H Q ⟨Hf, env, c, Wd, Qd, S, x, ht, k⟩ p hp => tPairs_c ⟨upd_same, kvs, rfl, hk, by
    rw [hm]
    have f := S.fresh hp
    have S1 := (S.laid hp (.dK [])).touch f (.dK kvs) (fun u hu => by rw [upd_same] at hu; cases hu; exact ntab_dK)
    exact k p _ Hf c (.dic false (kvs.map fun (p : Key × V) => kD p.1) ds) S1 (Same.refl _) (Keep.refl.upd hp (Keep.of (same_upd hp)) _) f (fun o => Keep.refl.upd hp (Keep.refl.upd hp (Keep.of (same_upd hp)) _) o) ⟨kvs, upd_same, rfl, hd _ _⟩ ht⟩
end DL
set_option Elab.async false
set_option linter.all false
set_option maxRecDepth 100000
set_option maxHeartbeats 1000000
/-! DL19: an exception that a clause has caught is kept as a value. -/
namespace DL
open PySem PySem.Spec PyProof.Rows L2

theorem exD_new {P : Program} {w : World} {H : Hp} {h : Heap} {a : Addr} {cls : Value} {dx : Option Addr} {oe : Obj} {vs : Array Value} (e : h.get? a = some oe) (z : Zc cls dx oe) (d : oe.data = .fields vs) : ObjOk P w H h a (ExD cls dx a) :=
  ⟨⟨oe, vs, e, z, d⟩, ⟨oe, e⟩, fun _ _ ⟨o, v, q, r⟩ k => ⟨o, v, k o q, r⟩⟩
section
variable {X : Cx} {pins : List (Addr × Obj)} {σ : L2.St} {H : Hp} {s : Shared}
/-- an object that stands, new since the frame began, comes into sight -/
theorem inv_sight {a : Addr} {oe : Obj} {vs : Array Value} {o : HO} (I : Inv X pins σ H s) (old : X.s_0.heap.get? a = none) (un : H a = none) (loc : a ≠ X.env.locals) (there : s.heap.get? a = some oe) (data : oe.data = .fields vs) (far : ∀ p ∈ X.pn ++ pins, p.1 ≠ a)
    (new : ObjOk X.prog X.w (upd H a o) s.heap a o) : Inv X pins σ (upd H a o) s := by
  have B := I.base
  have cellsFar : ∀ x c, X.env.cells.lookup x = some c → c ≠ a := fun x c e z => by
    obtain ⟨v, ob, h1, h2⟩ := I.cell x c e
    rw [z, there] at h1
    cases h1
    rw [data] at h2
    cases h2
  constructor
  · exact I.ok
  · exact I.os
  · exact I.bare
  · constructor
    · exact B.keep
    · exact B.slot
    · intro b ob e n x
      have hb : b ≠ a := fun z => by rw [z, old] at e; cases e
      rw [upd_ne hb]
      exact B.free b ob e n x
    · exact B.there
    · intro b xs e
      have q := B.tups b xs e
      rw [upd_ne (ne_of_none q un)]
      exact q
    · intro b ob u e
      have q := B.frzs b ob u e
      rw [upd_ne (ne_of_none q un)]
      exact q
    · intro b ps e
      obtain ⟨more, q⟩ := B.tbls b ps e
      exact ⟨more, by rw [upd_ne (ne_of_none q un)]; exact q⟩
  · exact I.loc
  · exact I.cell
  · rw [upd_ne (Ne.symm loc)]
    exact I.free
  · intro x c e
    rw [upd_ne (cellsFar x c e)]
    exact I.freeC x c e
  · intro p hp
    obtain ⟨h1, h2, h3⟩ := I.pin p hp
    exact ⟨h1, by rw [upd_ne (far p hp)]; exact h2, h3⟩
  · exact HOk.laidN I.hok (fun _ _ e => e) un new
  · exact I.len
end
/-- what «except x as n: suite» wishes when the exception's object comes into sight behind the suite; slot i is n's -/
def wKeep (K : PySem.W.Frag) (c : Value) (i nN : Nat) (ts : Addr → Value → Option Addr → TS) (Wout : WX) (D : Ends) : WX := fun cls d σ H =>
  ∃ b, PySem.W.exmOne K cls c = some b ∧ (b = true → σ.length = nN → ∀ a, H a = none → ts a cls d { nx := fun σ' H' => D.nx (σ'.set i none) (upd H' a (ExD cls d a)), rt := fun _ _ => False, bk := fun _ _ => False, ct := fun _ _ => False } (σ.set i (some (.ref a))) H) ∧
    (b = false → Wout cls d σ H)
theorem ps_try_keep {X : Cx} {x n : Str} {c : Value} {i : Nat} {body rest : List Stmt} {first : Stmt} {np pos pos' : Pos} {tb : WX → TS} {ts : Addr → Value → Option Addr → TS} {Wout : WX} (hs : X.stack = X.env :: X.outer) (hf : X.env.frame = some X.env.locals) (hx : X.ex = []) (hN : X.N.Nodup) (hi : X.N[i]? = some n)
    (hln : X.env.kindOf n = some .local) (hc : Names X x c) (tk : Takes X Wout)
    (hb : ∀ (W : WX) (pn : List (Addr × Obj)) (xe : Value → Shared → Prop), Takes (X.tr pn xe) W → PassesOwn (model X.prog X.w) X.A X.env xe → PSs (X.tr pn xe) body (tb W))
    (hsu : ∀ (a : Addr) (oe : Obj) (cls : Value) (d : Option Addr) (pn : List (Addr × Obj)), Zc cls d oe → (∃ vs, oe.data = .fields vs) → PSs (X.suite a ((a, oe) :: pn)) (first :: rest) (ts a cls d)) :
    PS X (.Try body [.ExceptHandler (some (.Name x np)) (some n) (first :: rest) pos'] [] [] pos) (fun D σ H => tb (wKeep X.K c i X.N.length ts Wout D) D σ H) := by
  constructor
  intro pins s σ H D I h
  have ok := I.ok
  have frames : X.A.frames = some (X.env :: X.outer) := by rw [ok.frames, hs]
  apply wpAny_Try_except
  -- what the handlers do with an exception of the body
  have caught : ∀ (u : Value) (s' : Shared), XE (X.tr (X.pn ++ pins) (fun e s₁ => wpAny (model X.prog X.w) X.A (noteFrame e X.env) (fun _ s₂ => wpAny (model X.prog X.w) X.A (setFlight e none) (fun _ s₃ =>
      wpAny (model X.prog X.w) X.A (handleBy e X.env [.ExceptHandler (some (.Name x np)) (some n) (first :: rest) pos']) (SP X pins D) X.xe s₃) X.xe s₂) X.xe s₁)) (wKeep X.K c i X.N.length ts Wout D) u s' →
      wpAny (model X.prog X.w) X.A (noteFrame u X.env) (fun _ s₂ => wpAny (model X.prog X.w) X.A (setFlight u none) (fun _ s₃ =>
        wpAny (model X.prog X.w) X.A (handleBy u X.env [.ExceptHandler (some (.Name x np)) (some n) (first :: rest) pos']) (SP X pins D) X.xe s₃) X.xe s₂) X.xe s' := by
    rintro u s' ⟨a, B, sI, pins1, σ1, H1, cls, d, eu, I1', ground, up1, sky, na, os, ag, b, isExc, yes, no⟩
    subst eu
    have I1 : Inv X pins σ1 H1 sI := I1'.ofTry ok
    rw [show (X.tr (X.pn ++ pins) _).stack = X.env :: X.outer from hs] at sky
    refine Sky.land Zc.steady frames hf sky ?_
    intro h3 fly up3
    have I3 : Inv X pins σ1 H1 { s' with heap := h3 } := I1.landed ground fly.1 (up1.trans up3) os ag
    obtain ⟨oe3, vs3, e3, z3, d3⟩ := fly.there
    -- the exception's object is no frame, and it is new
    have noFrame : a ∉ frs (X.env :: X.outer) := by
      intro m
      obtain ⟨_, o', eo, bad⟩ := fly.2.2.1.mem m
      rw [e3] at eo
      cases eo
      exact bad _ d3
    have noLoc : a ≠ X.env.locals := fun z => noFrame (List.mem_filterMap.mpr ⟨X.env, List.mem_cons_self, by rw [hf, z]⟩)
    have noFs : a ∉ X.fs := fun m => by
      obtain ⟨v, hv, q⟩ := List.mem_filterMap.mp m
      exact noFrame (List.mem_filterMap.mpr ⟨v, List.mem_cons_of_mem _ hv, q⟩)
    have newI : sI.heap.get? a = none := by
      cases q : sI.heap.get? a with
      | none => rfl
      | some o =>
        have z := ground a o q (by rw [show (X.tr (X.pn ++ pins) _).stack = X.env :: X.outer from hs]; exact noFrame)
        rw [fly.2.1] at z
        cases z
    have old : X.s_0.heap.get? a = none := by
      cases q : X.s_0.heap.get? a with
      | none => rfl
      | some o =>
        obtain ⟨o', z⟩ := I1.base.there a o q (by rw [hx]; exact List.not_mem_nil)
        rw [newI] at z
        cases z
    have far : ∀ p ∈ X.pn ++ pins, p.1 ≠ a := fun p hp z => by
      have q := (I1.pin p hp).1
      rw [z, newI] at q
      cases q
    have S3 := I3.suite e3 d3 na noLoc noFs
    refine wpAny_handleBy_cons (codeAny_handlers_test ?_) (by intro q; cases q)
    have typ : PySem.W.Looks (model X.prog X.w) h3 (typeOf (.ref a)) cls := fun A Q E s k q => wpAny_typeOf_ref (k _ _ e3) (by rw [z3.1]; exact q)
    have hit := PySem.W.exm_one (M := model X.prog X.w) I3.kIn typ isExc
    have name : ∀ {Q E : Value → Shared → Prop}, Q c { s' with heap := h3 } → wpAny (model X.prog X.w) (X.A.mark (some (.ref a))) (eval (.Name x np) X.env) Q E { s' with heap := h3 } := by
      intro Q E q
      obtain ⟨hg, hdb, hm | ⟨hm, hv, hn⟩⟩ := hc
      · exact ld_glob (X := X.suite a ((a, oe3) :: (X.pn ++ pins))) S3 hg hm q hdb
      · exact ld_blt (X := X.suite a ((a, oe3) :: (X.pn ++ pins))) S3 hg hm hv q hn hdb
    refine name (hit.here ?_)
    cases b with
    | false =>
      show wpAny _ X.A (handleBy (.ref a) X.env []) _ _ _
      apply wpAny_handleBy_nil
      obtain ⟨_, _, _, oe, vs, T, oT, ts', he, hz, hd, h1, hr⟩ := id fly
      unfold PySem.passOn
      refine wpAny_bind (wpAny_field he hd h1 ?_)
      rw [if_neg (show ¬ ((Value.ref T == Value.none) = true) from by simp)]
      have away : wpAny (model X.prog X.w) X.A (setFlight (.ref a) X.env.frame) (fun _ s4 => wpAny (model X.prog X.w) X.A (throw (.ref a) : Sem Flow) (SP X pins D) X.xe s4) X.xe { s' with heap := h3 } := by
        rw [hf]
        refine HandSPX.setFlight_upZ fly fun h4 held up4 => wpAny_throw (tk _ _ ?_)
        exact ⟨a, B, sI, pins, σ1, H1, cls, d, rfl, I1, ground, (up1.trans up3).trans up4, .inr (.inr (by rw [hs]; exact held)), na, os, ag, no rfl⟩
      first
        | exact wpAny_bind (wpAny_pure (wpAny_bind away))
        | exact wpAny_bind away
    | true =>
      apply codeAny_handlers_suite_as
      refine HandSPX.lands_againZ fly ?_
      intro h4 fly4 up4
      have I4 : Inv X pins σ1 H1 { s' with heap := h4 } := I1.landed ground fly4.1 ((up1.trans up3).trans up4) os ag
      obtain ⟨oe4, vs4, e4, z4, d4⟩ := fly4.there
      have S4 := I4.suite e4 d4 na noLoc noFs
      refine store_ok (X := X.suite a ((a, oe4) :: (X.pn ++ pins))) (v := .ref a) S4 hN hi (.inl hln) rfl ?_ (.inr hln)
      intro s5 S5
      refine wpAny_mono ((hsu a oe4 cls d (X.pn ++ pins) z4 ⟨_, d4⟩).run [] s5 _ H1 _ S5 (yes rfl I1.len a na)) ?_ (fun _ _ z => False.elim z)
      intro f s6 post
      cases f with
      | next =>
        obtain ⟨σ6, H6, S6, q6⟩ := post
        obtain ⟨g1, g2, _⟩ := S6.pin (a, oe4) (by rw [List.append_nil]; exact List.mem_cons_self)
        have I6 := inv_sight (S6.unsuite ok) old g2 noLoc g1 d4 far (exD_new g1 z4 d4)
        exact gone_ok I6 hN hi hln fun s7 I7 => ⟨_, _, I7, q6⟩
      | brk =>
        obtain ⟨_, _, _, z⟩ := post
        exact z.elim
      | cont =>
        obtain ⟨_, _, _, z⟩ := post
        exact z.elim
      | ret u =>
        obtain ⟨_, _, _, _, _, z⟩ := post
        exact z.elim
  refine wpAny_mono ((hb (wKeep X.K c i X.N.length ts Wout D) (X.pn ++ pins) _ (fun u s' xx => caught u s' xx) PassesOwn.looking).run [] s σ H D (I.toTry _) h) ?_ (fun e s1 he => he)
  intro f s1 post
  cases f with
  | next =>
    obtain ⟨σ', H', J, q⟩ := post
    exact wpAny_execs_nil ⟨σ', H', J.ofTry ok, q⟩
  | brk =>
    obtain ⟨σ', H', J, q⟩ := post
    exact ⟨σ', H', J.ofTry ok, q⟩
  | cont =>
    obtain ⟨σ', H', J, q⟩ := post
    exact ⟨σ', H', J.ofTry ok, q⟩
  | ret u =>
    obtain ⟨v, σ', H', J, r, q⟩ := post
    exact ⟨v, σ', H', J.ofTry ok, r, q⟩
end DL
set_option Elab.async false
set_option linter.all false
set_option maxRecDepth 100000
set_option maxHeartbeats 1000000
/-! DL20: _law_caught(lambda: ..). -/
namespace DL
open PySem PySem.Spec PyProof.Rows L2

/-- no table in what a frame began with -/
structure NoTbl (F : Fd) : Prop where
  h : ∀ b ps, F.H0 b ≠ some (.tbl ps)
  g : ∀ b ps, F.G0 b ≠ some (.tbl ps)
theorem Sim.extN {Z : Wd} {H0 G0 : Hp} {σ : L2.St} {H Hf H1 : Hp} {env : EnvD} {c : Nat} (S : Sim Z H0 G0 σ H Hf env c) (h0 : ∀ b ps, H0 b ≠ some (.tbl ps)) (g0 : ∀ b ps, G0 b ≠ some (.tbl ps)) (e : LamX.ExtN H H1) (t : LamX.Tabs Z.tabs H1) : Sim Z H0 G0 σ H1 Hf env c where
  sub := fun b o q => e b o (S.sub b o q) fun ps z => by
    subst z
    exact g0 b ps (S.ntb b ps q)
  g0 := S.g0
  new := S.new
  keep := fun b o q n => e b o (S.keep b o q n) fun ps z => by
    subst z
    exact h0 b ps q
  len := S.len
  val := S.val
  own := fun i d q => by
    obtain ⟨a, h1, h2, h3, h4, h5⟩ := S.own i d q
    obtain ⟨o, ho⟩ := h5.some
    have nt := OwnRp.ntab ho h5
    have h1' := e a o ho fun ps z => nt (.inl ⟨ps, z⟩)
    exact ⟨a, h1, h2, h3, h4, OwnRp.at (by rw [h1', ho]) h5⟩
  inj := S.inj
  st := fun hs => by
    obtain ⟨l, t, ls, cs, a1, a2, a3, r⟩ := S.st hs
    exact ⟨l, t, ls, cs, e _ _ a1 (fun _ z => by cases z), e _ _ a2 (fun _ z => by cases z), e _ _ a3 (fun _ z => by cases z), r⟩
  stf := S.stf
  tab := t
  ntb := S.ntb

/-- what _law_caught makes of its lambda -/
def TTc (K : PySem.W.Frag) (CS : Addr) : (XK → Hp → VK → Prop) → Hp → VK → Prop := fun tl H Q =>
  tl (fun cls d H' => ∃ b, PySem.W.exmOne K cls (.ref CS) = some b ∧ (b = true → ∀ a, H' a = none → Q (.ref a) (upd H' a (ExD cls d a))) ∧ (b = false → False)) H fun _ H' => ∃ v, (some (some V.non) : Option (Option V)) = some (some v) ∧ Q v H'
theorem caught_gives {X : Cx} {Ng : List Str} {x a e y q : Str} {sg : Scope} {g CS : Addr} {cdg : Value} {j : Nat} {b1 b2 b3 p1 p2 p3 p4 p5 p6 p7 p8 p9 p10 p11 : Pos} (er : Str) (hNg : Ng = [a, y, er]) (hnd : Ng.Nodup)
    (hge : sg.names.lookup e = some .globalImplicit) (hme : X.mg e = some (.ref CS)) (hde : (e == ("__debug__" : Str)) = false) (hly : sg.names.lookup y = some .local) (hle : sg.names.lookup er = some .local)
    (hy1 : (y == ("__debug__" : Str)) = false) (hy2 : (y == ("__classdict__" : Str)) = false) (he1 : (er == ("__debug__" : Str)) = false) (he2 : (er == ("__classdict__" : Str)) = false) :
    LamX.GivesTo X Ng x sg g cdg [.Assign [.Name y b1] (.Constant .none j b2) b3, .Try [.Expr (.Call (.Name a p1) [] [] p2) p3] [.ExceptHandler (some (.Name e p4)) (some er) [.Assign [.Name y p5] (.Name er p6) p7] p8] [] [] p9, .Return (some (.Name y p10)) p11] a q (TTc X.K CS) := by
  intro f c' s H Q tl act hc h
  subst hNg
  let Z := (cxOf C8.CX0 X.prog X.w X.K X.mg X.base [a, y, er] x sg g cdg X.A X.stack s H C8.E0).nox
  have hgl : Gl Z e := hge
  have eN : L2.start [a, y, er] [V.ref f] = [some (.ref f), none, none] := rfl
  have vy : Vis Z.env.scope y := Or.inl hly
  have tryPart : PS Z (.Try [.Expr (.Call (.Name a p1) [] [] p2) p3] [.ExceptHandler (some (.Name e p4)) (some er) [.Assign [.Name y p5] (.Name er p6) p7] p8] [] [] p9)
      (fun D σ H => ∃ Ech : XK, (∀ cls d σ' H', Ech cls d H' → wKeep Z.K (.ref CS) 2 Z.N.length (fun _ _ _ => tAsg (tVar 2) (gName 1)) (fun _ _ _ _ => False) D cls d σ' H') ∧ σ[0]? = some (some (.ref f)) ∧ H c' = some (LamX.CodeO c' q) ∧ tl Ech H (fun _ H' => D.nx σ H')) := by
    refine ps_try_keep (X := Z) (c := .ref CS) (i := 2) (ts := fun _ _ _ => tAsg (tVar 2) (gName 1)) (Wout := fun _ _ _ _ => False)
      (tb := fun W D σ H => ∃ Ech : XK, (∀ cls d σ' H', Ech cls d H' → W cls d σ' H') ∧ σ[0]? = some (some (.ref f)) ∧ H c' = some (LamX.CodeO c' q) ∧ tl Ech H (fun _ H' => D.nx σ H')) rfl rfl rfl hnd rfl hle ⟨hgl, hde, .inl hme⟩ takes0 (fun W pn xe tk _ => ?_) (fun a oe cls d pn _ _ => ?_)
    · refine ⟨fun pins s' σ H' D I ⟨Ech, hW, h1, h2, h3⟩ => ?_⟩
      exact (pss_one (ps_expr (pos := p3) (act W pn xe Ech p1 p2 tk hW) rfl)).run pins s' σ H' D I ⟨h1, h2, h3⟩
    · exact pss_one (ps_set (i := 1) (X := Z.suite a ((a, oe) :: pn)) hnd rfl (Or.inl hly) (pe_var (i := 2) rfl (Or.inl hle) he1 he2) rfl (.inr hly))
  refine ⟨_, pss_cons (ps_set (i := 1) (X := Z) hnd rfl (Or.inl hly) pe_non rfl (.inr hly)) (pss_cons tryPart (pss_one (ps_ret (pe_var (X := Z) (i := 1) rfl vy hy1 hy2)))), ?_⟩
  rw [eN]
  refine ⟨fun cls d H' => ∃ b, PySem.W.exmOne X.K cls (.ref CS) = some b ∧ (b = true → ∀ a, H' a = none → Q (.ref a) (upd H' a (ExD cls d a))) ∧ (b = false → False), fun cls d σ' H' ⟨b, e1, e2, e3⟩ => ⟨b, e1, fun hb hl a na => ?_, fun hb => e3 hb⟩, rfl, hc, ?_⟩
  · match σ', hl with
    | [v0, v1, v2], _ => exact ⟨_, rfl, _, rfl, e2 hb a na⟩
  · exact h

/-! ### the call -/
/-- None, or the exception, one of those named -/
@[simp] def tCaughtD (ns : List Str) (te : TED) : TED := fun env c _ Q => te env c (fun d c1 => match d with
  | .exc n as => n ∈ ns ∧ Q (.exc n as) c1
  | _ => False) fun _ c1 => Q .non c1
def lamT (Z : Wd) (te : TED) (E : XK) : TE := fun σ H Q => ∃ H0 G0 : Hp, liftE ⟨Z, H0, G0, fun cls d _ H => E cls d H⟩ te σ H Q
theorem caught_use {F : Fd} {K : PySem.W.Frag} {CS : Addr} {ns : List Str} {te : TED} {σ : L2.St} {H : Hp} {Q : VK} (nt : NoTbl F) (hT : F.Z.tabs ≠ []) (hx : ∀ n ∈ ns, ∀ C, F.Z.mg n = some (.ref C) → PySem.W.exmOne K (.ref C) (.ref CS) = some true)
    (h : liftE F (tCaughtD ns te) σ H Q) : LamX.tLam F.Z.tabs (TTc K CS) (lamT F.Z te) σ H Q := by
  obtain ⟨Hf, env, c, Wd, Qd, S, x, ht, k⟩ := h
  refine ⟨S.tab, fun H1 e1 t1 => ?_⟩
  have S1 := S.extN nt.h nt.g e1 t1
  have kk : Keep F.Z H H1 := fun b o eb n => by
    by_cases z : ∃ ps, o = .tbl ps
    · exact .inl ⟨hT, z⟩
    · exact .inr ⟨o, e1 b o eb fun ps q => z ⟨ps, q⟩, id⟩
  refine ⟨mask H1 σ env, Hf, Hf, env, c, _, _, S1.enter, ?_, ht, fun v H2 Hf2 c2 d B s2 k2 r q => ?_⟩
  · intro cls dx H2 Hf2 c2 d B i w
    obtain ⟨n, C, as, vs, rfl, hn, rfl, hr, hd⟩ := i
    obtain ⟨hm, q⟩ := w
    refine ⟨true, hx n hm C hn, fun _ a na => ?_, fun z => by cases z⟩
    have S2 := S1.join (vs := []) B (fun _ _ => rfl) fun _ _ => rfl
    have g : Grow Hf2 H2 (upd Hf2 a (ExD (.ref C) dx a)) (upd H2 a (ExD (.ref C) dx a)) := Grow.one B.sub na fun _ z => by cases z
    have sm : Same Hf2 (upd Hf2 a (ExD (.ref C) dx a)) := g.hf
    have kE : Keep F.Z H H2 := kk.trans fun b o eb n => by
      by_cases z : ∃ ps, o = .tbl ps
      · exact .inl ⟨hT, z⟩
      · have nt' : ∀ ps, o ≠ .tbl ps := fun ps q => z ⟨ps, q⟩
        by_cases own : ∃ (i : Nat) (d : D), env[i]? = some (Slot.own d) ∧ σ[i]? = some (some (.ref b))
        · obtain ⟨i, d, g1, g2⟩ := own
          obtain ⟨a1, f1, _, _, _, f5⟩ := S1.own i d g1
          rw [g2] at f1
          cases f1
          obtain ⟨a2, p1, _, _, _, p5⟩ := S2.own i d g1
          rw [g2] at p1
          cases p1
          obtain ⟨o2, ho2⟩ := p5.some
          exact .inr ⟨o2, ho2, fun ⟨ps, t⟩ => absurd (.inl ⟨ps, t⟩) (OwnRp.ntab ho2 p5)⟩
        · have m : mask H1 σ env b = H1 b := mask_out fun i d g1 g2 => own ⟨i, d, g1, g2⟩
          exact .inr ⟨o, B.keep b o (by show mask H1 σ env b = some o; rw [m]; exact eb) n, id⟩
    refine k (.ref a) _ _ c2 (.exc n as) (S2.grow g) (B.g0.trans g.hf) (kE.trans (Keep.of g.h)) (rp_exc.mpr ⟨a, C, dx, vs, rfl, hn, upd_same, RpL.mono sm _ _ hr, ?_⟩) q
    rcases hd with hd | ⟨x, f, w, e1, e2, e3⟩
    · exact .inl hd
    · exact .inr ⟨x, f, w, e1, e2, sm _ _ e3⟩
  · exact ⟨.non, rfl, k .non H2 Hf2 c2 .non (S1.join (vs := []) B (fun _ _ => rfl) fun _ _ => rfl) s2 (kk.trans k2) (rp_non.mpr rfl) q⟩
end DL
set_option Elab.async false
set_option linter.all false
set_option maxRecDepth 100000
set_option maxHeartbeats 1000000
/-! DL21: the call of _law_caught. -/
namespace DL
open PySem PySem.Spec PyProof.Rows L2
theorem de_caught {X : Cx} {F : Fd} {x a : Str} {st : Stmt} {Ng : List Str} {CS c P : Addr} {k : Nat} {params : Arguments} {body : Expr} {scope : Scope} {p lpos pos : Pos} {ns : List Str} {te : TED} (Dc : Df X.K X.mg x st [a]) (Sg : FnScope Ng [a] (defScope st)) (hNg : Ng[0]? = some a) (hva : Vis (defScope st) a)
    (hG : ∀ (g : Addr) (cdv : Value), LamX.GivesTo X Ng x (defScope st) g cdv (defBody st) a (X.env.qual ++ "<lambda>") (TTc X.K CS)) (TB : LamX.TabB X.base X.mg c P) (hcode : X.env.code = .ref c) (hmT : (P, X.env.qual ++ "<lambda>") ∈ F.Z.tabs) (hu : ∀ p ∈ F.Z.tabs, p.1 = P → p.2 = X.env.qual ++ "<lambda>")
    (nt : NoTbl F) (hx : ∀ n ∈ ns, ∀ C, F.Z.mg n = some (.ref C) → PySem.W.exmOne X.K (.ref C) (.ref CS) = some true) (hr : Room (k + 2) X.A) (L : LamX.LamS X.env.scope scope)
    (hbody : ∀ (A : Around) (outer : List Env) (s : Shared) (H : Hp) (E : XK) (f c' : Addr), Room k (A.deeper (LamX.lamEnv X scope s.heap.objs.size f c')) → ∀ H0 G0 : Hp, DE (LamX.lamCx X A outer s H E scope f c') ⟨F.Z, H0, G0, fun cls d _ H => E cls d H⟩ body te)
    (hg : Gl X x := by rfl) (hdef : defaultsOf params X.env = ([], []) := by rfl) (hbind : ∀ (q : Str) (cl : List (Str × Addr)) (pm cv ctv : Value), bindArgs (PySem.W.kla_fn "<lambda>" q params body scope cl pm cv ctv) ⟨[], []⟩ = pure [] := by intro _ _ _ _ _; rfl)
    (hdb : (x == ("__debug__" : Str)) = false := by decide) (hd : (a == ("__debug__" : Str)) = false := by decide) (hcd : (a == ("__classdict__" : Str)) = false := by decide) : DE X F (.Call (.Name x p) [.Lambda params body scope lpos] [] pos) (tCaughtD ns te) := by
  obtain ⟨g, fd, Fn, hm, hb⟩ := Dc.ex
  obtain ⟨oc, od, kV, doc, pm, an, cdv, ct, osl, efd, lk, hcg⟩ := Fn.ex
  subst efd
  have hT : F.Z.tabs ≠ [] := fun z => by rw [z] at hmT; cases hmT
  exact PE.imp (LamX.pe_lamcall (T := F.Z.tabs) (TT := TTc X.K CS) (t := lamT F.Z te) hg hm Fn.kp lk hcg hb Sg hNg hva (hG g cdv) TB hcode hmT hu hr L hdef hbind (fun A outer s H E f c' hr2 => ⟨fun pins s2 σ H2 Q I ⟨H0, G0, q⟩ => (hbody A outer s H E f c' hr2 H0 G0).run pins s2 σ H2 Q I q⟩) hdb hd hcd)
    fun σ H Q h => caught_use nt hT hx h
end DL
set_option Elab.async false
set_option linter.all false
set_option maxRecDepth 100000
set_option maxHeartbeats 1000000
/-! DL22: isinstance(e, an own class of exceptions). -/
namespace DL
open PySem PySem.Spec PyProof.Rows L2
/-- r tells of an exception of a class whether it is one of the class at CV -/
def rIsX (Z : Wz) (K : PySem.W.Frag) (CV : Value) (r : Str → Option Bool) : List V → Hp → VK → Prop := fun xs H Q => ∃ (Hf : Hp) (d : D) (x : V), xs = [x, .ref (match CV with | .ref C => C | _ => 0)] ∧ Same Hf H ∧ VRp Z Hf H d x ∧
  match d with
  | .non => Q (.bl false) H
  | .exc n [] => ∃ b, r n = some b ∧ Q (.bl b) H
  | _ => False
theorem call_isX {X : Cx} {Z : Wz} {C : Addr} {r : Str → Option Bool} (hr : ∀ n b, r n = some b → ∀ D0, Z.mg n = some (.ref D0) → ExcC X.K D0 ∧ PySem.W.kitOne X.K (.ref D0) (.ref C) = some b) (hN : PySem.W.kitOne X.K (.type "NoneType") (.ref C) = some false) :
    CallR X (.builtin "isinstance") (rIsX Z X.K (.ref C) r) := by
  intro pins s σ H xs us Q I rr h
  obtain ⟨Hf, d, x, rfl, sub, hx, q⟩ := h
  split at q
  · obtain rfl : x = .non := by
      rcases hx with hx | ⟨a, _, hx⟩
      · exact rp_non.mp hx
      · exact hx.elim
    exact call_isi pins s σ H _ us Q I rr ⟨.non, .ref C, .type "NoneType", .ref C, false, rfl, .own C, .base .non, hN, q⟩
  · rename_i n
    obtain ⟨b, hb, q⟩ := q
    have hx' : Rp Z Hf (.exc n []) x := by
      rcases hx with hx | ⟨a, _, hx⟩
      · exact hx
      · exact hx.elim
    obtain ⟨a, D0, dx, vs, rfl, h1, h2, h3, h4⟩ := rp_exc.mp hx'
    have e0 := rpL_nil.mp h3
    subst e0
    have e1 : dx = none := by
      rcases h4 with h4 | ⟨_, _, _, _, e, _⟩
      · exact h4.1
      · cases e
    subst e1
    obtain ⟨EC, kt⟩ := hr n b hb D0 h1
    obtain ⟨⟨oe, vs, hget, hz, hv⟩, _⟩ := (show ObjOk X.prog X.w H s.heap a (ExD (.ref D0) none a) from I.hok a _ (sub _ _ h2))
    obtain ⟨u1, u2, rfl, r1, r2⟩ := vals2 rr
    cases (show u1 = Value.ref a from r1)
    cases (show u2 = Value.ref C from r2)
    have J : PySem.W.InstAt s.heap a oe D0 none := by
      obtain ⟨oc, od, oda, osl⟩ := oe
      obtain ⟨g1, g2⟩ := hz
      dsimp only at g1 g2 hv
      subst g1 g2 hv
      exact ⟨hget, rfl, rfl, trivial⟩
    exact PySem.W.kia_one (PySem.W.handS_kitx_exc EC.hg EC.hk EC.hs EC.hd EC.ha EC.hn EC.ht EC.hm) I.kIn J kt (fun z => nomatch z) fun tk => ⟨.bl b, H, I.kept (t' := tk) fun _ _ z => z, rfl, q⟩
  · exact q.elim
/-- the facts of one class C that is asked for -/
structure IsC (K : PySem.W.Frag) (mg : Str → Option Value) (y : Str) (r : Str → Option Bool) : Prop where
  ex : ∃ C, mg y = some (.ref C) ∧ PySem.W.kitOne K (.type "NoneType") (.ref C) = some false ∧ ∀ n b, r n = some b → ∀ D0, mg n = some (.ref D0) → ExcC K D0 ∧ PySem.W.kitOne K (.ref D0) (.ref C) = some b
@[simp] def tIsX (r : Str → Option Bool) (t : TED) : TED := fun env c W Q => t env c W fun d c1 => match d with
  | .non => Q (.bl false) c1
  | .exc n [] => ∃ b, r n = some b ∧ Q (.bl b) c1
  | _ => False
theorem de_isX {X : Cx} {F : Fd} {a : Expr} {pos p q : Pos} {ta : TED} {y : Str} {r : Str → Option Bool} {K : PySem.W.Frag} {mg : Str → Option Value} (hC : IsC K mg y r) (ha : DB X F a ta) (hm : X.mg "isinstance" = none) (hK : X.K = K := by rfl) (hM : X.mg = mg := by rfl) (hM2 : F.Z.mg = X.mg := by rfl) (hg : Gl X "isinstance" := by rfl) (hgy : Gl X y := by rfl)
    (hdy : (y == ("__debug__" : Str)) = false := by decide)
    (he : starEach (a :: [.Name y q]) X.env = (false, eval a X.env) :: starEach [.Name y q] X.env := by rfl) (he2 : starEach [.Name y q] X.env = (false, eval (.Name y q) X.env) :: starEach [] X.env := by rfl) (hpl : (backTo pos (starEach [.Name y q] X.env)).any (·.1) = false := by rfl) :
    DE X F (.Call (.Name "isinstance" p) [a, .Name y q] [] pos) (tIsX r ta) := by
  subst hK hM
  obtain ⟨C, gC, hN, hr⟩ := hC.ex
  rw [← hM2] at hr
  refine PE.imp (pe_callB (call_isX (Z := F.Z.toWz) (C := C) (r := r) hr hN) hg hm boot_isi (pa_cons ha (pa_cons (pe_glob (v := .ref C) hgy gC rfl hdy) pa_nil he2) he) (by decide) (by decide) he hpl) fun σ H Q ⟨Hf, env, c, Wd, Qd, S, xx, ht, k⟩ => ?_
  refine ⟨Hf, env, c, Wd, _, S, xx, ht, fun v H1 Hf1 c1 d S1 s1 k1 r1 q => ⟨Hf1, d, v, rfl, S1.sub, r1.at S1, ?_⟩⟩
  split at q
  · exact k _ H1 Hf1 c1 (.bl false) S1 s1 k1 (rp_bl.mpr rfl) q
  · obtain ⟨b, hb, q⟩ := q
    exact ⟨b, hb, k _ H1 Hf1 c1 (.bl b) S1 s1 k1 (rp_bl.mpr rfl) q⟩
  · exact q.elim
end DL
set_option Elab.async false
set_option linter.all false
set_option maxRecDepth 100000
set_option maxHeartbeats 1000000
/-! DL23: calls by keywords alone. -/
namespace DL
open PySem PySem.Spec PyProof.Rows L2
/-- the values in the parameters' order; only where none is given by place -/
def gK {α : Type} (ix : List Nat) (us ws : List α) : List α := if us.isEmpty then ix.filterMap fun i => ws[i]? else []
structure HasK (P : Program) (w : World) (K : PySem.W.Frag) (mg : Str → Option Value) (base : Heap) (k : Nat) (x : Str) (ps ks : List Str) (ix : List Nat) (sp : Sp) : Prop where
  ex : ∃ (f : Addr) (fd : FuncData), FnOk P w K mg base (L2.CX P w) k f fd ps sp ∧ mg x = some (.ref f) ∧ PySem.W.keepIn K (.ref f) = true ∧ KBinds K fd ps ks (gK ix) (gK ix)
theorem gK_rel {ix : List Nat} {vs zs : List V} {us ws : List Value} (r : Vals vs us) (rz : Vals zs ws) : Vals (gK ix vs zs) (gK ix us ws) := by
  unfold gK
  cases r with
  | nil =>
    show Vals (ix.filterMap fun i => zs[i]?) (ix.filterMap fun i => ws[i]?)
    induction ix with
    | nil => exact .nil
    | cons i ix ih =>
      cases e : zs[i]? with
      | none =>
        have e2 : ws[i]? = none := by
          rw [List.getElem?_eq_none_iff] at e ⊢
          rw [← rz.length]
          exact e
        rw [List.filterMap_cons_none e, List.filterMap_cons_none e2]
        exact ih
      | some v =>
        obtain ⟨u, hu, ru⟩ := rz.get e
        rw [List.filterMap_cons_some e, List.filterMap_cons_some hu]
        exact .cons ru ih
  | cons _ _ => exact .nil
theorem hasK_of {P : Program} {w : World} {K : PySem.W.Frag} {mg : Str → Option Value} {base : Heap} {k : Nat} {x : Str} {st : Stmt} {ps ks : List Str} {ix : List Nat} {sp : Sp} (D0 : Df K mg x st ps) (h : ∀ (f : Addr) (fd : FuncData), Fun K x x st f fd → FnOk P w K mg base (L2.CX P w) k f fd ps sp)
    (kb : ∀ (kV doc pm : Value) (an : Option Addr) (cdv ct : Value) (ws : List Value), (ix.filterMap fun i => ws[i]?).length = ps.length → bindArgs (PySem.W.fnOf x x (defArgs st) (defBody st) (defScope st) .none kV doc pm an cdv ct) ⟨[], ks.zip ws⟩ = pure (ps.zip (ix.filterMap fun i => ws[i]?))) (hp : ps ≠ []) :
    HasK P w K mg base k x ps ks ix sp := by
  obtain ⟨f, fd, F, m, b⟩ := D0.ex
  refine ⟨f, fd, h f fd F, m, F.kp, fun s us ws _ hl => ?_, gK_rel⟩
  obtain ⟨oc, od, kV, doc, pm, an, cdv, ct, osl, rfl, lk, hcd⟩ := F.ex
  cases us with
  | nil => exact .of_eq (kb kV doc pm an cdv ct ws hl)
  | cons u r =>
    exfalso
    have z : ps.length = 0 := hl.symm
    exact hp (List.length_eq_zero_iff.mp z)
/-- the keywords' values -/
abbrev DK (X : Cx) (F : Fd) (kws : List Keyword) (t : TAD) : Prop := PK X kws (liftA F t)
theorem PK.imp {X : Cx} {e : List Keyword} {t t' : TA} (h : PK X e t) (i : ∀ σ H Q, t' σ H Q → t σ H Q) : PK X e t' := ⟨fun pos pins s σ H Q I q => h.run pos pins s σ H Q I (i σ H Q q)⟩
section
variable {X : Cx} {F : Fd} {e : Expr} {kws : List Keyword} {t : TED} {u : TAD} {nm : Option Str} {kpos : Pos}
theorem dk_nil : DK X F [] tNilD := PK.imp pk_nil fun σ H Q ⟨Hf, env, c, Wd, Qd, S, _, ht, k⟩ => k [] H Hf c [] S (Same.refl _) Keep.refl RpL.nil ht
theorem dk_cons (ha : DE X F e t) (hr : DK X F kws u) : DK X F (⟨nm, e, kpos⟩ :: kws) (tConsD t u) :=
  PK.imp (pk_cons ha hr) fun σ H Q ⟨Hf, env, c, Wd, Qd, S, x, ht, k⟩ => ⟨Hf, env, c, Wd, _, S, x, ht, fun v H1 Hf1 c1 d S1 s1 k1 r1 q1 =>
    ⟨Hf1, env, c1, Wd, _, S1, x, q1, fun vs H2 Hf2 c2 ds S2 s2 k2 r2 q2 => k (v :: vs) H2 Hf2 c2 (d :: ds) S2 (s1.trans s2) (k1.trans k2) (RpL.cons (Rp.mono s2 _ _ r1) r2) q2⟩⟩
end
@[simp] def pickD (ix : List Nat) (ds : List D) : List D := ix.filterMap fun i => ds[i]?
theorem rpL_pick {Z : Wz} {H : Hp} {ds : List D} {vs : List V} (r : RpL Z H ds vs) : ∀ ix : List Nat, RpL Z H (pickD ix ds) (ix.filterMap fun i => vs[i]?)
  | [] => RpL.nil
  | i :: ix => by
    unfold pickD
    cases e : ds[i]? with
    | none =>
      have e2 : vs[i]? = none := by
        rw [List.getElem?_eq_none_iff] at e ⊢
        rw [← r.length]
        exact e
      rw [List.filterMap_cons_none e, List.filterMap_cons_none e2]
      exact rpL_pick r ix
    | some d =>
      obtain ⟨v, hv, rv⟩ := r.get e
      rw [List.filterMap_cons_some e, List.filterMap_cons_some hv]
      exact RpL.cons rv (rpL_pick r ix)
/-- f(k = e, ..) of a def without the law's state -/
@[simp] def tCallPK (f : PF) (ix : List Nat) (t : TAD) : TED := fun env c W Q => t env c W fun ds c1 => f (pickD ix ds) (fun d => W d c1) fun d => Q d c1
theorem de_PK {X : Cx} {F : Fd} {k : Nat} {ps ks : List Str} {ix : List Nat} {x : Str} {p pos : Pos} {kws : List Keyword} {t : TAD} {pf : PF} (h : HasK X.prog X.w X.K X.mg X.base k x ps ks ix (spP X.K X.mg pf)) (hr : Room k X.A) (tk : Takes X F.W) (ha : DK X F kws t) (hg : Gl X x := by rfl) (hK : F.Z.K = X.K := by rfl) (hM : F.Z.mg = X.mg := by rfl)
    (hall : (backToKw pos (keywordEach kws X.env)).all (·.1.isSome) = true := by rfl) (hks : (backToKw pos (keywordEach kws X.env)).filterMap (·.1) = ks := by rfl) (hdb : (x == ("__debug__" : Str)) = false := by decide)
    (hpl : ((backTo pos (starEach [] X.env)).any (·.1) || (backToKw pos (keywordEach kws X.env)).any (·.1.isNone)) = false := by rfl) : DE X F (.Call (.Name x p) [] kws pos) (tCallPK pf ix t) := by
  obtain ⟨f, fd, Fk, hm, hk, hb⟩ := h.ex
  have raw : PE X (.Call (.Name x p) [] kws pos) (fun σ H Q => liftA F t σ H fun zs H2 => spP X.K X.mg pf (gK ix [] zs) H2 Q (WE F.W σ)) := by
    constructor
    intro pins s σ H Q I q0
    apply wpAny_Call_Name_kw
    refine ld_glob I hg hm ?_ hdb
    refine PySem.W.callWith_KW0 (h₀ := X.base) I.ok.mod.kin hk hall ?_ hpl
    refine thn (ha.run pos pins s σ H _ I q0) ?_
    rintro ws s2 ⟨zs, H2, I2, rz, q2⟩
    refine ⟨I2.kIn, ?_⟩
    rw [hks]
    have rel := hb.rel (vs := []) (us := []) .nil rz
    have long : (gK ix [] ws).length = ps.length := by
      rw [← rel.length]
      exact Fk.len _ _ _ _ q2
    have go := Fk.run X.A X.stack s2 H2 ⟨[], ks.zip ws⟩ (gK ix [] ws) (gK ix [] zs) Q (WE F.W σ) hr I2.env0 (hb.to s2 [] ws I2.kIn long) rel q2
    apply wpAny_call
    refine codeAny_mono go ?_
    rintro (e | fl) s' hq
    · exact passAt tk σ pins H2 s2 e s' I2 hq
    · cases fl with
      | ret u => exact I2.after hq
      | next => exact False.elim hq
      | brk => exact False.elim hq
      | cont => exact False.elim hq
  refine PE.imp raw fun σ H Q ⟨Hf, env, c, Wd, Qd, S, xl, ht, k⟩ => ?_
  refine ⟨Hf, env, c, Wd, _, S, xl, ht, fun vs H1 Hf1 c1 ds S1 s1 k1 r1 q1 => ?_⟩
  refine ⟨F.Z.toWz, pickD ix ds, Hf1, _, _, hK, hM, S1.sub, rpL_pick r1 ix, q1, fun v H' G' d g r q => ?_, fun cls dx H' G' d g i q => ?_⟩
  · exact k v H' G' c1 d (S1.grow g) (s1.trans g.hf) (k1.trans (Keep.of g.h)) r q
  · exact xl cls dx H' G' c1 d (S1.grow g) i q
end DL
set_option Elab.async false
set_option linter.all false
set_option maxRecDepth 100000
set_option maxHeartbeats 1000000
/-! DL24: facts for simp about plain trees. -/
namespace DL
open PySem PySem.Spec PyProof.Rows L2
/-- a plain tree of at most n levels with laid texts -/
def deepD (n : Nat) (d : D) : Bool := plain d && (toPy d).canLay0 && decide ((toPy d).depth ≤ n)
theorem shapedD_deep (d : D) : shapedD d = deepD 64 d := by
  unfold shapedD deepD SeqAt.shaped
  rw [Bool.and_assoc]
@[simp] theorem deep_non (n : Nat) : deepD n .non = true := by simp [deepD, plain, toPy, PyData.canLay0, PyData.depth]
@[simp] theorem deep_bl (n : Nat) (b : Bool) : deepD n (.bl b) = true := by simp [deepD, plain, toPy, PyData.canLay0, PyData.depth]
@[simp] theorem deep_int (n : Nat) (i : Int) : deepD n (.int i) = true := by simp [deepD, plain, toPy, PyData.canLay0, PyData.depth]
@[simp] theorem deep_str (n : Nat) (x : Str) : deepD n (.str x) = PyData.strOk x := by simp [deepD, plain, toPy, PyData.canLay0, PyData.depth]
theorem deepL (n : Nat) : ∀ ds : List D, (plainL ds && PyData.canLayAll0 (toPyL ds) && decide (PyData.depthAll (toPyL ds) ≤ n)) = ds.all (deepD n)
  | [] => by simp [plainL, toPyL, PyData.canLayAll0, PyData.depthAll]
  | d :: r => by
    rw [List.all_cons, ← deepL n r]
    simp only [plainL, toPyL, PyData.canLayAll0, PyData.depthAll, deepD, Nat.max_le]
    cases plain d <;> cases plainL r <;> cases (toPy d).canLay0 <;> cases PyData.canLayAll0 (toPyL r) <;> simp
@[simp] theorem deep_lst (n : Nat) (ds : List D) : deepD (n + 1) (.lst ds) = ds.all (deepD n) := by
  rw [← deepL n ds]
  simp [deepD, plain, toPy, PyData.canLay0, PyData.depth]
@[simp] theorem deep_tup (n : Nat) (ds : List D) : deepD (n + 1) (.tup ds) = ds.all (deepD n) := by
  rw [← deepL n ds]
  simp [deepD, plain, toPy, PyData.canLay0, PyData.depth]
@[simp] theorem shaped_non : shapedD .non = true := by rw [shapedD_deep, deep_non]
@[simp] theorem shaped_bl (b : Bool) : shapedD (.bl b) = true := by rw [shapedD_deep, deep_bl]
@[simp] theorem shaped_int (i : Int) : shapedD (.int i) = true := by rw [shapedD_deep, deep_int]
@[simp] theorem shaped_str (x : Str) : shapedD (.str x) = PyData.strOk x := by rw [shapedD_deep, deep_str]
@[simp] theorem shaped_lst (ds : List D) : shapedD (.lst ds) = ds.all (deepD 63) := by rw [shapedD_deep, deep_lst]
@[simp] theorem shaped_tup (ds : List D) : shapedD (.tup ds) = ds.all (deepD 63) := by rw [shapedD_deep, deep_tup]
theorem deep_le {n m : Nat} {d : D} (h : deepD n d = true) (hl : n ≤ m) : deepD m d = true := by
  unfold deepD at h ⊢
  rw [Bool.and_eq_true] at h ⊢
  exact ⟨h.1, decide_eq_true (Nat.le_trans (of_decide_eq_true h.2) hl)⟩
/-! ### == -/
@[simp] theorem eqv_ii (a b : Int) : eqvD (.int a) (.int b) = (a == b) := by simp [eqvD, toPy, PyData.eqv]
@[simp] theorem eqv_bb (a b : Bool) : eqvD (.bl a) (.bl b) = (a == b) := by simp [eqvD, toPy, PyData.eqv]
@[simp] theorem eqv_ib (a : Int) (b : Bool) : eqvD (.int a) (.bl b) = (a == (if b then 1 else 0)) := by simp [eqvD, toPy, PyData.eqv]
@[simp] theorem eqv_bi (a : Bool) (b : Int) : eqvD (.bl a) (.int b) = ((if a then 1 else 0) == b) := by simp [eqvD, toPy, PyData.eqv]
@[simp] theorem eqv_ss (a b : Str) : eqvD (.str a) (.str b) = (a == b) := by simp [eqvD, toPy, PyData.eqv]
@[simp] theorem eqv_nn : eqvD .non .non = true := by simp [eqvD, toPy, PyData.eqv]
@[simp] theorem eqv_is (a : Int) (b : Str) : eqvD (.int a) (.str b) = false := by simp [eqvD, toPy, PyData.eqv]
@[simp] theorem eqv_si (a : Str) (b : Int) : eqvD (.str a) (.int b) = false := by simp [eqvD, toPy, PyData.eqv]
@[simp] theorem eqv_in (a : Int) : eqvD (.int a) .non = false := by simp [eqvD, toPy, PyData.eqv]
@[simp] theorem eqv_ni (a : Int) : eqvD .non (.int a) = false := by simp [eqvD, toPy, PyData.eqv]
@[simp] theorem eqv_it (a : Int) (ds : List D) : eqvD (.int a) (.tup ds) = false := by simp [eqvD, toPy, PyData.eqv]
@[simp] theorem eqv_il (a : Int) (ds : List D) : eqvD (.int a) (.lst ds) = false := by simp [eqvD, toPy, PyData.eqv]
/-- two lists of trees, item by item -/
def eqvL : List D → List D → Bool
  | [], [] => true
  | a :: r, b :: s => eqvD a b && eqvL r s
  | _, _ => false
theorem eqvL_py : ∀ ds es : List D, PyData.eqvAll (toPyL ds) (toPyL es) = eqvL ds es
  | [], [] => by simp [toPyL, PyData.eqvAll, eqvL]
  | [], _ :: _ => by simp [toPyL, PyData.eqvAll, eqvL]
  | _ :: _, [] => by simp [toPyL, PyData.eqvAll, eqvL]
  | a :: r, b :: s => by simp [toPyL, PyData.eqvAll, eqvL, eqvL_py r s, eqvD]
@[simp] theorem eqvL_nn : eqvL [] [] = true := rfl
@[simp] theorem eqvL_cc (a b : D) (r s : List D) : eqvL (a :: r) (b :: s) = (eqvD a b && eqvL r s) := rfl
@[simp] theorem eqvL_cn (a : D) (r : List D) : eqvL (a :: r) [] = false := rfl
@[simp] theorem eqvL_nc (a : D) (r : List D) : eqvL [] (a :: r) = false := rfl
@[simp] theorem eqv_ll (ds es : List D) : eqvD (.lst ds) (.lst es) = eqvL ds es := by simp [eqvD, toPy, PyData.eqv, eqvL_py]
@[simp] theorem eqv_tt (ds es : List D) : eqvD (.tup ds) (.tup es) = eqvL ds es := by simp [eqvD, toPy, PyData.eqv, eqvL_py]
@[simp] theorem eqv_tl (ds es : List D) : eqvD (.tup ds) (.lst es) = false := by simp [eqvD, toPy, PyData.eqv]
@[simp] theorem eqv_lt (ds es : List D) : eqvD (.lst ds) (.tup es) = false := by simp [eqvD, toPy, PyData.eqv]
theorem eqvL_nil (ds : List D) : eqvL ds [] = ds.isEmpty := by cases ds <;> rfl
/-! ### types -/
/-- isinstance tells its type -/
def tyd (d : D) : Bool := (tyN d).isSome
theorem tyN_some (d : D) : (tyN d).isSome = tyd d := rfl
@[simp] theorem tyd_non : tyd .non = true := rfl
@[simp] theorem tyd_bl (b : Bool) : tyd (.bl b) = true := rfl
@[simp] theorem tyd_int (i : Int) : tyd (.int i) = true := rfl
@[simp] theorem tyd_str (x : Str) : tyd (.str x) = true := rfl
@[simp] theorem tyd_tup (ds : List D) : tyd (.tup ds) = true := rfl
@[simp] theorem tyd_lst (ds : List D) : tyd (.lst ds) = true := rfl
@[simp] theorem tyd_dic (t : Bool) (ks vs : List D) : tyd (.dic t ks vs) = true := rfl
@[simp] theorem at0 {α : Type} (a : α) (r : List α) : atI (a :: r) 0 = some a := atI_nat (j := 0) rfl
@[simp] theorem at1 {α : Type} (a b : α) (r : List α) : atI (a :: b :: r) 1 = some b := atI_nat (j := 1) rfl
@[simp] theorem at2 {α : Type} (a b c : α) (r : List α) : atI (a :: b :: c :: r) 2 = some c := atI_nat (j := 2) rfl
@[simp] theorem isTy_tt (ds : List D) : isTy .tup (.tup ds) = true := rfl
end DL
set_option Elab.async false
set_option linter.all false
set_option maxRecDepth 100000
set_option maxHeartbeats 1000000
/-! DL25: an end of our own: the law is run where no guard is around. -/
namespace DL
open PySem PySem.Spec PyProof.Rows L2
/-- what stands when the law is called with the script at a; cs: code objects and their tables -/
structure Floor (K : PySem.W.Frag) (mg mb : Str → Option Value) (cs : List (Addr × Addr)) (s : Shared) (a : Addr) (vs : List Value) (ns : List Int) : Prop where
  kin : K.In s.heap
  mns : s.heap.Ns mainGlobals mg
  bns : s.heap.Ns builtinsNs mb
  blt : ∀ x : Str, x ≠ "__name__" → mb x = bootBuiltins x
  lim : s.heap.NoLimit
  gens : s.gens = #[]
  tab : ∀ p ∈ cs, s.heap.get? p.2 = some { cls := .none, data := .fields #[] }
  notK : ∀ p ∈ cs, K.lookup p.2 = none
  code : ∀ p ∈ cs, PySem.W.CodeHd s.heap p.1 p.2
  bmod : ∃ (bm : Addr) (ob : Obj), mg "__builtins__" = some (.ref bm) ∧ bm ≠ builtinsNs ∧ s.heap.get? bm = some ob ∧ ob.cls = .type "module" ∧ ob.dict = some builtinsNs ∧ ob.data = .plain
  scr : s.heap.get? a = some { cls := .type "list", data := .seq vs.toArray }
  nums : IntsAre vs ns
  short : ns.length ≤ sizeLine
def scrO (vs : List Value) : Obj := { cls := .type "list", data := .seq vs.toArray }
/-- the abstract heap at the start: the tables, and the script where it is none of the module's own -/
def startH (K : PySem.W.Frag) (cs : List (Addr × Addr)) (a : Addr) (vs : List Value) (ns : List Int) : Hp := fun b =>
  if b ∈ cs.map (·.2) then some (.tbl #[]) else if b = a ∧ K.lookup a = none then some (.frz (scrO vs) (.lst (ns.map V.int))) else none
section
variable {K : PySem.W.Frag} {mg mb : Str → Option Value} {cs : List (Addr × Addr)} {s : Shared} {a : Addr} {vs : List Value} {ns : List Int}
theorem Floor.isTab (F : Floor K mg mb cs s a vs ns) {b : Addr} (h : b ∈ cs.map (·.2)) : s.heap.get? b = some { cls := .none, data := .fields #[] } := by
  obtain ⟨p, hp, rfl⟩ := List.mem_map.mp h
  exact F.tab p hp
theorem Floor.scrNot (F : Floor K mg mb cs s a vs ns) : a ∉ cs.map (·.2) := fun h => by
  have e := F.isTab h
  rw [F.scr] at e
  have z : Data.seq vs.toArray _ = Data.fields #[] := congrArg Obj.data (Option.some.inj e)
  cases z
theorem start_tab {p : Addr × Addr} (h : p ∈ cs) : startH K cs a vs ns p.2 = some (.tbl #[]) := if_pos (List.mem_map.mpr ⟨p, h, rfl⟩)
/-- each place of the start's heap -/
theorem start_cases (b : Addr) : (b ∈ cs.map (·.2) ∧ startH K cs a vs ns b = some (.tbl #[])) ∨ (b ∉ cs.map (·.2) ∧ b = a ∧ K.lookup a = none ∧ startH K cs a vs ns b = some (.frz (scrO vs) (.lst (ns.map V.int)))) ∨ startH K cs a vs ns b = none := by
  unfold startH
  by_cases h : b ∈ cs.map (·.2)
  · exact .inl ⟨h, if_pos h⟩
  · rw [if_neg h]
    by_cases h2 : b = a ∧ K.lookup a = none
    · exact .inr (.inl ⟨h, h2.1, h2.2, if_pos h2⟩)
    · exact .inr (.inr (if_neg h2))
theorem Floor.seq (F : Floor K mg mb cs s a vs ns) : SqL K (startH K cs a vs ns) a (ns.map V.int) := by
  cases q : K.lookup a with
  | some o =>
    have e := F.kin a o q
    rw [F.scr] at e
    cases e
    exact .inr ⟨_, vs.toArray, _, q, rfl, rfl, rfl, by rw [List.size_toArray, F.nums.length]; exact F.short, by simpa using vals_ints F.nums⟩
  | none => exact .inl (.inr ⟨scrO vs, (if_neg F.scrNot).trans (if_pos ⟨rfl, q⟩)⟩)
/-- an object of another make is not in sight -/
theorem Floor.unseen (F : Floor K mg mb cs s a vs ns) {b : Addr} {o : Obj} (e : s.heap.get? b = some o) (h1 : ∀ xs n, o.data ≠ .seq xs n) (h2 : o.data ≠ .fields #[]) : startH K cs a vs ns b = none := by
  rcases start_cases (K := K) (cs := cs) (a := a) (vs := vs) (ns := ns) b with ⟨m, _⟩ | ⟨_, rfl, _, _⟩ | z
  · rw [F.isTab m] at e
    cases e
    exact absurd rfl h2
  · rw [F.scr] at e
    cases e
    exact absurd rfl (h1 _ _)
  · exact z
theorem Floor.hok (F : Floor K mg mb cs s a vs ns) {P : Program} {w : World} : HOk P w (startH K cs a vs ns) s.heap := fun b u e => by
  rcases start_cases (K := K) (cs := cs) (a := a) (vs := vs) (ns := ns) b with ⟨m, z⟩ | ⟨_, eb, _, z⟩ | z
  · rw [z] at e
    cases e
    exact F.isTab m
  · rw [z] at e
    cases e
    rw [eb]
    exact ⟨F.scr, by rw [List.length_map]; exact F.short, vs, _, vals_ints F.nums, F.scr⟩
  · rw [z] at e
    cases e
abbrev startB (K : PySem.W.Frag) (cs : List (Addr × Addr)) (s : Shared) (a : Addr) (vs : List Value) (ns : List Int) : Heap := hidT s.heap (startH K cs a vs ns)
theorem Floor.baseNs (F : Floor K mg mb cs s a vs ns) {b : Addr} {m : Str → Option Value} (h : s.heap.Ns b m) : (startB K cs s a vs ns).Ns b m := by
  obtain ⟨o, es, ep, e, d, r⟩ := h
  exact ⟨o, es, ep, hidT_get e (F.unseen e (fun xs n z => by rw [d] at z; cases z) fun z => by rw [d] at z; cases z), d, r⟩
theorem Floor.baseK (F : Floor K mg mb cs s a vs ns) : K.In (startB K cs s a vs ns) := fun b o e => by
  refine hidT_get (F.kin b o e) ?_
  rcases start_cases (K := K) (cs := cs) (a := a) (vs := vs) (ns := ns) b with ⟨m, _⟩ | ⟨_, eb, k, _⟩ | z
  · obtain ⟨p, hp, rfl⟩ := List.mem_map.mp m
    rw [F.notK p hp] at e
    cases e
  · rw [eb, k] at e
    cases e
  · exact z
theorem Floor.mod (F : Floor K mg mb cs s a vs ns) : L2.Mod K mg (startB K cs s a vs ns) := by
  obtain ⟨mc, h1, h2⟩ := F.lim
  exact ⟨F.baseK, F.baseNs F.mns, ⟨mb, F.baseNs F.bns, F.blt⟩, ⟨mc, F.baseNs h1, h2⟩⟩
theorem Floor.tabB (F : Floor K mg mb cs s a vs ns) : ∀ p ∈ cs, LamX.TabB (startB K cs s a vs ns) mg p.1 p.2 := fun p hp => by
  have tp := F.tab p hp
  constructor
  · obtain ⟨o, us, file, tf, flags, tg, inF, text, tt, e1, r1, r2, r3, more⟩ := F.code p hp
    exact ⟨o, us, file, tf, flags, tg, inF, text, tt, hidT_get e1 (F.unseen e1 (fun xs n z => by rw [r2] at z; cases z) fun z => by
      rw [r2] at z
      cases z
      simp at r3), r1, r2, r3, more⟩
  · obtain ⟨bm, ob, b1, b2, b3, b4, b5, b6⟩ := F.bmod
    refine ⟨bm, ob, b1, b2, fun q => ?_, fun q => ?_, hidT_get b3 (F.unseen b3 (fun xs n z => by rw [b6] at z; cases z) fun z => by rw [b6] at z; cases z), b4, b5, b6⟩
    · obtain ⟨o, es, ep, e, d, _⟩ := F.mns
      rw [q, e] at b3
      cases b3
      rw [d] at b6
      cases b6
    · rw [q, tp] at b3
      cases b3
      cases b6
  · intro z
    obtain ⟨o, es, ep, e, d, _⟩ := F.mns
    rw [z, tp] at e
    cases e
    cases d
theorem Floor.env0 (F : Floor K mg mb cs s a vs ns) {P : Program} {w : World} : Env0 P w K mg (startB K cs s a vs ns) callerA [] s (startH K cs a vs ns) :=
  ⟨rfl, F.mod, fun b o e => of_hidT e, Nat.le_of_eq (hidT_size _ _), trivial, fun b hb => absurd hb List.not_mem_nil, F.hok, .of_eq F.gens⟩
/-- behind the run -/
theorem Floor.behind (F : Floor K mg mb cs s a vs ns) {P : Program} {w : World} {r : Result} {s' : Shared} (h : CR (L2.CX P w) [] P w (startH K cs a vs ns) s (fun v _ => v = .bl true) (fun _ _ _ => False) r s') :
    r = .ok (.ret (.bool true)) ∧ OldK s.heap s'.heap ∧ s'.os = s.os ∧ AllBare s'.gens := by
  match r, h with
  | .error e, h =>
    obtain ⟨_, _, _, _, _, _, _, _, _, _, _, _, z⟩ := h
    exact z.elim
  | .ok (.ret u), h =>
    obtain ⟨v, H', os, bare, un, hok', rv, rfl⟩ := h
    obtain rfl : u = Value.bool true := rv
    have grown : ∀ p ∈ cs, ∃ more : Array Value, s'.heap.get? p.2 = some { cls := .none, data := .fields more } := fun p hp => by
      obtain ⟨more, z⟩ := un.tbls p.2 #[] (start_tab hp)
      exact ⟨_, hok' p.2 _ z⟩
    have stays : ∀ b o, s.heap.get? b = some o → b ∉ cs.map (·.2) → s'.heap.get? b = some o := fun b o e nb => by
      rcases start_cases (K := K) (cs := cs) (a := a) (vs := vs) (ns := ns) b with ⟨m, _⟩ | ⟨_, eb, _, z⟩ | z
      · exact absurd m nb
      · have z2 := un.frzs b _ _ z
        obtain ⟨e2, _⟩ := hok' b _ z2
        rw [eb, F.scr] at e
        cases e
        rw [eb] at e2 ⊢
        exact e2
      · exact un.keep b o e z List.not_mem_nil List.not_mem_nil
    refine ⟨rfl, ⟨fun b o e => ?_, fun b o e => ?_⟩, os, bare⟩
    · by_cases nb : b ∈ cs.map (·.2)
      · obtain ⟨p, hp, rfl⟩ := List.mem_map.mp nb
        obtain ⟨more, hm⟩ := grown p hp
        rw [F.tab p hp] at e
        cases e
        exact .inr (.inl ⟨((F.code p hp).tab (F.tab p hp)).isCodeTable, rfl, #[], more, rfl, by rw [Array.empty_append]; exact hm⟩)
      · exact .inl (stays b o e nb)
    · by_cases nb : b ∈ cs.map (·.2)
      · obtain ⟨p, hp, rfl⟩ := List.mem_map.mp nb
        obtain ⟨more, hm⟩ := grown p hp
        exact ⟨_, hm⟩
      · exact ⟨o, stays b o e nb⟩
end
/-- what a law's own def gives at the head's heap h -/
def LawHere (l : PySem.W.OpenLaw) (w : World) (K : PySem.W.Frag) (n : Nat) (mg : Str → Option Value) (fa : Addr) (h : Heap) : Prop :=
  ∃ cs : List (Addr × Addr), (∀ p ∈ cs, h.get? p.2 = some { cls := .none, data := .fields #[] }) ∧ (∀ p ∈ cs, K.lookup p.2 = none) ∧ (∀ p ∈ cs, PySem.W.CodeHd h p.1 p.2) ∧
    ∀ (s : Shared) (base : Heap) (H : Hp) (a : Addr) (ns : List Int), ns.length ≤ n → (∀ p ∈ cs, LamX.TabB base mg p.1 p.2) → (∀ p ∈ cs, H p.2 = some (.tbl #[])) → (∀ b ps, H b = some (.tbl ps) → ∃ p ∈ cs, p.2 = b) → SqL K H a (ns.map V.int) → Env0 l.prog w K mg base callerA [] s H →
      codeAny (model l.prog w) callerA (.call (.ref fa) ⟨[.ref a], []⟩) (CR (L2.CX l.prog w) [] l.prog w H s (fun v _ => v = .bl true) fun _ _ _ => False) s
theorem walk_here {l : PySem.W.OpenLaw} {n : Nat} {q : Program} {loose : List Str} {XP : (Str → Option Value) → Heap → Prop} {YP : World → Heap → Prop} {d : DefRec} {K : Params → PySem.W.Frag} (hn : l.most = some n) (hn2 : n ≤ sizeLine) (hdf : d.params.defaults = [])
    (hY : ∀ (w : World) (h : Heap), YP w h → (K w.params).In h)
    (F : ∀ (w : World) (mg : Str → Option Value) (fa : Addr) (h : Heap), YP w h → (K w.params).In h → h.Ns mainGlobals mg → mg d.name = some (.ref fa) → LawHere l w (K w.params) n mg fa h) :
    PySem.W.WalkO q loose XP YP l.row.toRowW d [] (fun f vs => PySem.call f vs) := by
  refine Att.attach_callB hn hdf ?_
  intro w s₀ s₁ mg mb fa o pm cd doc a vs ns G Y _ _ _ hmg hobj hints hlen _ hg
  have KX := hY w _ Y
  obtain ⟨cs, h1, h2, h3, run⟩ := F w mg fa _ Y KX G.T.g hmg
  have fl : Floor (K w.params) mg mb cs s₁ a vs ns := ⟨KX, G.T.g, G.T.b, G.T.builtins, G.T.nolimit, hg, h1, h2, h3, G.T.bmain, hobj, hints, Nat.le_trans hlen hn2⟩
  refine codeAny_mono (run s₁ _ _ a ns hlen fl.tabB (fun p hp => start_tab hp) (fun b ps e => ?_) fl.seq fl.env0) fun r s' h => fl.behind h
  rcases start_cases (K := K w.params) (cs := cs) (a := a) (vs := vs) (ns := ns) b with ⟨m, _⟩ | ⟨_, _, _, z⟩ | z
  · obtain ⟨p, hp, e⟩ := List.mem_map.mp m
    exact ⟨p, hp, e⟩
  · rw [z] at e
    cases e
  · rw [z] at e
    cases e
/-- the run of the law's def, from its body's derivation there -/
theorem law_run {P : Program} {w : World} {K : PySem.W.Frag} {mg : Str → Option Value} {base : Heap} {x a : Str} {st : Stmt} {N : List Str} {k : Nat} {fa sa : Addr} {s : Shared} {H : Hp} {E : XK} {Q : VK} (D0 : Df K mg x st [a]) (hfa : mg x = some (.ref fa)) (S : FnScope N [a] (defScope st)) (hr : Room (k + 1) callerA) (e0 : Env0 P w K mg base callerA [] s H)
    (hbody : ∀ (cdv : Value), Room k (callerA.deeper (envOfC x (defScope st) s.heap.objs.size fa cdv)) → ∃ t, PSs (cxOf (L2.CX P w) P w K mg base N x (defScope st) fa cdv callerA [] s H E) (defBody st) t ∧ t { nx := fun _ H' => Q .non H', rt := Q } (L2.start N [.ref sa]) H) :
    codeAny (model P w) callerA (.call (.ref fa) ⟨[.ref sa], []⟩) (CR (L2.CX P w) [] P w H s Q E) s := by
  obtain ⟨f, fd, Fn, hm, hb⟩ := D0.ex
  have e : f = fa := by
    rw [hm] at hfa
    cases hfa
    rfl
  subst e
  obtain ⟨oc, od, kV, doc, pm, an, cdv, ct, osl, rfl, lk, hcd⟩ := Fn.ex
  have KX : K.In s.heap := e0.mod.kin.keeps fun b o e => (e0.bs b o e).1
  exact LamX.run_ofS (N := N) (ps := [a]) (us := [.ref sa]) (vs := [.ref sa]) lk hcd S hr e0 (by have z := hb s [.ref sa] KX rfl; simpa using z) (.cons rfl .nil) rfl fun hr' => hbody cdv hr'
theorem guards_law {env : Env} : (callerA.deeper env).guards = some [] := rfl
end DL
set_option Elab.async false
set_option linter.all false
set_option maxRecDepth 100000
set_option maxHeartbeats 1000000
/-! DL26: repr of lists and tuples, where no guard is around. -/
namespace DL
open PySem PySem.Spec PyProof.Rows L2
/-- a tree that repr shows -/
def showD (d : D) : Bool := plain d && (toPy d).showable && !(toPy d).hasDict && decide ((toPy d).depth ≤ 60) && decide ((toPy d).shown.length ≤ sizeLine)
def textD (d : D) : Str := (toPy d).shown
@[simp] def reprD : CD
  | [.lst ds], k => showD (.lst ds) = true ∧ k (.str (textD (.lst ds)))
  | [.tup ds], k => showD (.tup ds) = true ∧ k (.str (textD (.tup ds)))
  | _, _ => False
theorem repr_run {X : Cx} {pins : List (Addr × Obj)} {σ : L2.St} {H : Hp} {s : Shared} {Q : VK} {d : D} {a : Addr} (hg : X.A.guards = some []) (hu : X.A.units + 65 < cLine) (I : Inv X pins σ H s) (dp : Dp X.K H (.ref a) (toPy d)) (sh : showD d = true) (q : Q (.str (textD d)) H) :
    wpAny (model X.prog X.w) X.A (call (.builtin "repr") [.ref a]) (EP X pins σ Q) X.xe s := by
  unfold showD at sh
  simp only [Bool.and_eq_true, decide_eq_true_eq, Bool.not_eq_true'] at sh
  obtain ⟨⟨⟨⟨_, h1⟩, h2⟩, h3⟩, h4⟩ := sh
  obtain ⟨as, r⟩ := Dp.reads I _ _ (.ref a) dp rfl
  refine repr_of_reads' r h1 (fun z => by rw [h2] at z; cases z) hg (by omega) (fun _ _ e => e) (fun h' u tk k => ?_) h4
  exact ⟨.str (textD d), H, I.kept k, ⟨u, rfl⟩, q⟩
theorem call_reprD {X : Cx} {Z : Wz} (hg : X.A.guards = some []) (hu : X.A.units + 65 < cLine) (hK : Z.K = X.K := by rfl) : CallD X Z (.builtin "repr") reprD := by
  intro pins s σ H xs us Q I r h
  obtain ⟨Hf, ds, k, sub, hx, hr, kk⟩ := h
  have pl : ∀ {d : D}, showD d = true → plain d = true := fun {d} h => by
    unfold showD at h
    simp only [Bool.and_eq_true] at h
    exact h.1.1.1.1
  unfold reprD at hr
  split at hr
  · obtain ⟨x, rfl, hw⟩ := vrpL_1 hx
    have dp := vrp_dp sub (pl hr.1) hw
    rw [hK] at dp
    obtain ⟨p, vs, rfl, h1, r1⟩ := vrp_lst sub hw
    obtain ⟨u, rfl, rx⟩ := vals1 r
    cases rx
    exact repr_run hg hu I dp hr.1 (kk _ H Hf _ (Grow.refl sub) (rp_str.mpr rfl) hr.2)
  · obtain ⟨x, rfl, hw⟩ := vrpL_1 hx
    have dp := vrp_dp sub (pl hr.1) hw
    rw [hK] at dp
    obtain ⟨p, vs, rfl, h1, r1, _⟩ := vrp_tup sub hw
    obtain ⟨u, rfl, rx⟩ := vals1 r
    cases rx
    exact repr_run hg hu I dp hr.1 (kk _ H Hf _ (Grow.refl sub) (rp_str.mpr rfl) hr.2)
  · exact hr.elim
theorem boot_repr' : bootBuiltins "repr" = some (.builtin "repr") := by decide +kernel
end DL
set_option Elab.async false
set_option linter.all false
set_option maxRecDepth 100000
set_option maxHeartbeats 1000000
/-! DL27: the law's own body: its first statement makes the state. -/
namespace DL
open PySem PySem.Spec PyProof.Rows L2
abbrev fdL (K : PySem.W.Frag) (mg : Str → Option Value) (sa sl sc : Addr) (T : List (Addr × Str)) (G : Hp) : Fd := ⟨⟨⟨K, mg, sa, sl, sc⟩, true, T⟩, fun _ => none, G, noW⟩
open Classical in
/-- a heap without its tables -/
noncomputable def noTables (H : Hp) : Hp := fun b => if ∃ ps, H b = some (.tbl ps) then none else H b
theorem noTables_get {H : Hp} {b : Addr} {o : HO} (e : H b = some o) (n : ∀ ps, o ≠ .tbl ps) : noTables H b = some o := by
  unfold noTables
  rw [if_neg]
  · exact e
  · rintro ⟨ps, z⟩
    rw [e] at z
    cases z
    exact n ps rfl
theorem noTables_of {H : Hp} {b : Addr} {o : HO} (e : noTables H b = some o) : H b = some o ∧ ∀ ps, o ≠ .tbl ps := by
  unfold noTables at e
  split at e
  · cases e
  · rename_i h
    exact ⟨e, fun ps z => h ⟨ps, by rw [e, z]⟩⟩
/-- the wanted end of a law -/
abbrev lawD : EndsD := { nx := fun _ _ => False, rt := fun d _ => d = .bl true }
theorem law_PSs {X : Cx} {K : PySem.W.Frag} {mg : Str → Option Value} {k i : Nat} {y sx : Str} {ps : List Str} {p p2 p3 p4 p5 : Pos} {rest : List Stmt} {T : List (Addr × Str)} {t : TSD} {a : Addr} {ns : List Int} {H : Hp} {Q : VK} (hK : X.K = K) (hM : X.mg = mg)
    (hB : Has X.prog X.w X.K X.mg X.base k "_law_begun" ps (spBegun X.K X.mg)) (hr : Room k X.A) (hN : X.N.Nodup) (hi : X.N[i]? = some y) (hy : Loc X.env.scope y) (hfy : X.fn y = true ∨ X.env.scope.names.lookup y = some .local) (hx : PE X (.Name sx p3) (tVar 0)) (hi0 : i ≠ 0)
    (hs : swapsWith (.Call (.Name "_law_begun" p2) [.Name sx p3] [] p4) (some (.Name y p)) p5.line X.env = pure false) (hgl : Gl X "_law_begun")
    (hd : ∀ (sa sl sc : Addr) (G : Hp), (∀ b ps, G b ≠ some (.tbl ps)) → DSs X (fdL K mg sa sl sc T G) rest t) (ht : t lawD ((envAt X.N.length [.scr ns]).set i (.val .st)) 0)
    (hT : ∀ q ∈ T, H q.1 = some (.tbl #[])) (hS : SqL K H a (ns.map V.int)) (hl : ns.length ≤ 63) (hQ : ∀ H', Q (.bl true) H')
    (he : starEach (.Name sx p3 :: []) X.env = (false, eval (.Name sx p3) X.env) :: starEach [] X.env := by rfl) (hpl : (backTo p4 (starEach [] X.env)).any (·.1) = false := by rfl) :
    ∃ t', PSs X (.Assign [.Name y p] (.Call (.Name "_law_begun" p2) [.Name sx p3] [] p4) p5 :: rest) t' ∧ t' { nx := fun _ H' => Q .non H', rt := Q } (L2.start X.N [.ref a]) H := by
  subst hK hM
  obtain ⟨f, fd, Fk, hm, hk, hb⟩ := hB.ex
  have hrest : PSs X rest (fun D0 σ H => ∃ (sa sl sc : Addr) (G : Hp), (∀ b ps, G b ≠ some (.tbl ps)) ∧ liftS (fdL X.K X.mg sa sl sc T G) t D0 σ H) := ⟨fun pins s σ H D0 I ⟨sa, sl, sc, G, n, q⟩ => (hd sa sl sc G n).run pins s σ H D0 I q⟩
  refine ⟨_, pss_cons (ps_set hN hi hy (pe_callS (E := fun σ => WE noW σ) Fk hr hgl hm hk hb (fun σ => passAt takes0 σ) (pa_cons hx pa_nil he) (by decide) he hpl) hs hfy) hrest, ?_⟩
  have s0 : (L2.start X.N [V.ref a])[0]? = some (some (.ref a)) := rfl
  refine ⟨_, s0, a, ns, rfl, hS, hl, fun H' sa sl sc sm na nl st => ?_⟩
  have ng : ∀ b ps, noTables H b ≠ some (.tbl ps) := fun b ps e => (noTables_of e).2 ps rfl
  have sub : Same (noTables H) H' := fun b o e => sm b o (noTables_of e).1
  have rs : RpL (⟨X.K, X.mg, sa, sl, sc⟩ : Wz) (noTables H) [.scr ns] [.ref a] := by
    refine RpL.cons (rp_scr.mpr ⟨a, rfl, ?_⟩) RpL.nil
    rcases hS with (h | ⟨o, h⟩) | h
    · exact .inl (.inl (noTables_get h (fun _ z => by cases z)))
    · exact .inl (.inr ⟨o, noTables_get h (fun _ z => by cases z)⟩)
    · exact .inr h
  have free : ∀ b, H b = none → noTables H b = none := fun b e => by
    cases q : noTables H b with
    | none => rfl
    | some o => rw [(noTables_of q).1] at e; cases e
  have S0 : Sim (fdL X.K X.mg sa sl sc T (noTables H)).Z (fun _ => none) (noTables H) (L2.start X.N [V.ref a]) H' (noTables H) (envAt X.N.length [.scr ns]) 0 := by
    constructor
    · exact sub
    · exact Same.refl _
    · exact fun b h1 h2 => absurd h2 h1
    · intro b o h
      cases h
    · unfold envAt L2.start
      simp
    · intro j d h
      obtain ⟨v, e1, e2⟩ := rs.get (envAt_val h)
      exact ⟨v, start_at e1, e2⟩
    · exact fun j d h => (envAt_own h).elim
    · exact fun j1 j2 d e b h _ _ _ => (envAt_own h).elim
    · exact fun _ => st
    · rintro b ⟨_, z | z⟩
      · rw [z]; exact free _ na
      · rw [z]; exact free _ nl
    · exact fun q hq => LamX.TabS.nil (sm _ _ (hT q hq))
    · exact fun _ _ h => h
  have S1 := S0.set (d := .st) (v := .ref sa) (rp_st.mpr rfl) i
  refine ⟨sa, sl, sc, noTables H, ng, noTables H, _, 0, lawD, S1, ?_, ht⟩
  exact ⟨fun _ _ _ _ _ _ _ z => z.elim, fun σ1 H1 Hf1 env1 c1 d v _ _ r q => by
    subst q
    rw [rp_bl.mp r]
    exact hQ _, fun _ _ _ _ _ _ _ z => z.elim, fun _ _ _ _ _ _ _ z => z.elim, fun _ _ _ _ _ _ _ _ _ _ z => z.elim⟩
end DL
set_option Elab.async false
set_option linter.all false
set_option maxRecDepth 100000
set_option maxHeartbeats 1000000
/-! DL28: the run of a law whose def's code object is known. -/
namespace DL
open PySem PySem.Spec PyProof.Rows L2
/-- law_run with the def's own object: its code value cdv is then known in the body's context -/
theorem law_runC {P : Program} {w : World} {K : PySem.W.Frag} {mg : Str → Option Value} {base : Heap} {x a : Str} {st : Stmt} {N : List Str} {k : Nat} {fa sa : Addr} {s : Shared} {H : Hp} {E : XK} {Q : VK} {oc : Value} {od an : Option Addr} {osl : Array (Option Value)} {kV doc pm cdv ct : Value}
    (lk : K.lookup fa = some ⟨oc, od, .func (PySem.W.fnOf x x (defArgs st) (defBody st) (defScope st) .none kV doc pm an cdv ct), osl⟩) (hcd : PySem.W.codeIn K cdv x = true) (hb : Binds K (PySem.W.fnOf x x (defArgs st) (defBody st) (defScope st) .none kV doc pm an cdv ct) [a] []) (S : FnScope N [a] (defScope st)) (hr : Room (k + 1) callerA)
    (e0 : Env0 P w K mg base callerA [] s H)
    (hbody : Room k (callerA.deeper (envOfC x (defScope st) s.heap.objs.size fa cdv)) → ∃ t, PSs (cxOf (L2.CX P w) P w K mg base N x (defScope st) fa cdv callerA [] s H E) (defBody st) t ∧ t { nx := fun _ H' => Q .non H', rt := Q } (L2.start N [.ref sa]) H) :
    codeAny (model P w) callerA (.call (.ref fa) ⟨[.ref sa], []⟩) (CR (L2.CX P w) [] P w H s Q E) s := by
  have KX : K.In s.heap := e0.mod.kin.keeps fun b o e => (e0.bs b o e).1
  exact LamX.run_ofS (N := N) (ps := [a]) (us := [.ref sa]) (vs := [.ref sa]) lk hcd S hr e0 (by have z := hb s [.ref sa] KX rfl; simpa using z) (.cons rfl .nil) rfl fun hr' => hbody hr'
theorem code_at {P : Program} {w : World} {K : PySem.W.Frag} {mg : Str → Option Value} {base : Heap} {x : Str} {st : Stmt} {N : List Str} {fa : Addr} {cdv : Value} {s : Shared} {H : Hp} {E : XK} {A : Around} {outer : List Env} :
    (cxOf (L2.CX P w) P w K mg base N x (defScope st) fa cdv A outer s H E).env.code = cdv := rfl
theorem noTbl_L {K : PySem.W.Frag} {mg : Str → Option Value} {sa sl sc : Addr} {T : List (Addr × Str)} {G : Hp} (h : ∀ b ps, G b ≠ some (.tbl ps)) : NoTbl (fdL K mg sa sl sc T G) := by
  constructor
  · intro b ps z
    cases z
  · exact h
end DL
set_option Elab.async false
set_option linter.all false
set_option maxRecDepth 100000
set_option maxHeartbeats 1000000
/-! DL29: t[::-1], t a tuple. -/
namespace DL
open PySem PySem.Spec PyProof.Rows L2
theorem adjust_rev (n : Nat) : Builtin.Slice.sliceAdjust none none (-1) (n : Int) = ((n : Int) - 1, -1) := by
  unfold Builtin.Slice.sliceAdjust
  simp
theorem places_rev (n : Nat) : Builtin.Slice.slicePlaces ((n : Int) - 1) (-1) (-1) = n := by
  unfold Builtin.Slice.slicePlaces
  simp
  split <;> omega
theorem range_get {α : Type} : ∀ l : List α, (List.range l.length).filterMap (fun m => l[m]?) = l
  | [] => rfl
  | a :: r => by
    rw [List.length_cons, List.range_succ_eq_map, List.filterMap_cons_some (f := fun m => (a :: r)[m]?) (a := 0) (b := a) rfl, List.filterMap_map]
    have e : ((fun m => (a :: r)[m]?) ∘ Nat.succ) = fun m => r[m]? := by
      funext m
      simp
    rw [e, range_get r]
theorem filt_congr {α β : Type} {f g : α → Option β} : ∀ {l : List α}, (∀ x ∈ l, f x = g x) → l.filterMap f = l.filterMap g
  | [], _ => rfl
  | a :: r, h => by
    rw [List.filterMap_cons, List.filterMap_cons, h a List.mem_cons_self, filt_congr fun x hx => h x (List.mem_cons_of_mem _ hx)]
theorem pick_rev (xs : Array Value) : ((List.range xs.size).filterMap fun (m : Nat) => xs[(((xs.size : Nat) : Int) - 1 + (m : Int) * (-1)).toNat]?).toArray = xs.toList.reverse.toArray := by
  congr 1
  have z := range_get xs.toList.reverse
  rw [List.length_reverse, Array.length_toList] at z
  rw [← z]
  refine filt_congr ?_
  intro m hm
  have hm' := List.mem_range.mp hm
  rw [List.getElem?_reverse (by rw [Array.length_toList]; exact hm'), Array.length_toList, Array.getElem?_toList]
  congr 1
  omega
section
variable {prog : Program} {w : World} {A : Around} {E : Value → Shared → Prop} {s : Shared}
theorem applied_rev {sl : Addr} {t : Tok} {n : Nat} {Q : Int × Int × Nat → Shared → Prop} (hs : s.heap.IsSliceOf sl .none .none (.int (-1) t)) (h : Q ((n : Int) - 1, -1, n) s) : wpAny (model prog w) A (Builtin.Slice.sliceApplied (.ref sl) (pure (n : Int))) Q E s := by
  obtain ⟨os, hos, hcs, hds⟩ := id hs
  unfold Builtin.Slice.sliceApplied Builtin.Slice.sliceFields
  refine wpAny_bind (wpAny_bind (wpAny_field hos hds (x := .none) rfl (wpAny_bind (wpAny_field hos hds (x := .none) rfl (wpAny_bind (wpAny_field hos hds (x := .int (-1) t) rfl (wpAny_pure ?_)))))))
  refine wpAny_bind (HT.slicePart_ (.int (-1) t) ?_)
  show wpAny _ _ (if ((-1 : Int) == 0) = true then _ else _) _ _ s
  rw [if_neg (by decide)]
  refine wpAny_bind (HT.slicePart_ .none (wpAny_bind (HT.slicePart_ .none (wpAny_bind (wpAny_pure ?_)))))
  show wpAny _ _ (match Builtin.Slice.sliceAdjust none none (-1) (n : Int) with | (lo, hi) => pure (lo, (-1 : Int), Builtin.Slice.slicePlaces lo hi (-1))) _ _ s
  rw [adjust_rev]
  show wpAny _ _ (pure ((n : Int) - 1, (-1 : Int), Builtin.Slice.slicePlaces ((n : Int) - 1) (-1) (-1))) _ _ s
  rw [places_rev]
  exact wpAny_pure h
theorem getItem_rev {t sl : Addr} {items : Array Value} {tk : Tok} {Q : Value → Shared → Prop} (ht : IsTup s.heap t items) (hs : s.heap.IsSliceOf sl .none .none (.int (-1) tk))
    (h : Q (.ref s.heap.objs.size) { s with heap := s.heap.push { cls := .type "tuple", data := .seq items.toList.reverse.toArray } }) (hsz : items.size ≤ sizeLine) : wpAny (model prog w) A (getItem (.ref t) (.ref sl)) Q E s := by
  have fits : sizeOk (.seq items.toList.reverse.toArray) := by
    show items.toList.reverse.toArray.size ≤ sizeLine
    simpa using hsz
  obtain ⟨os, hos, hcs, hds⟩ := id hs
  have isS : s.TypeIs (.ref sl) "slice" := ⟨os, hos, hcs⟩
  unfold getItem
  first
    | refine wpAny_holding (wpAny_bind (wpAny_sequenceKey ht.typeIs (by decide) ?_))
    | refine wpAny_bind (wpAny_sequenceKey ht.typeIs (by decide) ?_)
    | refine wpAny_bind (wpAny_pure (wpAny_bind (wpAny_sequenceKey ht.typeIs (by decide) ?_)))
  have slot := PyProof.Rows.slot_tuple_getitem
  refine wpAny_bind (wpAny_callSpecial?_slot (name := Str.ofString "__getitem__") ht.typeIs slot ?_)
  refine wpAny_call_entry slot ht.typeIs entry_tuple_getitem ?_ (args_tuple_getitem _ _)
  show wpAny _ _ (Builtin.Tuple.tupleItemsOf (.ref t) >>= _) _ _ s
  refine wpAny_bind (tupleItemsOf_ ht ?_)
  refine wpAny_bind (wpAny_typeOf isS ?_)
  rw [if_pos (by decide)]
  refine wpAny_bind (applied_rev hs ?_)
  have no : ¬ ((((items.size : Nat) : Int) - 1 == 0 && (-1 : Int) == 1 && items.size == items.size) = true) := by
    intro q
    simp at q
  show wpAny _ _ (if (((items.size : Nat) : Int) - 1 == 0 && (-1 : Int) == 1 && items.size == items.size) = true then _ else _) _ _ s
  rw [if_neg no, pick_rev]
  first
    | exact wpAny_bind (m := Builtin.Tuple.tupleExact _) (wpAny_newObj_type (wpAny_pure ⟨_, rfl, wpAny_pure h⟩) fits)
    | exact wpAny_bind (m := Builtin.Tuple.tupleExact _) (wpAny_newObj_type (wpAny_bind (wpAny_pure (wpAny_pure ⟨_, rfl, wpAny_pure h⟩))) fits)
    | exact wpAny_bind (wpAny_bind (m := Builtin.Tuple.tupleExact _) (wpAny_newObj_type (wpAny_pure (wpAny_pure ⟨_, rfl, wpAny_pure h⟩)) fits))
    | exact wpAny_bind (wpAny_bind (m := Builtin.Tuple.tupleExact _) (wpAny_newObj_type (wpAny_pure ⟨_, rfl, wpAny_pure h⟩) fits))
end
theorem pe_revT {X : Cx} {e : Expr} {te : TE} {k : Nat} {p1 p2 p3 pos : Pos} (he : PE X e te) :
    PE X (.Subscript e (.Slice none none (some (.UnaryOp .USub (.Constant (.int 1) k p1) p2)) p3) pos) (fun σ H Q => te σ H fun x H1 => ∃ a xs, x = .ref a ∧ SqT X.K H1 a xs ∧ ∀ p, H1 p = none → Q (.ref p) (upd H1 p (.tup xs.reverse))) := by
  constructor
  intro pins s σ H Q I h
  apply Subscript_
  refine thn (he.run pins s σ H _ I h) ?_
  rintro v s1 ⟨x, H1, I1, r1, a, xs, rfl, hx, q⟩
  cases r1
  have step : PO X (some (.UnaryOp .USub (.Constant (.int 1) k p1) p2)) (tPart (tUn (rU fun i => .int (-i)) (tC (.int 1)))) := po_some (pe_un un_neg pe_int)
  apply wpAny_Slice
  refine thn (po_none.run pins s1 σ H1 (fun o G => o = none ∧ G = H1) I1 ⟨rfl, rfl⟩) ?_
  rintro vl s2 ⟨l, H2, I2, pl, rfl, rfl⟩
  refine thn (po_none.run pins s2 σ H2 (fun o G => o = none ∧ G = H2) I2 ⟨rfl, rfl⟩) ?_
  rintro vu s3 ⟨u, H3, I3, pu, rfl, rfl⟩
  refine thn (step.run pins s3 σ H3 (fun o G => o = some (-1) ∧ G = H3) I3 ⟨1, rfl, -1, rfl, rfl, rfl⟩) ?_
  rintro vs s4 ⟨o, H4, I4, ps, rfl, rfl⟩
  cases pl
  cases pu
  obtain ⟨t, rfl⟩ : ∃ t, vs = Value.int (-1) t := by
    cases ps with
    | int i t => exact ⟨t, rfl⟩
  have I5 : Inv X pins σ H4 { s4 with heap := s4.heap.push { cls := .type "slice", data := .fields #[.none, .none, .int (-1) t] } } := I4.kept (t' := s4.toks) fun b ob q => Heap.get?_push_of_some _ q
  obtain ⟨its, r, isT, hz⟩ := I5.tuple hx
  have len := r.length
  refine tail_any (ops := [.ref a, .ref s4.heap.objs.size]) (T := "tuple") isT.typeIs (PyProof.Rows.slot_tuple_getitem.lookup) ?_ (by with_unfolding_all rfl)
  refine getItem_rev isT (Heap.IsSliceOf.new _ _ _ _) ?_ (by rw [List.size_toArray]; omega)
  refine ⟨.ref _, _, I5.laid (t' := s4.toks) (o := .tup xs.reverse) (fun b ob q => Heap.get?_push_of_some _ q) (Nat.le_refl _) ?_, rfl, q _ (I5.hok.fresh (Nat.le_refl _))⟩
  exact ⟨by rw [List.length_reverse]; exact hz, _, r.reverse, IsTup.new _ _⟩
@[simp] def tRevT (t : TED) : TED := fun env c W Q => t env c W fun d c1 => match d with
  | .tup ds => Q (.tup ds.reverse) c1
  | _ => False
theorem de_revT {X : Cx} {F : Fd} {e : Expr} {te : TED} {k : Nat} {p1 p2 p3 pos : Pos} (he : DB X F e te) (hK : F.Z.K = X.K := by rfl) : DE X F (.Subscript e (.Slice none none (some (.UnaryOp .USub (.Constant (.int 1) k p1) p2)) p3) pos) (tRevT te) :=
  PE.imp (pe_revT he) fun σ H Q ⟨Hf, env, c, Wd, Qd, S, x, ht, k⟩ => ⟨Hf, env, c, Wd, _, S, x, ht, fun v H1 Hf1 c1 d S1 s1 k1 r1 q1 => by
    cases d with
    | tup ds =>
      obtain ⟨a, vs, rfl, h1, h2, _⟩ := vrp_tup S1.sub (r1.at S1)
      refine ⟨a, vs, rfl, SqT.of h1, fun p hp => ?_⟩
      obtain ⟨g, rr⟩ := new_tup S1.sub hp h2.reverse
      exact k _ _ _ c1 _ (S1.grow g) (s1.trans g.hf) (k1.trans (Keep.of g.h)) rr q1
    | _ => exact q1.elim⟩
end DL
set_option Elab.async false
set_option linter.all false
set_option maxRecDepth 100000
set_option maxHeartbeats 1000000
/-! DL30: ends of defs' bodies; a law's end with its code table known. -/
namespace DL
open PySem PySem.Spec PyProof.Rows L2
abbrev endP (W R : D → Prop) : EndsD := { nx := fun _ _ => R .non, rt := fun d _ => R d, ex := fun d _ _ => W d }
abbrev endS (W : WD) (R : D → Nat → Prop) : EndsD := { nx := fun _ c => R .non c, rt := R, ex := fun d _ c => W d c }
section
variable {P : Program} {w : World} {K : PySem.W.Frag} {mg : Str → Option Value} {base : Heap} {x : Str} {st : Stmt} {N ps : List Str} {k : Nat} {t : TSD} {f : Addr} {fd : FuncData}
theorem ok_P {pf : PF} (Fn : Fun K x x st f fd) (S : FnScope N ps (defScope st)) (len : ∀ ds W R, pf ds W R → ds.length = ps.length)
    (hd : ∀ (X : Cx) (F : Fd) (f : Addr) (cdv : Value) (A : Around) (outer : List Env) (s : Shared) (H G : Hp) (sa sl sc : Addr) (E : XK), X = cxOf (L2.CX P w) P w K mg base N x (defScope st) f cdv A outer s H E → F = fdP K mg sa sl sc H G (fun cls d _ H => E cls d H) →
      Takes X F.W → Room k X.A → DSs X F (defBody st) t) (hq : ∀ (ds : List D) (W R : D → Prop), pf ds W R → t (endP W R) (envAt N.length ds) 0) : FnOk P w K mg base (L2.CX P w) (k + 1) f fd ps (spP K mg pf) :=
  okP Fn S len fun X F cdv A outer s H G sa sl sc E eX eF tk hr => ⟨t, hd X F f cdv A outer s H G sa sl sc E eX eF tk hr, hq⟩
theorem ok_S {pf : PFS} (Fn : Fun K x x st f fd) (S : FnScope N ps (defScope st)) (len : ∀ ds c W R, pf ds c W R → ds.length = ps.length)
    (hd : ∀ (X : Cx) (F : Fd) (f : Addr) (cdv : Value) (A : Around) (outer : List Env) (s : Shared) (H G : Hp) (sa sl sc : Addr) (E : XK), X = cxOf (L2.CX P w) P w K mg base N x (defScope st) f cdv A outer s H E → F = fdS K mg sa sl sc H G (fun cls d _ H => E cls d H) →
      Takes X F.W → Room k X.A → DSs X F (defBody st) t) (hq : ∀ (ds : List D) (c : Nat) (W : WD) (R : D → Nat → Prop), pf ds c W R → t (endS W R) (envAt N.length ds) c) : FnOk P w K mg base (L2.CX P w) (k + 1) f fd ps (spS K mg pf) :=
  okS Fn S len fun X F cdv A outer s H G sa sl sc E eX eF tk hr => ⟨t, hd X F f cdv A outer s H G sa sl sc E eX eF tk hr, hq⟩
theorem df_mk {h : Heap} {oc kV doc pm cdv ct : Value} {od an : Option Addr} {osl : Array (Option Value)} (X : K.In h) (G : h.Ns mainGlobals mg) (a : PySem.W.nsIn K mainGlobals x = some (some (.ref f)))
    (l : K.lookup f = some ⟨oc, od, .func (PySem.W.fnOf x x (defArgs st) (defBody st) (defScope st) .none kV doc pm an cdv ct), osl⟩) (c : PySem.W.codeIn K cdv x = true) (kp : PySem.W.keepIn K (.ref f) = true)
    (b : ∀ (kV doc pm : Value) (an : Option Addr) (cdv ct : Value) (us : List Value), us.length = ps.length → bindArgs (PySem.W.fnOf x x (defArgs st) (defBody st) (defScope st) .none kV doc pm an cdv ct) ⟨us, []⟩ = pure (ps.zip us)) : Df K mg x st ps :=
  have F := fun_mk (st := st) l c kp
  ⟨f, _, F, PySem.W.mg_of X G a, F.binds b⟩
end
/-- an error of the class at C is what «except S» names, S above it -/
theorem exm_under {K : PySem.W.Frag} {C S : Addr} (h1 : PySem.W.subIn K (.ref S) (.type "BaseException") = some true) (h2 : PySem.W.isClsIn K S = true) (h3 : PySem.W.typeIn K (.ref S) = some (.type "type")) (h4 : PySem.W.subIn K (.ref C) (.ref S) = some true) :
    PySem.W.exmOne K (.ref C) (.ref S) = some true := by
  have z1 : (PySem.W.subIn K (.ref S) (.type "BaseException") == some true) = true := by rw [h1] <;> rfl
  have z2 : ((PySem.W.clsIn K S).isSome && PySem.W.typeIn K (.ref S) == some (.type "type")) = true := by
    have z3 : (PySem.W.clsIn K S).isSome = true := h2
    rw [z3, h3] <;> rfl
  unfold PySem.W.exmOne
  rw [if_pos z1]
  show (if ((PySem.W.clsIn K S).isSome && PySem.W.typeIn K (.ref S) == some (.type "type")) = true then PySem.W.subIn K (.ref C) (.ref S) else none) = some true
  rw [if_pos z2]
  exact h4
theorem isc_mk {K : PySem.W.Frag} {mg : Str → Option Value} {h : Heap} {y : Str} {C : Addr} {rs : List (Str × Bool)} (X : K.In h) (G : h.Ns mainGlobals mg) (a : PySem.W.nsIn K mainGlobals y = some (some (.ref C))) (nn : PySem.W.kitOne K (.type "NoneType") (.ref C) = some false)
    (all : ∀ p ∈ rs, ∃ D0, PySem.W.nsIn K mainGlobals p.1 = some (some (.ref D0)) ∧ ExcC K D0 ∧ PySem.W.kitOne K (.ref D0) (.ref C) = some p.2) : IsC K mg y (fun n => rs.lookup n) := by
  refine ⟨C, PySem.W.mg_of X G a, nn, fun n b hn D0 hD => ?_⟩
  have hm : (n, b) ∈ rs := by
    clear all nn a
    induction rs with
    | nil => cases hn
    | cons p r ih =>
      obtain ⟨q, z⟩ := p
      rw [List.lookup_cons] at hn
      by_cases e : (n == q) = true
      · rw [e] at hn
        cases hn
        rw [beq_iff_eq.mp e]
        exact List.mem_cons_self ..
      · rw [Bool.not_eq_true] at e
        rw [e] at hn
        exact List.mem_cons_of_mem _ (ih hn)
  obtain ⟨D1, h1, h2, h3⟩ := all _ hm
  have e := hD.symm.trans (PySem.W.mg_of X G h1)
  cases e
  exact ⟨h2, h3⟩
theorem fill_mk {K : PySem.W.Frag} {mg : Str → Option Value} {h : Heap} {y : Str} {CS : Addr} {ns : List Str} (X : K.In h) (G : h.Ns mainGlobals mg) (a : PySem.W.nsIn K mainGlobals y = some (some (.ref CS)))
    (all : ∀ n ∈ ns, ∃ C, PySem.W.nsIn K mainGlobals n = some (some (.ref C)) ∧ PySem.W.exmOne K (.ref C) (.ref CS) = some true) : ∃ CS, mg y = some (.ref CS) ∧ ∀ n ∈ ns, ∀ C, mg n = some (.ref C) → PySem.W.exmOne K (.ref C) (.ref CS) = some true := by
  refine ⟨CS, PySem.W.mg_of X G a, fun n hn C hC => ?_⟩
  obtain ⟨C1, h1, h2⟩ := all n hn
  have e := hC.symm.trans (PySem.W.mg_of X G h1)
  cases e
  exact h2
theorem exc_mk {K : PySem.W.Frag} {mg : Str → Option Value} {h : Heap} {x : Str} {C : Addr} {bm : List Value} {B nw ini : String} (FB : ExcBaseFacts B nw ini bm) (X : K.In h) (G : h.Ns mainGlobals mg) (a : PySem.W.nsIn K mainGlobals x = some (some (.ref C))) (b : PySem.W.keepIn K (.ref C) = true)
    (c : PySem.W.excIn K C bm nw = true) (d : PySem.W.subIn K (.ref C) (.type "BaseException") = some true) (e : PySem.W.typeIn K (.ref C) = some (.type "type")) : Exc K mg x := ⟨C, PySem.W.mg_of X G a, b, ⟨bm, B, nw, ini, FB, c⟩, d, e⟩
theorem isc_one {K : PySem.W.Frag} {x : Str} {D0 C : Addr} {b : Bool} (a : PySem.W.nsIn K mainGlobals x = some (some (.ref D0))) (hg : PySem.W.findIn K (.ref D0) "__getattribute__" = some (some (.builtin "BaseException.__getattribute__"))) (hk : PySem.W.findIn K (.ref D0) "__getattr__" = some none)
    (hs : PySem.W.subIn K (.ref D0) (.type "BaseException") = some true) (hd : PySem.W.hasDictIn K D0 = true) (ha : PySem.W.findIn K (.ref D0) "__class__" = some (some (.builtin "object.__class__"))) (hn : PySem.W.specialIn K (.builtin "object.__class__") "__get__" = some (some (.builtin "getset_descriptor.__get__")))
    (ht : PySem.W.takesIn K (.builtin "object.__class__") = some true) (hm : PySem.W.mroIn K D0 (.type "object") = some true) (c : PySem.W.kitOne K (.ref D0) (.ref C) = some b) :
    ∃ D0, PySem.W.nsIn K mainGlobals x = some (some (.ref D0)) ∧ ExcC K D0 ∧ PySem.W.kitOne K (.ref D0) (.ref C) = some b := ⟨D0, a, ⟨hg, hk, hs, hd, ha, hn, ht, hm⟩, c⟩
theorem fill_one {K : PySem.W.Frag} {n : Str} {C CS : Addr} (a : PySem.W.nsIn K mainGlobals n = some (some (.ref C))) (h1 : PySem.W.subIn K (.ref CS) (.type "BaseException") = some true) (h2 : PySem.W.isClsIn K CS = true) (h3 : PySem.W.typeIn K (.ref CS) = some (.type "type")) (h4 : PySem.W.subIn K (.ref C) (.ref CS) = some true) :
    ∃ C, PySem.W.nsIn K mainGlobals n = some (some (.ref C)) ∧ PySem.W.exmOne K (.ref C) (.ref CS) = some true := ⟨C, a, exm_under h1 h2 h3 h4⟩
theorem const_mk {K : PySem.W.Frag} {mg : Str → Option Value} {h : Heap} {x : Str} {i : Int} {v : Value} (X : K.In h) (G : h.Ns mainGlobals mg) (a : PySem.W.nsIn K mainGlobals x = some (some v)) (e : ∃ t, v = .int i t) : ∃ t, mg x = some (.int i t) := by
  obtain ⟨t, rfl⟩ := e
  exact ⟨t, PySem.W.mg_of X G a⟩
theorem all_cons {α : Type} {p : α → Prop} {a : α} {r : List α} (h : p a) (t : ∀ x ∈ r, p x) : ∀ x ∈ a :: r, p x := fun x hx => by
  rcases List.mem_cons.mp hx with rfl | hx
  · exact h
  · exact t x hx
theorem all_nil {α : Type} {p : α → Prop} : ∀ x ∈ ([] : List α), p x := fun x hx => absurd hx List.not_mem_nil
theorem walk_hereT {l : PySem.W.OpenLaw} {n : Nat} {q : Program} {loose : List Str} {XP : (Str → Option Value) → Heap → Prop} {YP : World → Heap → Prop} {d : DefRec} {K : Params → PySem.W.Frag} (hn : l.most = some n) (hn2 : n ≤ sizeLine) (hdf : d.params.defaults = [])
    (hY : ∀ (w : World) (h : Heap), YP w h → (K w.params).In h)
    (F : ∀ (w : World) (mg mb : Str → Option Value) (mean : ExcName → Option Value) (fa : Addr) (h : Heap), YP w h → (K w.params).In h → Top q (PySem.W.looseW q loose) mean mg mb h → h.Ns mainGlobals mg → mg d.name = some (.ref fa) → LawHere l w (K w.params) n mg fa h) :
    PySem.W.WalkO q loose XP YP l.row.toRowW d [] (fun f vs => PySem.call f vs) := by
  refine Att.attach_callB hn hdf ?_
  intro w s₀ s₁ mg mb fa o pm cd doc a vs ns G Y _ _ _ hmg hobj hints hlen _ hg
  have KX := hY w _ Y
  obtain ⟨cs, h1, h2, h3, run⟩ := F w mg mb _ fa _ Y KX G.T G.T.g hmg
  have fl : Floor (K w.params) mg mb cs s₁ a vs ns := ⟨KX, G.T.g, G.T.b, G.T.builtins, G.T.nolimit, hg, h1, h2, h3, G.T.bmain, hobj, hints, Nat.le_trans hlen hn2⟩
  refine codeAny_mono (run s₁ _ _ a ns hlen fl.tabB (fun p hp => start_tab hp) (fun b ps e => ?_) fl.seq fl.env0) fun r s' h => fl.behind h
  rcases start_cases (K := K w.params) (cs := cs) (a := a) (vs := vs) (ns := ns) b with ⟨m, _⟩ | ⟨_, _, _, z⟩ | z
  · obtain ⟨p, hp, e⟩ := List.mem_map.mp m
    exact ⟨p, hp, e⟩
  · rw [z] at e
    cases e
  · rw [z] at e
    cases e
end DL
set_option Elab.async false
set_option linter.all false
set_option maxRecDepth 100000
set_option maxHeartbeats 1000000
/-! DL31: plain laws of readings: comprehensions and loops by what one turn does. -/
namespace DL
open PySem PySem.Spec PyProof.Rows L2
theorem Tg.set_imp {tg : Tg} {d : D} {env : EnvD} {k k' : EnvD → Prop} (h : tg.set d env k) (i : ∀ e, k e → k' e) : tg.set d env k' := by
  cases tg with
  | one j => exact i _ h
  | tup is =>
    cases d with
    | tup ds => exact ⟨h.1, i _ h.2⟩
    | _ => exact h.elim
section
variable {tg : Tg} {own : List Nat} {tt : TTD} {te : TED} {env : EnvD} {Q : D → Nat → Prop}
theorem lc_inv (I : List D → List D → Nat → Prop)
    (step : ∀ d ds acc c, I (d :: ds) acc c → ∀ (k0 : Nat → Prop) (k1 : D → Nat → Prop), (∀ c', I ds acc c' → k0 c') → (∀ y c', I ds (acc ++ [y]) c' → k1 y c') →
      tg.set d (wipeD env own) fun env1 => tt env1 c noWD fun b c1 => if b = true then te env1 c1 noWD k1 else k0 c1)
    (hs : ∀ ds acc c y, I ds (acc ++ [y]) c → acc.length < sizeLine) (hend : ∀ acc c, I [] acc c → Q (.lst acc) c) : ∀ (ds acc : List D) (c : Nat), I ds acc c → lcD tg own tt te env Q ds acc c
  | [], acc, c, h => hend acc c h
  | d :: ds, acc, c, h => by
    show tg.set d (wipeD env own) _
    exact step d ds acc c h (fun c1 => lcD tg own tt te env Q ds acc c1) (fun y c2 => acc.length < sizeLine ∧ lcD tg own tt te env Q ds (acc ++ [y]) c2) (fun c' i => lc_inv I step hs hend ds acc c' i) fun y c' i => ⟨hs ds acc c' y i, lc_inv I step hs hend ds (acc ++ [y]) c' i⟩
/-- no draws: p tells which stay, f what comes of them -/
theorem lc_pure (p : D → Bool) (f : D → D) {c : Nat} : ∀ (ds acc : List D), acc.length + ds.length ≤ sizeLine →
    (∀ d ∈ ds, ∀ (k0 : Nat → Prop) (k1 : D → Nat → Prop), (if p d = true then k1 (f d) c else k0 c) → tg.set d (wipeD env own) fun env1 => tt env1 c noWD fun b c1 => if b = true then te env1 c1 noWD k1 else k0 c1) →
    Q (.lst (acc ++ (ds.filter p).map f)) c → lcD tg own tt te env Q ds acc c
  | [], acc, _, _, q => by
    show Q (.lst acc) c
    simpa using q
  | d :: ds, acc, hl, h, q => by
    rw [List.length_cons] at hl
    refine h d (List.mem_cons_self ..) (fun c1 => lcD tg own tt te env Q ds acc c1) (fun y c2 => acc.length < sizeLine ∧ lcD tg own tt te env Q ds (acc ++ [y]) c2) ?_
    by_cases hp : p d = true
    · rw [if_pos hp]
      refine ⟨by omega, lc_pure p f ds (acc ++ [f d]) (by rw [List.length_append, List.length_singleton]; omega) (fun e he => h e (List.mem_cons_of_mem _ he)) ?_⟩
      rw [List.filter_cons_of_pos hp] at q
      simpa using q
    · rw [if_neg hp]
      refine lc_pure p f ds acc (by omega) (fun e he => h e (List.mem_cons_of_mem _ he)) ?_
      rwa [List.filter_cons_of_neg hp] at q
end
/-- all stay -/
theorem lc_map {tg : Tg} {own : List Nat} {te : TED} {env : EnvD} {Q : D → Nat → Prop} (f : D → D) {c : Nat} (ds acc : List D) (hl : acc.length + ds.length ≤ sizeLine)
    (h : ∀ d ∈ ds, ∀ k1 : D → Nat → Prop, k1 (f d) c → tg.set d (wipeD env own) fun env1 => te env1 c noWD k1) (q : Q (.lst (acc ++ ds.map f)) c) : lcD tg own tYesD te env Q ds acc c :=
  lc_pure (fun _ => true) f ds acc hl (fun d hd k0 k1 z => by
    have z2 := h d hd k1 (by simpa using z)
    exact Tg.set_imp z2 fun e he => by
      show (if true = true then te e c noWD k1 else k0 c)
      rw [if_pos rfl]; exact he) (by rw [List.filter_eq_self.mpr (fun _ _ => rfl)]; exact q)
section
variable {tg : Tg} {tb : TSD} {D0 : EndsD}
theorem loop_inv (I : List D → EnvD → Nat → Prop)
    (step : ∀ d ds (N : EnvD → Nat → Prop), (∀ env c, I ds env c → N env c) → ∀ env c, I (d :: ds) env c → tg.set d env fun env1 => tb { D0 with nx := N, ct := N, bk := D0.nx } env1 c)
    (hend : ∀ env c, I [] env c → D0.nx env c) : ∀ (ds : List D) (env : EnvD) (c : Nat), I ds env c → loopD tg tb D0 ds env c
  | [], env, c, h => hend env c h
  | d :: ds, env, c, h => step d ds (loopD tg tb D0 ds) (fun env' c' i => loop_inv I step hend ds env' c' i) env c h
end
theorem rng_eq : ∀ (lo : Int) (n : Nat), rngD lo 1 n = (List.range n).map fun (k : Nat) => D.int (lo + k)
  | _, 0 => rfl
  | lo, n + 1 => by
    rw [rngD, rng_eq (lo + 1) n, List.range_succ_eq_map, List.map_cons, List.map_map]
    congr 1
    · simp
    · refine List.map_congr_left fun k _ => ?_
      show D.int (lo + 1 + k) = D.int (lo + ((k + 1 : Nat) : Int))
      congr 1
      omega
theorem loop_rng {tg : Tg} {tb : TSD} {D0 : EndsD} (I : Nat → EnvD → Nat → Prop) (lo : Int) (m : Nat)
    (step : ∀ k, k < m → ∀ (N : EnvD → Nat → Prop), (∀ env c, I (k + 1) env c → N env c) → ∀ env c, I k env c → tg.set (.int (lo + k)) env fun env1 => tb { D0 with nx := N, ct := N, bk := D0.nx } env1 c)
    (hend : ∀ env c, I m env c → D0.nx env c) (env : EnvD) (c : Nat) (h : I 0 env c) : loopD tg tb D0 (rngD lo 1 m) env c := by
  refine loop_inv (fun rest env c => ∃ k, k ≤ m ∧ rest = rngD (lo + (k : Nat)) 1 (m - k) ∧ I k env c) ?_ ?_ _ env c ⟨0, by omega, by simp, h⟩
  · rintro d ds N hN env c ⟨k, hk, e, hi⟩
    have hlt : k < m := by
      have := congrArg List.length e
      rw [rngD_length, List.length_cons] at this
      omega
    obtain ⟨n, hn⟩ : ∃ n, m - k = n + 1 := ⟨m - k - 1, by omega⟩
    rw [hn, rngD] at e
    cases e
    refine step k hlt N (fun env c z => hN env c ⟨k + 1, hlt, ?_, z⟩) env c hi
    rw [show m - (k + 1) = n by omega]
    congr 1
    omega
  · rintro env c ⟨k, hk, e, hi⟩
    have : m - k = 0 := by
      have := congrArg List.length e
      rw [rngD_length] at this
      simpa using this.symm
    have hkm : k = m := by omega
    subst hkm
    exact hend env c hi
/-- one statement, the rest out of sight: what is told of the rest is handed back as hN -/
theorem st_seq {t u : TSD} {D0 : EndsD} {env : EnvD} {c : Nat} (h : ∀ N : EnvD → Nat → Prop, (∀ env' c', u D0 env' c' → N env' c') → t { D0 with nx := N } env c) : tSeqD t u D0 env c := h (u D0) fun _ _ z => z
/-! ### draws are counted -/
def cap : Nat := 1099511627776
theorem draw_ok {c n : Nat} {W : WD} {R : D → Nat → Prop} (hc : c < cap) (h0 : 0 < n) (h1 : n < 1073741824) (h : ∀ v : Nat, v < n → R (.int v) (c + 1)) : drawPF [.st, .int n] c W R :=
  ⟨n, rfl, by omega, by omega, by unfold cap at hc; omega, fun v a b => by
    have z := h v.toNat (by omega)
    rwa [show ((v.toNat : Nat) : Int) = v by omega] at z⟩
theorem draw_okI {c : Nat} {n : Int} {W : WD} {R : D → Nat → Prop} (hc : c < cap) (h0 : 0 < n) (h1 : n < 1073741824) (h : ∀ v : Int, 0 ≤ v → v < n → R (.int v) (c + 1)) : drawPF [.st, .int n] c W R :=
  ⟨n, rfl, h0, h1, by unfold cap at hc; omega, h⟩
end DL
set_option Elab.async false
set_option linter.all false
set_option maxRecDepth 100000
set_option maxHeartbeats 1000000
namespace KC
open PySem PySem.Spec PyProof.Rows L2 DL
/-! ### is_between -/
abbrev n_is_between : List Str := ["thing", "low", "high"]
abbrev p_is_between : List Str := ["thing", "low", "high"]
def t_is_between : TSD :=
  (tRetD (tAndVD (tIsD .int (tVarB 0)) (tAndVD (tNotVD (tIsD .bool (tVarB 0))) (tChainD leD leD (tVarB 1) (tVarB 0) (tVarB 2)))))
structure pf_is_between (ds : List D) (W R : D → Prop) : Prop where
  len : ds.length = 3
  run : t_is_between (endP W R) (envAt 3 ds) 0
theorem l_is_between (ds : List D) (W R : D → Prop) (h : pf_is_between ds W R) : ds.length = 3 := h.1
theorem q_is_between (ds : List D) (W R : D → Prop) (h : pf_is_between ds W R) : t_is_between (endP W R) (envAt 3 ds) 0 := h.2
/-! ### need_prime -/
abbrev n_need_prime : List Str := ["prime"]
abbrev p_need_prime : List Str := ["prime"]
def t_need_prime : TSD :=
  (tIfSD (tOrD (tNotD (tTruD (tCallP pf_is_between (tConsD (tVarD 0) (tConsD (tCD (.int 2)) (tConsD (tCD (.int 7)) tNilD)))))) (tTestD (tOpD notInD (tVarB 0) (tLstD (tConsD (tCD (.int 2)) (tConsD (tCD (.int 3)) (tConsD (tCD (.int 5)) (tConsD (tCD (.int 7)) tNilD))))))))
  (tRaiseD "BadPrime")
  tNextD)
structure pf_need_prime (ds : List D) (W R : D → Prop) : Prop where
  len : ds.length = 1
  run : t_need_prime (endP W R) (envAt 1 ds) 0
theorem l_need_prime (ds : List D) (W R : D → Prop) (h : pf_need_prime ds W R) : ds.length = 1 := h.1
theorem q_need_prime (ds : List D) (W R : D → Prop) (h : pf_need_prime ds W R) : t_need_prime (endP W R) (envAt 1 ds) 0 := h.2
/-! ### is_term -/
abbrev n_is_term : List Str := ["prime", "thing"]
abbrev p_is_term : List Str := ["prime", "thing"]
def t_is_term : TSD :=
  (tSeqD (tIfSD (tOrD (tNotD (tTruD (tIsD .tup (tVarB 1)))) (tOrD (tTestD (tOpD neD (tCallD lenD (tConsD (tVarB 1) tNilD)) (tCD (.int 3)))) (tNotD (tTruD (tCallP pf_is_between (tConsD (tOpD ixD (tVarB 1) (tCD (.int 2))) (tConsD (tCD (.int 1)) (tConsD (tOpD subD (tVarB 0) (tCD (.int 1))) tNilD))))))))
  (tRetD (tCD (.bl false)))
  tNextD)
  (tRetD (tAndVD (tCallP pf_is_between (tConsD (tOpD ixD (tVarB 1) (tCD (.int 0))) (tConsD (tCD (.int 0)) (tConsD (tCD (.int 999)) tNilD)))) (tCallP pf_is_between (tConsD (tOpD ixD (tVarB 1) (tCD (.int 1))) (tConsD (tCD (.int 0)) (tConsD (tCD (.int 999)) tNilD)))))))
structure pf_is_term (ds : List D) (W R : D → Prop) : Prop where
  len : ds.length = 2
  run : t_is_term (endP W R) (envAt 2 ds) 0
theorem l_is_term (ds : List D) (W R : D → Prop) (h : pf_is_term ds W R) : ds.length = 2 := h.1
theorem q_is_term (ds : List D) (W R : D → Prop) (h : pf_is_term ds W R) : t_is_term (endP W R) (envAt 2 ds) 0 := h.2
/-! ### polys_right -/
abbrev n_polys_right : List Str := ["prime", "thing", "one", "other", "term"]
abbrev p_polys_right : List Str := ["prime", "thing"]
def t_polys_right : TSD :=
  (tSeqD (tIfSD (tOrD (tNotD (tTruD (tIsD .tup (tVarB 1)))) (tNotD (tTruD (tCallD allD (tConsD (tLcDD (.one 4) [4] (tItD (tVarD 1)) tYesD (tCallP pf_is_term (tConsD (tVarD 0) (tConsD (tVarD 4) tNilD)))) tNilD)))))
  (tRetD (tCD (.bl false)))
  tNextD)
  (tRetD (tCallD allD (tConsD (tLcDD (.tup [2, 3]) [2, 3] (tZipD (tConsD (tVarD 1) (tConsD (tSlD (tVarB 1) (tPartD (tCD (.int 1))) tNoPartD) tNilD))) tYesD (tOpD ltD (tSlD (tVarB 2) tNoPartD (tPartD (tCD (.int 2)))) (tSlD (tVarB 3) tNoPartD (tPartD (tCD (.int 2)))))) tNilD))))
structure pf_polys_right (ds : List D) (W R : D → Prop) : Prop where
  len : ds.length = 2
  run : t_polys_right (endP W R) (envAt 5 ds) 0
theorem l_polys_right (ds : List D) (W R : D → Prop) (h : pf_polys_right ds W R) : ds.length = 2 := h.1
theorem q_polys_right (ds : List D) (W R : D → Prop) (h : pf_polys_right ds W R) : t_polys_right (endP W R) (envAt 5 ds) 0 := h.2
/-! ### is_poly -/
abbrev n_is_poly : List Str := ["prime", "thing"]
abbrev p_is_poly : List Str := ["prime", "thing"]
def t_is_poly : TSD :=
  (tSeqD (tDropD (tCallP pf_need_prime (tConsD (tVarD 0) tNilD)))
  (tRetD (tCallP pf_polys_right (tConsD (tVarD 0) (tConsD (tVarD 1) tNilD)))))
structure pf_is_poly (ds : List D) (W R : D → Prop) : Prop where
  len : ds.length = 2
  run : t_is_poly (endP W R) (envAt 2 ds) 0
theorem l_is_poly (ds : List D) (W R : D → Prop) (h : pf_is_poly ds W R) : ds.length = 2 := h.1
theorem q_is_poly (ds : List D) (W R : D → Prop) (h : pf_is_poly ds W R) : t_is_poly (endP W R) (envAt 2 ds) 0 := h.2
abbrev n__law_begun : List Str := ["_law_script", "_law_cells_here", "_law_large", "_law_cell"]
abbrev p__law_begun : List Str := ["_law_script"]
abbrev n__law_draw : List Str := ["_law_state", "_law_size_here", "_law_found", "_law_turn", "_law_cell", "_law_mixed_here"]
abbrev p__law_draw : List Str := ["_law_state", "_law_size_here"]
abbrev pf__law_draw : PFS := drawPF
/-! ### _law_pick -/
abbrev n__law_pick : List Str := ["_law_state", "_law_several"]
abbrev p__law_pick : List Str := ["_law_state", "_law_several"]
def t__law_pick : TSD :=
  (tRetD (tOpD ixD (tVarB 1) (tDrawn pf__law_draw (tConsD (tVarD 0) (tConsD (tCallD lenD (tConsD (tVarB 1) tNilD)) tNilD)))))
structure pf__law_pick (ds : List D) (c : Nat) (W : WD) (R : D → Nat → Prop) : Prop where
  len : ds.length = 2
  run : t__law_pick (endS W R) (envAt 2 ds) c
theorem l__law_pick (ds : List D) (c : Nat) (W : WD) (R : D → Nat → Prop) (h : pf__law_pick ds c W R) : ds.length = 2 := h.1
theorem q__law_pick (ds : List D) (c : Nat) (W : WD) (R : D → Nat → Prop) (h : pf__law_pick ds c W R) : t__law_pick (endS W R) (envAt 2 ds) c := h.2
/-! ### _law_mixed -/
abbrev n__law_mixed : List Str := ["_law_state", "_law_several", "_law_left", "_law_found"]
abbrev p__law_mixed : List Str := ["_law_state", "_law_several"]
def t__law_mixed : TSD :=
  (tSeqD (tParD [2, 3] (tConsO (tCallD listD (tConsD (tVarB 1) tNilD)) (tConsO (tLstD tNilD) tNilI)))
  (tSeqD (tWhileD (tTestD (tOpD neD (tVarB 2) (tLstD tNilD)))
  (tAppP 3 (tPopAtD 2 (tDrawn pf__law_draw (tConsD (tVarD 0) (tConsD (tCallD lenD (tConsD (tVarB 2) tNilD)) tNilD))))))
  (tFrzD 3 (tRetD (tVarD 3)))))
structure pf__law_mixed (ds : List D) (c : Nat) (W : WD) (R : D → Nat → Prop) : Prop where
  len : ds.length = 2
  run : t__law_mixed (endS W R) (envAt 4 ds) c
theorem l__law_mixed (ds : List D) (c : Nat) (W : WD) (R : D → Nat → Prop) (h : pf__law_mixed ds c W R) : ds.length = 2 := h.1
theorem q__law_mixed (ds : List D) (c : Nat) (W : WD) (R : D → Nat → Prop) (h : pf__law_mixed ds c W R) : t__law_mixed (endS W R) (envAt 4 ds) c := h.2
/-! ### _law_is_whole -/
abbrev n__law_is_whole : List Str := ["_law_item"]
abbrev p__law_is_whole : List Str := ["_law_item"]
def t__law_is_whole : TSD :=
  (tRetD (tAndVD (tIsD .int (tVarB 0)) (tNotVD (tIsD .bool (tVarB 0)))))
structure pf__law_is_whole (ds : List D) (W R : D → Prop) : Prop where
  len : ds.length = 1
  run : t__law_is_whole (endP W R) (envAt 1 ds) 0
theorem l__law_is_whole (ds : List D) (W R : D → Prop) (h : pf__law_is_whole ds W R) : ds.length = 1 := h.1
theorem q__law_is_whole (ds : List D) (W R : D → Prop) (h : pf__law_is_whole ds W R) : t__law_is_whole (endP W R) (envAt 1 ds) 0 := h.2
/-! ### _law_odd -/
abbrev n__law_odd : List Str := ["_law_state"]
abbrev p__law_odd : List Str := ["_law_state"]
def t__law_odd : TSD :=
  (tRetD (tDrawn pf__law_pick (tConsD (tVarD 0) (tConsD (tLstD (tConsD (tCD .non) (tConsD (tCD (.bl true)) (tConsD (tCD (.bl false)) (tConsD (tCD (.str "0")) (tConsD (tCD (.str "")) (tConsD (tLstD tNilD) (tConsD (tCD (.dic false [] [])) (tConsD (tTupD (tConsD (tCD .non) tNilD)) (tConsD (tTupD (tConsD (tCD (.str "a")) (tConsD (tCD (.int 1)) tNilD))) (tConsD (tLstD (tConsD (tLstD (tConsD (tCD (.int 0)) tNilD)) tNilD)) (tConsD (tCD (.dic false [.int 0] [.int 0])) (tConsD (tTupD (tConsD (tCD (.bl true)) tNilD)) (tConsD (tCD (.int 5)) (tConsD (tUnD negD (tCD (.int 1))) tNilD))))))))))))))) tNilD))))
structure pf__law_odd (ds : List D) (c : Nat) (W : WD) (R : D → Nat → Prop) : Prop where
  len : ds.length = 1
  run : t__law_odd (endS W R) (envAt 1 ds) c
theorem l__law_odd (ds : List D) (c : Nat) (W : WD) (R : D → Nat → Prop) (h : pf__law_odd ds c W R) : ds.length = 1 := h.1
theorem q__law_odd (ds : List D) (c : Nat) (W : WD) (R : D → Nat → Prop) (h : pf__law_odd ds c W R) : t__law_odd (endS W R) (envAt 1 ds) c := h.2
/-! ### _law_is_from -/
abbrev n__law_is_from : List Str := ["_law_item", "_law_low", "_law_top"]
abbrev p__law_is_from : List Str := ["_law_item", "_law_low", "_law_top"]
def t__law_is_from : TSD :=
  (tRetD (tAndVD (tCallP pf__law_is_whole (tConsD (tVarD 0) tNilD)) (tChainD leD leD (tVarB 1) (tVarB 0) (tVarB 2))))
structure pf__law_is_from (ds : List D) (W R : D → Prop) : Prop where
  len : ds.length = 3
  run : t__law_is_from (endP W R) (envAt 3 ds) 0
theorem l__law_is_from (ds : List D) (W R : D → Prop) (h : pf__law_is_from ds W R) : ds.length = 3 := h.1
theorem q__law_is_from (ds : List D) (W R : D → Prop) (h : pf__law_is_from ds W R) : t__law_is_from (endP W R) (envAt 3 ds) 0 := h.2
/-! ### _law_prime -/
abbrev n__law_prime : List Str := ["_law_state"]
abbrev p__law_prime : List Str := ["_law_state"]
def t__law_prime : TSD :=
  (tRetD (tDrawn pf__law_pick (tConsD (tVarD 0) (tConsD (tLstD (tConsD (tCD (.int 2)) (tConsD (tCD (.int 3)) (tConsD (tCD (.int 5)) (tConsD (tCD (.int 7)) tNilD))))) tNilD))))
structure pf__law_prime (ds : List D) (c : Nat) (W : WD) (R : D → Nat → Prop) : Prop where
  len : ds.length = 1
  run : t__law_prime (endS W R) (envAt 1 ds) c
theorem l__law_prime (ds : List D) (c : Nat) (W : WD) (R : D → Nat → Prop) (h : pf__law_prime ds c W R) : ds.length = 1 := h.1
theorem q__law_prime (ds : List D) (c : Nat) (W : WD) (R : D → Nat → Prop) (h : pf__law_prime ds c W R) : t__law_prime (endS W R) (envAt 1 ds) c := h.2
/-! ### _law_no_prime -/
abbrev n__law_no_prime : List Str := ["_law_state"]
abbrev p__law_no_prime : List Str := ["_law_state"]
def t__law_no_prime : TSD :=
  (tRetD (tDrawn pf__law_pick (tConsD (tVarD 0) (tConsD (tLstD (tConsD (tCD .non) (tConsD (tCD (.int 0)) (tConsD (tCD (.int 1)) (tConsD (tCD (.int 4)) (tConsD (tCD (.int 6)) (tConsD (tCD (.int 8)) (tConsD (tCD (.int 9)) (tConsD (tCD (.int 11)) (tConsD (tUnD negD (tCD (.int 2))) (tConsD (tCD (.bl true)) (tConsD (tCD (.str "2")) (tConsD (tTupD (tConsD (tCD (.int 2)) tNilD)) (tConsD (tLstD (tConsD (tCD (.int 3)) tNilD)) (tConsD (tCD (.dic false [] [])) (tConsD (tCD (.int 999999937)) tNilD)))))))))))))))) tNilD))))
structure pf__law_no_prime (ds : List D) (c : Nat) (W : WD) (R : D → Nat → Prop) : Prop where
  len : ds.length = 1
  run : t__law_no_prime (endS W R) (envAt 1 ds) c
theorem l__law_no_prime (ds : List D) (c : Nat) (W : WD) (R : D → Nat → Prop) (h : pf__law_no_prime ds c W R) : ds.length = 1 := h.1
theorem q__law_no_prime (ds : List D) (c : Nat) (W : WD) (R : D → Nat → Prop) (h : pf__law_no_prime ds c W R) : t__law_no_prime (endS W R) (envAt 1 ds) c := h.2
/-! ### _law_is_poly -/
abbrev n__law_is_poly : List Str := ["_law_prime_here", "_law_item", "_law_term", "_law_one", "_law_other"]
abbrev p__law_is_poly : List Str := ["_law_prime_here", "_law_item"]
def t__law_is_poly : TSD :=
  (tSeqD (tIfSD (tNotD (tTruD (tIsD .tup (tVarB 1))))
  (tRetD (tCD (.bl false)))
  tNextD)
  (tSeqD (tForD (.one 2) (tItD (tVarD 1))
  (tSeqD (tIfSD (tOrD (tNotD (tTruD (tIsD .tup (tVarB 2)))) (tOrD (tTestD (tOpD neD (tCallD lenD (tConsD (tVarB 2) tNilD)) (tCD (.int 3)))) (tNotD (tTruD (tCallP pf__law_is_from (tConsD (tOpD ixD (tVarB 2) (tCD (.int 2))) (tConsD (tCD (.int 1)) (tConsD (tOpD subD (tVarB 0) (tCD (.int 1))) tNilD))))))))
  (tRetD (tCD (.bl false)))
  tNextD)
  (tIfSD (tOrD (tNotD (tTruD (tCallP pf__law_is_from (tConsD (tOpD ixD (tVarB 2) (tCD (.int 0))) (tConsD (tCD (.int 0)) (tConsD (tCD (.int 999)) tNilD)))))) (tNotD (tTruD (tCallP pf__law_is_from (tConsD (tOpD ixD (tVarB 2) (tCD (.int 1))) (tConsD (tCD (.int 0)) (tConsD (tCD (.int 999)) tNilD)))))))
  (tRetD (tCD (.bl false)))
  tNextD)))
  (tRetD (tOpD eqD (tLcDD (.tup [3, 4]) [3, 4] (tZipD (tConsD (tVarD 1) (tConsD (tSlD (tVarB 1) (tPartD (tCD (.int 1))) tNoPartD) tNilD))) (tTestD (tOpD geD (tSlD (tVarB 3) tNoPartD (tPartD (tCD (.int 2)))) (tSlD (tVarB 4) tNoPartD (tPartD (tCD (.int 2)))))) (tCD (.int 1))) (tLstD tNilD)))))
structure pf__law_is_poly (ds : List D) (W R : D → Prop) : Prop where
  len : ds.length = 2
  run : t__law_is_poly (endP W R) (envAt 5 ds) 0
theorem l__law_is_poly (ds : List D) (W R : D → Prop) (h : pf__law_is_poly ds W R) : ds.length = 2 := h.1
theorem q__law_is_poly (ds : List D) (W R : D → Prop) (h : pf__law_is_poly ds W R) : t__law_is_poly (endP W R) (envAt 5 ds) 0 := h.2
/-! ### _law_poly -/
abbrev n__law_poly : List Str := ["_law_state", "_law_prime_here", "_law_most_x", "_law_most_y", "_law_way", "_law_menu", "_law_i", "_law_found", "_law_j", "_law_term"]
abbrev p__law_poly : List Str := ["_law_state", "_law_prime_here", "_law_most_x", "_law_most_y"]
def t__law_poly : TSD :=
  (tSeqD (tSetD 4 (tDrawn pf__law_draw (tConsD (tVarD 0) (tConsD (tCD (.int 8)) tNilD))))
  (tSeqD (tIfSD (tTestD (tOpD eqD (tVarB 4) (tCD (.int 0))))
  (tRetD (tDrawn pf__law_pick (tConsD (tVarD 0) (tConsD (tLstD (tConsD (tTupD tNilD) (tConsD (tTupD (tConsD (tTupD (tConsD (tCD (.int 0)) (tConsD (tCD (.int 0)) (tConsD (tCD (.int 1)) tNilD)))) tNilD)) (tConsD (tTupD (tConsD (tTupD (tConsD (tCD (.int 0)) (tConsD (tCD (.int 0)) (tConsD (tOpD subD (tVarB 1) (tCD (.int 1))) tNilD)))) tNilD)) (tConsD (tTupD (tConsD (tTupD (tConsD (tVarD 2) (tConsD (tVarD 3) (tConsD (tCD (.int 1)) tNilD)))) tNilD)) tNilD))))) tNilD))))
  tNextD)
  (tSeqD (tSetD 5 (tLstD tNilD))
  (tSeqD (tForD (.one 6) (tRng1D (tConsD (tOpD addD (tVarB 2) (tCD (.int 1))) tNilD))
  (tSetD 5 (tOpD addD (tVarB 5) (tLcDD (.one 8) [8] (tRng1D (tConsD (tOpD addD (tVarB 3) (tCD (.int 1))) tNilD)) tYesD (tTupD (tConsD (tVarD 6) (tConsD (tVarD 8) tNilD)))))))
  (tSeqD (tIfSD (tTestD (tOpD ltD (tVarB 4) (tCD (.int 5))))
  (tSetD 5 (tSlD (tDrawn pf__law_mixed (tConsD (tVarD 0) (tConsD (tVarD 5) tNilD))) tNoPartD (tPartD (tOpD addD (tCD (.int 1)) (tDrawn pf__law_draw (tConsD (tVarD 0) (tConsD (tCD (.int 4)) tNilD)))))))
  tNextD)
  (tSeqD (tSetO 7 (tLcDD (.tup [6, 8]) [6, 8] (tItD (tCallD sortD (tConsD (tVarB 5) tNilD))) tYesD (tTupD (tConsD (tVarD 6) (tConsD (tVarD 8) (tConsD (tDrawn pf__law_draw (tConsD (tVarD 0) (tConsD (tVarD 1) tNilD))) tNilD))))))
  (tFrzD 7 (tRetD (tCallD tupleD (tConsD (tLcDD (.one 9) [9] (tItD (tVarD 7)) (tTestD (tOpD neD (tOpD ixD (tVarB 9) (tCD (.int 2))) (tCD (.int 0)))) (tVarD 9)) tNilD))))))))))
structure pf__law_poly (ds : List D) (c : Nat) (W : WD) (R : D → Nat → Prop) : Prop where
  len : ds.length = 4
  run : t__law_poly (endS W R) (envAt 10 ds) c
theorem l__law_poly (ds : List D) (c : Nat) (W : WD) (R : D → Nat → Prop) (h : pf__law_poly ds c W R) : ds.length = 4 := h.1
theorem q__law_poly (ds : List D) (c : Nat) (W : WD) (R : D → Nat → Prop) (h : pf__law_poly ds c W R) : t__law_poly (endS W R) (envAt 10 ds) c := h.2
/-! ### _law_some -/
abbrev n__law_some : List Str := ["_law_state", "_law_prime_here", "_law_most_x", "_law_most_y", "_law_told"]
abbrev p__law_some : List Str := ["_law_state", "_law_prime_here", "_law_most_x", "_law_most_y"]
def t__law_some : TSD :=
  (tSeqD (tSetD 4 (tDrawn pf__law_poly (tConsD (tVarD 0) (tConsD (tVarD 1) (tConsD (tVarD 2) (tConsD (tVarD 3) tNilD))))))
  (tRetD (tIfD (tTestD (tOpD neD (tVarB 4) (tTupD tNilD))) (tVarD 4) (tTupD (tConsD (tTupD (tConsD (tDrawn pf__law_draw (tConsD (tVarD 0) (tConsD (tOpD addD (tVarB 2) (tCD (.int 1))) tNilD))) (tConsD (tDrawn pf__law_draw (tConsD (tVarD 0) (tConsD (tOpD addD (tVarB 3) (tCD (.int 1))) tNilD))) (tConsD (tOpD addD (tCD (.int 1)) (tDrawn pf__law_draw (tConsD (tVarD 0) (tConsD (tOpD subD (tVarB 1) (tCD (.int 1))) tNilD)))) tNilD)))) tNilD)))))
structure pf__law_some (ds : List D) (c : Nat) (W : WD) (R : D → Nat → Prop) : Prop where
  len : ds.length = 4
  run : t__law_some (endS W R) (envAt 5 ds) c
theorem l__law_some (ds : List D) (c : Nat) (W : WD) (R : D → Nat → Prop) (h : pf__law_some ds c W R) : ds.length = 4 := h.1
theorem q__law_some (ds : List D) (c : Nat) (W : WD) (R : D → Nat → Prop) (h : pf__law_some ds c W R) : t__law_some (endS W R) (envAt 5 ds) c := h.2
/-! ### _law_no_poly -/
abbrev n__law_no_poly : List Str := ["_law_state", "_law_prime_here", "_law_told", "_law_spot", "_law_i", "_law_j", "_law_number", "_law_some_here", "_law_term", "_law_item"]
abbrev p__law_no_poly : List Str := ["_law_state", "_law_prime_here"]
def t__law_no_poly : TSD :=
  (tSeqD (tSetD 2 (tDrawn pf__law_some (tConsD (tVarD 0) (tConsD (tVarD 1) (tConsD (tCD (.int 3)) (tConsD (tCD (.int 3)) tNilD))))))
  (tSeqD (tSetD 3 (tDrawn pf__law_draw (tConsD (tVarD 0) (tConsD (tCallD lenD (tConsD (tVarB 2) tNilD)) tNilD))))
  (tSeqD (tTgD (.tup [4, 5, 6]) (tOpD ixD (tVarB 2) (tVarB 3)))
  (tSeqD (tSetO 7 (tLstD (tConsD (tTupD (tConsD (tVarD 4) (tConsD (tVarD 5) (tConsD (tCD (.int 0)) tNilD)))) (tConsD (tTupD (tConsD (tVarD 4) (tConsD (tVarD 5) (tConsD (tVarD 1) tNilD)))) (tConsD (tTupD (tConsD (tVarD 4) (tConsD (tVarD 5) (tConsD (tUnD negD (tCD (.int 1))) tNilD)))) (tConsD (tTupD (tConsD (tUnD negD (tCD (.int 1))) (tConsD (tVarD 5) (tConsD (tVarD 6) tNilD)))) (tConsD (tTupD (tConsD (tCD (.int 1000)) (tConsD (tVarD 5) (tConsD (tVarD 6) tNilD)))) (tConsD (tTupD (tConsD (tVarD 4) (tConsD (tCD (.int 1000)) (tConsD (tVarD 6) tNilD)))) (tConsD (tTupD (tConsD (tVarD 4) (tConsD (tVarD 5) tNilD))) (tConsD (tTupD (tConsD (tVarD 4) (tConsD (tVarD 5) (tConsD (tVarD 6) (tConsD (tCD (.int 0)) tNilD))))) tNilD))))))))))
  (tSeqD (tSetO 7 (tLcDD (.one 8) [8] (tItD (tOpD addD (tVarB 7) (tLstD (tConsD (tLstD (tConsD (tVarD 4) (tConsD (tVarD 5) (tConsD (tVarD 6) tNilD)))) (tConsD (tCD .non) (tConsD (tTupD (tConsD (tVarD 4) (tConsD (tVarD 5) (tConsD (tCD (.bl true)) tNilD)))) (tConsD (tTupD (tConsD (tVarD 4) (tConsD (tVarD 5) (tConsD (tCD (.str "1")) tNilD)))) (tConsD (tTupD (tConsD (tCD .non) (tConsD (tVarD 5) (tConsD (tVarD 6) tNilD)))) tNilD)))))))) tYesD (tOpD addD (tOpD addD (tSlD (tVarB 2) tNoPartD (tPartD (tVarD 3))) (tTupD (tConsD (tVarD 8) tNilD))) (tSlD (tVarB 2) (tPartD (tOpD addD (tVarB 3) (tCD (.int 1)))) tNoPartD))))
  (tSeqD (tIfSD (tTestD (tOpD ltD (tVarB 4) (tCD (.int 2))))
  (tAppD 7 (tOpD addD (tOpD addD (tSlD (tVarB 2) tNoPartD (tPartD (tVarD 3))) (tTupD (tConsD (tTupD (tConsD (tOpD eqD (tVarB 4) (tCD (.int 1))) (tConsD (tVarD 5) (tConsD (tVarD 6) tNilD)))) tNilD))) (tSlD (tVarB 2) (tPartD (tOpD addD (tVarB 3) (tCD (.int 1)))) tNoPartD)))
  tNextD)
  (tSeqD (tSetD 7 (tOpD addD (tVarB 7) (tLstD (tConsD (tCallD listD (tConsD (tVarB 2) tNilD)) (tConsD (tOpD addD (tVarB 2) (tSlD (tVarB 2) (tPartD (tUnD negD (tCD (.int 1)))) tNoPartD)) (tConsD (tIfD (tTestD (tOpD eqD (tCallD lenD (tConsD (tVarB 2) tNilD)) (tCD (.int 1)))) (tOpD addD (tTupD (tConsD (tOpD ixD (tVarB 2) (tUnD negD (tCD (.int 1)))) tNilD)) (tSlD (tVarB 2) tNoPartD (tPartD (tCD (.int 1))))) (tRevT (tVarB 2))) (tConsD (tCD .non) (tConsD (tCD (.int 0)) (tConsD (tCD (.str "x")) (tConsD (tCD (.dic false [] [])) (tConsD (tTupD (tConsD (tCD (.int 0)) tNilD)) tNilD)))))))))))
  (tRetD (tDrawn pf__law_pick (tConsD (tVarD 0) (tConsD (tLcDD (.one 9) [9] (tItD (tVarD 7)) (tNotD (tTruD (tCallP pf__law_is_poly (tConsD (tVarD 1) (tConsD (tVarD 9) tNilD))))) (tVarD 9)) tNilD)))))))))))
structure pf__law_no_poly (ds : List D) (c : Nat) (W : WD) (R : D → Nat → Prop) : Prop where
  len : ds.length = 2
  run : t__law_no_poly (endS W R) (envAt 10 ds) c
theorem l__law_no_poly (ds : List D) (c : Nat) (W : WD) (R : D → Nat → Prop) (h : pf__law_no_poly ds c W R) : ds.length = 2 := h.1
theorem q__law_no_poly (ds : List D) (c : Nat) (W : WD) (R : D → Nat → Prop) (h : pf__law_no_poly ds c W R) : t__law_no_poly (endS W R) (envAt 10 ds) c := h.2
end KC
set_option Elab.async false
set_option linter.all false
set_option maxRecDepth 100000
set_option maxHeartbeats 1000000
namespace KC
open PySem PySem.Spec L2 DL
/-! ### is_between, need_prime, is_term -/
def between (d : D) (lo hi : Int) : Bool := match d with
  | .int i => decide (lo ≤ i) && decide (i ≤ hi)
  | _ => false
theorem between_int (i lo hi : Int) : between (.int i) lo hi = (decide (lo ≤ i) && decide (i ≤ hi)) := rfl
theorem between_of {d : D} {lo hi : Int} (h : between d lo hi = true) : ∃ i, d = .int i ∧ lo ≤ i ∧ i ≤ hi := by
  cases d with
  | int i => rw [between_int, Bool.and_eq_true, decide_eq_true_eq, decide_eq_true_eq] at h; exact ⟨i, rfl, h⟩
  | _ => cases h
theorem s_is_between {d : D} {lo hi : Int} {W R : D → Prop} (ht : tyd d = true) (hR : R (.bl (between d lo hi))) : pf_is_between [d, .int lo, .int hi] W R := by
  refine ⟨rfl, ?_⟩
  cases d with
  | int i =>
    by_cases h : lo ≤ i
    · simpa [t_is_between, isTy, tyN_some, between, h] using hR
    · simpa [t_is_between, isTy, tyN_some, between, h] using hR
  | _ => first | (simp [tyd, tyN] at ht; done) | simpa [t_is_between, isTy, tyN_some, between] using hR
def isPrm (d : D) : Bool := match d with
  | .int i => decide (i = 2) || decide (i = 3) || decide (i = 5) || decide (i = 7)
  | _ => false
theorem s_need_prime {d : D} {W R : D → Prop} (ht : tyd d = true) (hR : if isPrm d = true then R .non else W (.exc "BadPrime" [])) : pf_need_prime [d] W R := by
  refine ⟨rfl, ?_⟩
  simp [t_need_prime]
  refine s_is_between ht ?_
  by_cases hb : between d 2 7 = true
  · simp [hb]
    cases d with
    | int i =>
      rw [between, Bool.and_eq_true, decide_eq_true_eq, decide_eq_true_eq] at hb
      simp
      by_cases e2 : i = 2
      · subst e2; simpa [isPrm] using hR
      · by_cases e3 : i = 3
        · subst e3; simpa [isPrm] using hR
        · by_cases e5 : i = 5
          · subst e5; simpa [isPrm] using hR
          · by_cases e7 : i = 7
            · subst e7; simpa [isPrm] using hR
            · rw [if_pos ⟨Ne.symm e2, Ne.symm e3, Ne.symm e5, Ne.symm e7⟩]
              simpa [isPrm, e2, e3, e5, e7] using hR
    | _ => simp [between] at hb
  · simp [hb]
    cases d with
    | int i =>
      have n2 : i ≠ 2 := fun e => by subst e; simp [between] at hb
      have n3 : i ≠ 3 := fun e => by subst e; simp [between] at hb
      have n5 : i ≠ 5 := fun e => by subst e; simp [between] at hb
      have n7 : i ≠ 7 := fun e => by subst e; simp [between] at hb
      simpa [isPrm, n2, n3, n5, n7] using hR
    | _ => simpa [isPrm] using hR
def isTerm (p : Int) (d : D) : Bool := match d with
  | .tup [i, j, c] => between c 1 (p - 1) && between i 0 999 && between j 0 999
  | _ => false
theorem isTerm_of {p : Int} {d : D} (h : isTerm p d = true) : ∃ i j c : Int, d = .tup [.int i, .int j, .int c] ∧ 0 ≤ i ∧ i ≤ 999 ∧ 0 ≤ j ∧ j ≤ 999 ∧ 1 ≤ c ∧ c ≤ p - 1 := by
  unfold isTerm at h
  split at h
  · rw [Bool.and_eq_true, Bool.and_eq_true] at h
    obtain ⟨⟨h1, h2⟩, h3⟩ := h
    obtain ⟨c, rfl, c1, c2⟩ := between_of h1
    obtain ⟨i, rfl, i1, i2⟩ := between_of h2
    obtain ⟨j, rfl, j1, j2⟩ := between_of h3
    exact ⟨i, j, c, rfl, i1, i2, j1, j2, c1, c2⟩
  · cases h
/-- isinstance tells the type, and in a tuple the items' types -/
def tyd1 (d : D) : Bool := tyd d && match d with
  | .tup ds => ds.all tyd
  | _ => true
theorem tyd1_tyd {d : D} (h : tyd1 d = true) : tyd d = true := by
  unfold tyd1 at h; rw [Bool.and_eq_true] at h; exact h.1
theorem s_is_term {p : Int} {d : D} {W R : D → Prop} (ht : tyd1 d = true) (hR : R (.bl (isTerm p d))) : pf_is_term [.int p, d] W R := by
  refine ⟨rfl, ?_⟩
  have ht1 := tyd1_tyd ht
  cases d with
  | tup ds =>
    have ha : ds.all tyd = true := by simpa [tyd1] using ht
    match ds, ha, hR with
    | [a, b, e], ha, hR =>
      simp at ha
      simp [t_is_term, tyN_some]
      refine s_is_between ha.2.2 ?_
      simp only [isTerm] at hR
      by_cases h1 : between e 1 (p - 1) = true
      · simp [h1]
        refine s_is_between ha.1 ?_
        by_cases h2 : between a 0 999 = true
        · simp [h2]
          refine s_is_between ha.2.1 ?_
          simpa [h1, h2] using hR
        · simpa [h1, h2] using hR
      · simpa [h1] using hR
    | [], _, hR => simpa [t_is_term, tyN_some, isTerm] using hR
    | [_], _, hR => simpa [t_is_term, tyN_some, isTerm] using hR
    | [_, _], _, hR => simpa [t_is_term, tyN_some, isTerm] using hR
    | a :: b :: e :: f :: r, _, hR =>
      have n3 : ¬ (r.length : Int) + 1 + 1 + 1 + 1 = 3 := by omega
      simpa [t_is_term, tyN_some, n3, isTerm] using hR
  | _ => first | (simp [tyd, tyN] at ht1; done) | simpa [t_is_term, isTy, tyN_some, isTerm] using hR
/-! ### polys -/
/-- the first of a pair is below the second, both terms -/
def lowP (a b : D) : Bool := match a, b with
  | .tup (.int i :: .int j :: _), .tup (.int k :: .int l :: _) => HT.lexLt [i, j] [k, l]
  | _, _ => false
def risingP : List D → Bool
  | a :: b :: r => lowP a b && risingP (b :: r)
  | _ => true
def isPolyD (p : Int) (d : D) : Bool := match d with
  | .tup ds => ds.all (isTerm p) && risingP ds
  | _ => false
/-- isinstance tells the types, to the second level -/
def tyd2 (d : D) : Bool := tyd d && match d with
  | .tup ds => ds.all tyd1
  | _ => true
theorem tyd2_tyd {d : D} (h : tyd2 d = true) : tyd d = true := by
  unfold tyd2 at h; rw [Bool.and_eq_true] at h; exact h.1
/-- a value that is judged: types told, not too long -/
def judge (d : D) : Prop := tyd2 d = true ∧ ∀ ds, d = .tup ds → ds.length ≤ 1000000
theorem blsD_bl (f : D → Bool) (ds : List D) : blsD (ds.map fun d => D.bl (f d)) = some (ds.map f) := by
  have := blsD_map (ds.map f)
  rwa [List.map_map] at this
/-- neighbours -/
def nbs (ds : List D) : List D := List.zipWith pairD ds (ds.drop 1)
def lowN (d : D) : Bool := match d with
  | .tup [a, b] => lowP a b
  | _ => false
theorem nbs_low : ∀ ds : List D, (nbs ds).all lowN = risingP ds
  | [] => rfl
  | [_] => rfl
  | a :: b :: r => by
    have ih := nbs_low (b :: r)
    simp only [nbs, List.drop_succ_cons, List.drop_zero, List.zipWith_cons_cons, List.all_cons, risingP, pairD, lowN] at ih ⊢
    rw [← ih]
theorem nbs_mem {ds : List D} {d : D} (h : d ∈ nbs ds) : ∃ a b, d = .tup [a, b] ∧ a ∈ ds ∧ b ∈ ds := by
  unfold nbs at h
  obtain ⟨i, hi⟩ := List.getElem?_of_mem h
  rw [List.getElem?_zipWith_eq_some] at hi
  obtain ⟨a, b, h1, h2, h3⟩ := hi
  exact ⟨a, b, h3.symm, List.mem_of_getElem? h1, List.mem_of_mem_drop (List.mem_of_getElem? h2)⟩
theorem cut1 (ds : List D) : cutD ds (some 1) none = ds.drop 1 := by
  cases ds with
  | nil => rfl
  | cons a r => simp [cutD, HT.sIx]
theorem s_polys_right {p : Int} {d : D} {W R : D → Prop} (hj : judge d) (hR : R (.bl (isPolyD p d))) : pf_polys_right [.int p, d] W R := by
  refine ⟨rfl, ?_⟩
  obtain ⟨ht, hl⟩ := hj
  have ht1 := tyd2_tyd ht
  cases d with
  | tup ds =>
    have hd := hl ds rfl
    have ha : ∀ x ∈ ds, tyd1 x = true := by simpa [tyd2] using ht
    simp [t_polys_right, tyN_some]
    refine lc_map (fun x => .bl (isTerm p x)) ds [] (by rw [sizeLine_eq]; simp; omega) (fun x hx k1 hk => ?_) ?_
    · simp
      exact s_is_term (ha x hx) hk
    · simp [blsD_bl]
      by_cases h1 : ∀ x ∈ ds, isTerm p x = true
      · rw [if_pos h1, cut1]
        refine lc_map (fun x => .bl (lowN x)) (nbs ds) [] (by rw [sizeLine_eq]; simp [nbs]; omega) (fun x hx k1 hk => ?_) ?_
        · obtain ⟨a, b, rfl, ha1, hb1⟩ := nbs_mem hx
          obtain ⟨i, j, e, rfl, _⟩ := isTerm_of (h1 _ ha1)
          obtain ⟨k, l, e2, rfl, _⟩ := isTerm_of (h1 _ hb1)
          simpa [DL.cutD, HT.sIx, lowN, lowP] using hk
        · simp [blsD_bl]
          have e : isPolyD p (.tup ds) = true ↔ ∀ x ∈ nbs ds, lowN x = true := by
            simp only [isPolyD, Bool.and_eq_true, List.all_eq_true, ← nbs_low]
            exact ⟨fun z => z.2, fun z => ⟨h1, z⟩⟩
          have e2 : isPolyD p (.tup ds) = (nbs ds).all lowN := by
            rw [Bool.eq_iff_iff, e, List.all_eq_true]
          rwa [e2] at hR
      · rw [if_neg h1]
        have e : isPolyD p (.tup ds) = false := by
          rw [Bool.eq_false_iff]
          intro z
          simp only [isPolyD, Bool.and_eq_true, List.all_eq_true] at z
          exact h1 z.1
        rwa [e] at hR
  | _ => first | (simp [tyd, tyN] at ht1; done) | simpa [t_polys_right, isTy, tyN_some, isPolyD] using hR
theorem s_is_poly {q d : D} {W R : D → Prop} (hq : tyd q = true) (hj : judge d) (hR : if isPrm q = true then (match q with | .int p => R (.bl (isPolyD p d)) | _ => True) else W (.exc "BadPrime" [])) : pf_is_poly [q, d] W R := by
  refine ⟨rfl, ?_⟩
  simp [t_is_poly]
  refine s_need_prime hq ?_
  by_cases h : isPrm q = true
  · rw [if_pos h] at hR ⊢
    cases q with
    | int p => exact s_polys_right hj hR
    | _ => cases h
  · rw [if_neg h] at hR ⊢
    exact hR
/-! ### draws -/
theorem s__law_pick {ds : List D} {c : Nat} {W : WD} {R : D → Nat → Prop} (hc : c < cap) (h0 : ds ≠ []) (h1 : ds.length < 1073741824) (h : ∀ d ∈ ds, R d (c + 1)) : pf__law_pick [.st, .lst ds] c W R := by
  refine ⟨rfl, ?_⟩
  have hp : 0 < ds.length := List.length_pos_iff.mpr h0
  simp [t__law_pick]
  refine draw_ok hc hp h1 fun v hv => ?_
  have e := atI_nat (List.getElem?_eq_getElem hv)
  simp [e]
  exact h _ (List.getElem_mem hv)
theorem s__law_pickT {ds : List D} {c : Nat} {W : WD} {R : D → Nat → Prop} (hc : c < cap) (h0 : ds ≠ []) (h1 : ds.length < 1073741824) (h : ∀ d ∈ ds, R d (c + 1)) : pf__law_pick [.st, .tup ds] c W R := by
  refine ⟨rfl, ?_⟩
  have hp : 0 < ds.length := List.length_pos_iff.mpr h0
  simp [t__law_pick]
  refine draw_ok hc hp h1 fun v hv => ?_
  have e := atI_nat (List.getElem?_eq_getElem hv)
  simp [e]
  exact h _ (List.getElem_mem hv)
theorem s__law_odd {c : Nat} {W : WD} {R : D → Nat → Prop} (hc : c < cap) (h : ∀ d ∈ ([.non, .bl true, .bl false, .str "0", .str "", .lst [], .dic false [] [], .tup [.non], .tup [.str "a", .int 1], .lst [.lst [.int 0]], .dic false [.int 0] [.int 0], .tup [.bl true], .int 5, .int (-1)] : List D), R d (c + 1)) : pf__law_odd [.st] c W R := by
  refine ⟨rfl, ?_⟩
  simp [t__law_odd]
  exact s__law_pick hc (by simp) (by simp) h
theorem s__law_prime {c : Nat} {W : WD} {R : D → Nat → Prop} (hc : c < cap) (h : ∀ p : Int, (p = 2 ∨ p = 3 ∨ p = 5 ∨ p = 7) → R (.int p) (c + 1)) : pf__law_prime [.st] c W R := by
  refine ⟨rfl, ?_⟩
  simp [t__law_prime]
  refine s__law_pick hc (by simp) (by simp) fun d hd => ?_
  simp at hd
  rcases hd with rfl | rfl | rfl | rfl
  · exact h 2 (by simp)
  · exact h 3 (by simp)
  · exact h 5 (by simp)
  · exact h 7 (by simp)
def noPrimes : List D := [.non, .int 0, .int 1, .int 4, .int 6, .int 8, .int 9, .int 11, .int (-2), .bl true, .str "2", .tup [.int 2], .lst [.int 3], .dic false [] [], .int 999999937]
theorem s__law_no_prime {c : Nat} {W : WD} {R : D → Nat → Prop} (hc : c < cap) (h : ∀ d ∈ noPrimes, R d (c + 1)) : pf__law_no_prime [.st] c W R := by
  refine ⟨rfl, ?_⟩
  exact (show 1 ≤ 1000 ∧ 1 ≤ 1000 ∧ 15 ≤ 1000 ∧ pf__law_pick [.st, .lst noPrimes] c (fun d c1 => W d c1) (fun d c1 => R d c1) from ⟨by decide, by decide, by decide, s__law_pick hc (by unfold noPrimes; exact List.cons_ne_nil _ _) (by decide) h⟩)
theorem noPrimes_ok {d : D} (h : d ∈ noPrimes) : tyd d = true ∧ isPrm d = false := by
  simp [noPrimes] at h
  rcases h with rfl | rfl | rfl | rfl | rfl | rfl | rfl | rfl | rfl | rfl | rfl | rfl | rfl | rfl | rfl <;> exact ⟨rfl, by simp [isPrm]⟩
theorem s__law_is_whole {d : D} {W R : D → Prop} (ht : tyd d = true) (hR : R (.bl (match d with | .int _ => true | _ => false))) : pf__law_is_whole [d] W R := by
  refine ⟨rfl, ?_⟩
  cases d with
  | _ => first | (simp [tyd, tyN] at ht; done) | simpa [t__law_is_whole, isTy, tyN_some] using hR
theorem s__law_is_from {d : D} {lo hi : Int} {W R : D → Prop} (ht : tyd d = true) (hR : R (.bl (between d lo hi))) : pf__law_is_from [d, .int lo, .int hi] W R := by
  refine ⟨rfl, ?_⟩
  simp [t__law_is_from]
  refine s__law_is_whole ht ?_
  cases d with
  | int i =>
    by_cases h : lo ≤ i
    · simpa [between, h] using hR
    · simpa [between, h] using hR
  | _ => simpa [between] using hR
theorem s__law_mixed {ds : List D} {c : Nat} {W : WD} {R : D → Nat → Prop} (hc : c + ds.length < cap) (hl : ds.length < 1000000) (hd : ds.all (deepD 63) = true) (h : ∀ es : List D, es.Perm ds → R (.lst es) (c + ds.length)) : pf__law_mixed [.st, .lst ds] c W R := by
  refine ⟨rfl, ?_⟩
  simp [t__law_mixed]
  refine ⟨fun m env c' => ∃ left found : List D, env = [.val .st, .val (.lst ds), .own (.lst left), .own (.lst found)] ∧ (found ++ left).Perm ds ∧ c' = c + found.length ∧ m = left.length, ⟨_, ds, [], rfl, by simp, by simp, rfl⟩, ?_⟩
  rintro m env c' ⟨left, found, rfl, hp, rfl, rfl⟩
  have hlen : found.length + left.length = ds.length := by rw [← hp.length_eq, List.length_append]
  have hall : ∀ x ∈ left, deepD 63 x = true := fun x hx => List.all_eq_true.mp hd x (hp.subset (List.mem_append_right _ hx))
  simp
  refine ⟨hall, ?_⟩
  rw [eqvL_nil]
  by_cases he : left = []
  · subst he
    simp
    have z := h found (by simpa using hp)
    have e : found.length = ds.length := by simpa using hlen
    rw [e]
    exact z
  · have hpos : 0 < left.length := List.length_pos_iff.mpr he
    simp [he]
    refine draw_ok (by omega) hpos (by omega) fun v hv => ?_
    simp
    refine ⟨by omega, v, by unfold seqIndex?; simp; omega, left[v], List.getElem?_eq_getElem hv, by rw [sizeLine_eq]; omega, left.length - 1, by omega, left.eraseIdx v, found ++ [left[v]], ⟨rfl, rfl⟩, ?_, by simp; omega, by rw [List.length_eraseIdx_of_lt hv]⟩
    refine List.Perm.trans ?_ hp
    rw [List.append_assoc]
    refine List.Perm.append_left found ?_
    have e : ∀ (l : List D) (i : Nat) (hi : i < l.length), (l.eraseIdx i ++ [l[i]]).Perm l ∧ (l[i] :: l.eraseIdx i).Perm l := by
      intro l
      induction l with
      | nil => intro i hi; simp at hi
      | cons a r ih =>
        intro i hi
        cases i with
        | zero => exact ⟨List.perm_append_comm, List.Perm.refl _⟩
        | succ i =>
          have z := (ih i (by simpa using hi)).2
          have z2 : ((a :: r)[i + 1] :: (a :: r).eraseIdx (i + 1)).Perm (a :: r) := (List.Perm.swap _ _ _).trans (List.Perm.cons a z)
          exact ⟨List.perm_append_comm.trans z2, z2⟩
    exact (e left v hv).2
theorem isPolyD_not {p : Int} {ds : List D} {x : D} (hx : x ∈ ds) (h : isTerm p x = false) : isPolyD p (.tup ds) = false := by
  rw [Bool.eq_false_iff]
  intro z
  simp only [isPolyD, Bool.and_eq_true, List.all_eq_true] at z
  rw [z.1 x hx] at h
  cases h
theorem isPolyD_all {p : Int} {ds : List D} (h : ∀ x ∈ ds, isTerm p x = true) : isPolyD p (.tup ds) = (nbs ds).all lowN := by
  have e : ds.all (isTerm p) = true := List.all_eq_true.mpr h
  simp only [isPolyD, e, nbs_low, Bool.true_and]
theorem filter_one {α : Type} (q : α → Bool) (ds : List α) : (eqvL ((ds.filter q).map fun _ => D.int 1) []) = ds.all fun x => !q x := by
  rw [eqvL_nil]
  induction ds with
  | nil => rfl
  | cons a r ih =>
    by_cases h : q a = true
    · rw [List.filter_cons_of_pos h]; simp [h]
    · rw [List.filter_cons_of_neg h, ih]; simp [h]
theorem s__law_is_poly {p : Int} {d : D} {W R : D → Prop} (hj : judge d) (hR : R (.bl (isPolyD p d))) : pf__law_is_poly [.int p, d] W R := by
  refine ⟨rfl, ?_⟩
  obtain ⟨ht, hl⟩ := hj
  have ht1 := tyd2_tyd ht
  cases d with
  | tup ds =>
    have hd := hl ds rfl
    have ha : ∀ x ∈ ds, tyd1 x = true := by simpa [tyd2] using ht
    simp [t__law_is_poly, tyN_some]
    refine loop_inv (fun rest env c => c = 0 ∧ ∃ s2 pre, env = [.val (.int p), .val (.tup ds), s2, .un, .un] ∧ ds = pre ++ rest ∧ ∀ x ∈ pre, isTerm p x = true) ?_ ?_ ds _ 0 ⟨rfl, .un, [], rfl, rfl, by simp⟩
    · rintro x rest N hN env c ⟨rfl, s2, pre, rfl, e, hp⟩
      have hx : x ∈ ds := by rw [e]; simp
      have hax := ha x hx
      have hax1 := tyd1_tyd hax
      have bad : isTerm p x = false → R (.bl false) := fun hb => by rwa [isPolyD_not hx hb] at hR
      have good : isTerm p x = true → N [.val (.int p), .val (.tup ds), .val x, .un, .un] 0 := fun hb => hN _ _ ⟨rfl, .val x, pre ++ [x], rfl, by simp [e], fun y hy => by
        rw [List.mem_append, List.mem_singleton] at hy
        rcases hy with hy | rfl
        · exact hp y hy
        · exact hb⟩
      cases x with
      | tup ts =>
        have hts : ts.all tyd = true := by simpa [tyd1] using hax
        match ts, hts, bad, good with
        | [a, b, e], hts, bad, good =>
          simp at hts
          simp [tyN_some]
          refine s__law_is_from hts.2.2 ?_
          simp only [isTerm] at bad good
          by_cases h1 : between e 1 (p - 1) = true
          · simp [h1]
            refine s__law_is_from hts.1 ?_
            by_cases h2 : between a 0 999 = true
            · simp [h2]
              refine s__law_is_from hts.2.1 ?_
              by_cases h3 : between b 0 999 = true
              · simpa [h1, h2, h3] using good
              · simpa [h1, h2, h3] using bad
            · simpa [h1, h2] using bad
          · simpa [h1] using bad
        | [], _, bad, _ => simpa [tyN_some, isTerm] using bad
        | [_], _, bad, _ => simpa [tyN_some, isTerm] using bad
        | [_, _], _, bad, _ => simpa [tyN_some, isTerm] using bad
        | a :: b :: e :: f :: r, _, bad, _ =>
          have n3 : ¬ (r.length : Int) + 1 + 1 + 1 + 1 = 3 := by omega
          simpa [tyN_some, n3, isTerm] using bad
      | _ => first | (simp [tyd, tyN] at hax1; done) | simpa [isTy, tyN_some, isTerm] using bad
    · rintro env c ⟨rfl, s2, pre, rfl, e, hp⟩
      rw [List.append_nil] at e
      subst e
      simp [cut1]
      rw [← List.drop_one]
      refine lc_pure (fun x => !lowN x) (fun _ => .int 1) (nbs ds) [] (by rw [sizeLine_eq]; simp [nbs]; omega) (fun x hx k0 k1 hk => ?_) ?_
      · obtain ⟨a, b, rfl, ha1, hb1⟩ := nbs_mem hx
        obtain ⟨i, j, e, rfl, _⟩ := isTerm_of (hp _ ha1)
        obtain ⟨k, l, e2, rfl, _⟩ := isTerm_of (hp _ hb1)
        simpa [DL.cutD, HT.sIx, lowN, lowP] using hk
      · simp
        rw [filter_one]
        rw [isPolyD_all hp] at hR
        simpa using hR
  | _ => first | (simp [tyd, tyN] at ht1; done) | simpa [t__law_is_poly, isTy, tyN_some, isPolyD] using hR
/-! ### polys as lists of triples -/
abbrev T3 := Int × Int × Int
def encT (t : T3) : D := .tup [.int t.1, .int t.2.1, .int t.2.2]
def encP (ts : List T3) : D := .tup (ts.map encT)
def ltT (a b : T3) : Prop := a.1 < b.1 ∨ (a.1 = b.1 ∧ a.2.1 < b.2.1)
/-- a term with powers up to mx, my -/
def okT (p mx my : Int) (t : T3) : Prop := 0 ≤ t.1 ∧ t.1 ≤ mx ∧ 0 ≤ t.2.1 ∧ t.2.1 ≤ my ∧ 1 ≤ t.2.2 ∧ t.2.2 ≤ p - 1
def GoodP (p mx my : Int) (ts : List T3) : Prop := (∀ t ∈ ts, okT p mx my t) ∧ ts.Pairwise ltT
theorem ltT_trans {a b c : T3} (h : ltT a b) (k : ltT b c) : ltT a c := by
  unfold ltT at *; omega
theorem isTerm_enc {p : Int} {t : T3} : isTerm p (encT t) = true ↔ okT p 999 999 t := by
  simp [isTerm, encT, between, okT]; omega
theorem lowP_enc {a b : T3} : lowP (encT a) (encT b) = true ↔ ltT a b := by
  obtain ⟨a1, a2, a3⟩ := a
  obtain ⟨b1, b2, b3⟩ := b
  simp only [lowP, encT, HT.lexLt, ltT]
  by_cases h : a1 = b1
  · simp [h]; omega
  · simp [h]
theorem rising_enc : ∀ {ts : List T3}, risingP (ts.map encT) = true ↔ ts.Pairwise ltT
  | [] => by simp [risingP]
  | [_] => by simp [risingP]
  | a :: b :: r => by
    have ih := rising_enc (ts := b :: r)
    simp only [List.map_cons, risingP, Bool.and_eq_true, lowP_enc] at ih ⊢
    rw [ih, List.pairwise_cons (l := b :: r)]
    constructor
    · rintro ⟨h1, h2⟩
      refine ⟨fun c hc => ?_, h2⟩
      rcases List.mem_cons.mp hc with rfl | hc
      · exact h1
      · exact ltT_trans h1 ((List.pairwise_cons.mp h2).1 c hc)
    · rintro ⟨h1, h2⟩
      exact ⟨h1 b (List.mem_cons_self ..), h2⟩
theorem isPoly_enc {p : Int} {ts : List T3} : isPolyD p (encP ts) = true ↔ GoodP p 999 999 ts := by
  unfold encP isPolyD GoodP
  rw [Bool.and_eq_true, rising_enc, List.all_eq_true]
  simp only [List.mem_map, forall_exists_index, and_imp, forall_apply_eq_imp_iff₂, isTerm_enc]
theorem poly_of_is {p : Int} {d : D} (h : isPolyD p d = true) : ∃ ts, d = encP ts ∧ GoodP p 999 999 ts := by
  cases d with
  | tup ds =>
    have h0 := h
    simp only [isPolyD, Bool.and_eq_true, List.all_eq_true] at h
    have : ∃ ts : List T3, ds = ts.map encT := by
      clear h0
      obtain ⟨h, -⟩ := h
      induction ds with
      | nil => exact ⟨[], rfl⟩
      | cons a r ih =>
        obtain ⟨ts, rfl⟩ := ih fun x hx => h x (List.mem_cons_of_mem _ hx)
        obtain ⟨i, j, c, rfl, _⟩ := isTerm_of (h a (List.mem_cons_self ..))
        exact ⟨(i, j, c) :: ts, rfl⟩
    obtain ⟨ts, rfl⟩ := this
    exact ⟨ts, rfl, isPoly_enc.mp h0⟩
  | _ => cases h
theorem GoodP.mono {p mx my nx ny : Int} {ts : List T3} (h : GoodP p mx my ts) (hx : mx ≤ nx) (hy : my ≤ ny) : GoodP p nx ny ts :=
  ⟨fun t ht => by have z := h.1 t ht; unfold okT at *; omega, h.2⟩
theorem GoodP.nil {p mx my : Int} : GoodP p mx my [] := ⟨by simp, .nil⟩
theorem GoodP.sub {p mx my : Int} {ts us : List T3} (h : GoodP p mx my ts) (s : us.Sublist ts) : GoodP p mx my us := ⟨fun t ht => h.1 t (s.subset ht), h.2.sublist s⟩
theorem tyd1_enc (t : T3) : tyd1 (encT t) = true := rfl
theorem judge_enc {ts : List T3} (h : ts.length ≤ 1000000) : judge (encP ts) := by
  refine ⟨?_, fun ds e => ?_⟩
  · simp [tyd2, encP, tyd1_enc]
  · unfold encP at e; cases e; rwa [List.length_map]
/-- the length of a poly is bounded by its powers -/
theorem deep_enc (n : Nat) (t : T3) : deepD (n + 1) (encT t) = true := by simp [encT]
theorem shaped_encP (ts : List T3) : shapedD (encP ts) = true := by
  simp [encP, deep_enc]
theorem deep_encP (n : Nat) (ts : List T3) : deepD (n + 2) (encP ts) = true := by
  simp [encP, deep_enc]
/-! ### drawn polys -/
def colL (i : Int) (n : Nat) : List (Int × Int) := (List.range n).map fun (j : Nat) => (i, (j : Int))
def gridL (m n : Nat) : List (Int × Int) := (List.range m).flatMap fun (i : Nat) => colL i n
theorem colL_nodup (i : Int) (n : Nat) : (colL i n).Nodup := by
  unfold colL
  rw [List.nodup_iff_pairwise_ne, List.pairwise_map]
  exact List.nodup_range.imp fun {a b} h e => h (by have z : (a : Int) = b := (Prod.mk.inj e).2; omega)
theorem mem_gridL {m n : Nat} {q : Int × Int} : q ∈ gridL m n ↔ 0 ≤ q.1 ∧ q.1 < m ∧ 0 ≤ q.2 ∧ q.2 < n := by
  simp only [gridL, colL, List.mem_flatMap, List.mem_range, List.mem_map]
  constructor
  · rintro ⟨i, hi, j, hj, rfl⟩
    simp; omega
  · rintro ⟨h1, h2, h3, h4⟩
    refine ⟨q.1.toNat, by omega, q.2.toNat, by omega, ?_⟩
    ext <;> simp <;> omega
theorem gridL_succ (m n : Nat) : gridL (m + 1) n = gridL m n ++ colL m n := by
  simp [gridL, List.range_succ]
theorem gridL_nodup (m n : Nat) : (gridL m n).Nodup := by
  induction m with
  | zero => simp [gridL]
  | succ m ih =>
    rw [gridL_succ, List.nodup_append]
    refine ⟨ih, colL_nodup _ _, fun a ha b hb e => ?_⟩
    subst e
    have z := mem_gridL.mp ha
    simp only [colL, List.mem_map, List.mem_range] at hb
    obtain ⟨j, _, rfl⟩ := hb
    simp at z
theorem gridL_length (m n : Nat) : (gridL m n).length = m * n := by
  induction m with
  | zero => simp [gridL]
  | succ m ih => rw [gridL_succ, List.length_append, ih]; simp [colL, Nat.succ_mul]
theorem pD_deep (q : Int × Int) (n : Nat) : deepD (n + 1) (pD q) = true := by simp [pD]
theorem col_eq (k : Int) (n : Nat) : ((rngD 0 1 n).map fun y => D.tup [.int k, y]) = (colL k n).map pD := by
  rw [rng_eq]
  simp [colL, pD]
def unpD : D → Int × Int
  | .tup [.int a, .int b] => (a, b)
  | _ => (0, 0)
theorem perm_pD {es : List D} {ps : List (Int × Int)} (h : es.Perm (ps.map pD)) : ∃ qs : List (Int × Int), es = qs.map pD ∧ qs.Perm ps := by
  refine ⟨es.map unpD, ?_, ?_⟩
  · rw [List.map_map]
    refine (List.map_id es).symm.trans (List.map_congr_left fun d hd => ?_)
    obtain ⟨q, _, rfl⟩ := List.mem_map.mp (h.subset hd)
    rfl
  · have z := h.map unpD
    rw [List.map_map] at z
    have e : (unpD ∘ pD) = id := by funext q; rfl
    rwa [e, List.map_id] at z
theorem cut_take (ds : List D) (n : Nat) : cutD ds none (some (n : Int)) = ds.take n := by
  simp only [cutD, HT.sIx_nat, HT.sIx_none, List.drop_zero, Nat.sub_zero]
  rw [Nat.min_comm, List.take_eq_take_iff]
  omega
theorem nodup_pairwise {qs ps : List (Int × Int)} (hp : qs.Perm ps) (hn : ps.Nodup) (hs : qs.Pairwise fun a b => SrtO.lexB b a = false) : qs.Pairwise fun a b => SrtO.lexB a b = true := by
  have hn' : qs.Nodup := (hp.nodup_iff).mpr hn
  rw [List.nodup_iff_pairwise_ne] at hn'
  refine (hs.and hn').imp fun {a b} ⟨h1, h2⟩ => ?_
  have h1 : ¬ SrtO.lexB b a = true := by rw [h1]; exact Bool.false_ne_true
  rw [SrtO.lexB_iff] at h1 ⊢
  have : ¬ (a.1 = b.1 ∧ a.2 = b.2) := fun z => h2 (Prod.ext z.1 z.2)
  omega
/-- the rest of _law_poly: coefficients are drawn for sorted pairs -/
theorem poly_rest {p : Int} {mx my : Nat} {c c0 : Nat} {W : WD} {R : D → Nat → Prop} {way : Int} {s6 : Slot} {ps : List (Int × Int)} (hp : 2 ≤ p) (hp2 : p ≤ 7) (hn : ps.Nodup) (hr : ∀ q ∈ ps, 0 ≤ q.1 ∧ q.1 ≤ mx ∧ 0 ≤ q.2 ∧ q.2 ≤ my) (hl : ps.length ≤ 10000) (hc : c + 10000 ≤ c0 + 30000) (h00 : c0 ≤ c) (hcap : c0 + 30000 ≤ cap)
    (h : ∀ ts c', GoodP p mx my ts → c0 ≤ c' → c' ≤ c0 + 30000 → R (encP ts) c') :
    (tSeqD (tSetO 7 (tLcDD (.tup [6, 8]) [6, 8] (tItD (tCallD sortD (tConsD (tVarB 5) tNilD))) tYesD (tTupD (tConsD (tVarD 6) (tConsD (tVarD 8) (tConsD (tDrawn pf__law_draw (tConsD (tVarD 0) (tConsD (tVarD 1) tNilD))) tNilD))))))
      (tFrzD 7 (tRetD (tCallD tupleD (tConsD (tLcDD (.one 9) [9] (tItD (tVarD 7)) (tTestD (tOpD neD (tOpD ixD (tVarB 9) (tCD (.int 2))) (tCD (.int 0)))) (tVarD 9)) tNilD))))) (endS W R)
      [.val .st, .val (.int p), .val (.int mx), .val (.int my), .val (.int way), .val (.lst (ps.map pD)), s6, .un, .un, .un] c := by
  simp
  refine .inl ⟨ps, rfl, fun qs hq hs => ?_⟩
  have hs' := nodup_pairwise hq hn hs
  have hr' : ∀ q ∈ qs, 0 ≤ q.1 ∧ q.1 ≤ mx ∧ 0 ≤ q.2 ∧ q.2 ≤ my := fun q m => hr q (hq.subset m)
  have hl' : qs.length ≤ 10000 := by rw [hq.length_eq]; exact hl
  refine lc_inv (fun rest acc c' => ∃ (done todo : List (Int × Int)) (ts : List T3), qs = done ++ todo ∧ rest = todo.map pD ∧ acc = ts.map encT ∧ ts.map (fun t => (t.1, t.2.1)) = done ∧ (∀ t ∈ ts, 0 ≤ t.2.2 ∧ t.2.2 ≤ p - 1) ∧ c' = c + done.length) ?_ ?_ ?_ _ [] c ⟨[], qs, [], rfl, rfl, rfl, rfl, by simp, by simp⟩
  · rintro d ds acc c' ⟨done, todo, ts, e1, e2, rfl, e4, ht, rfl⟩ k0 k1 h0 h1
    cases todo with
    | nil => cases e2
    | cons q todo =>
      rw [List.map_cons] at e2
      cases e2
      have hlen : done.length + (todo.length + 1) = qs.length := by rw [e1]; simp
      simp [pD]
      refine draw_okI (by omega) (by omega) (by omega) fun v hv0 hv1 => ?_
      refine h1 _ _ ⟨done ++ [q], todo, ts ++ [(q.1, q.2, v)], by simp [e1], rfl, by simp [encT], by simp [e4], ?_, by simp; omega⟩
      intro t ht'
      rw [List.mem_append, List.mem_singleton] at ht'
      rcases ht' with ht' | rfl
      · exact ht t ht'
      · simp; omega
  · rintro ds acc c' y ⟨done, todo, ts, e1, e2, e3, e4, _⟩
    have : ts.length ≤ qs.length := by rw [e1, ← e4]; simp
    have h3 := congrArg List.length e3
    simp at h3
    rw [sizeLine_eq]
    omega
  · rintro acc c' ⟨done, todo, ts, e1, e2, rfl, e4, ht, rfl⟩
    have e5 : todo = [] := by cases todo with
      | nil => rfl
      | cons _ _ => cases e2
    subst e5
    rw [List.append_nil] at e1
    subst e1
    have hlt : ts.length = qs.length := by rw [← e4, List.length_map]
    simp
    refine lc_pure (fun d => match d with | .tup [_, _, .int k] => k != 0 | _ => false) (fun d => d) (ts.map encT) [] (by rw [sizeLine_eq]; simp; omega) (fun x hx k0 k1 hk => ?_) ?_
    · rw [List.mem_map] at hx
      obtain ⟨t, _, rfl⟩ := hx
      simpa [encT] using hk
    · have e6 : ((ts.map encT).filter fun d => match d with | .tup [_, _, .int k] => k != 0 | _ => false) = (ts.filter fun t => t.2.2 != 0).map encT := by
        rw [List.filter_map]
        rfl
      simp only [List.nil_append, List.map_id_fun', id_eq, List.map_id', e6]
      refine h _ _ ⟨fun t ht' => ?_, ?_⟩ (by omega) (by omega)
      · rw [List.mem_filter] at ht'
        have z := ht t ht'.1
        have z2 : (t.1, t.2.1) ∈ qs := by rw [← e4]; exact List.mem_map_of_mem ht'.1
        have z3 := hr' _ z2
        have z4 : t.2.2 ≠ 0 := by simpa using ht'.2
        unfold okT
        omega
      · refine List.Pairwise.filter _ ?_
        rw [← e4, List.pairwise_map] at hs'
        refine hs'.imp fun {a b} z => ?_
        rw [SrtO.lexB_iff] at z
        exact z
theorem s__law_poly {p : Int} {mx my : Nat} {c : Nat} {W : WD} {R : D → Nat → Prop} (hc : c + 30000 ≤ cap) (hp : 2 ≤ p) (hp2 : p ≤ 7) (hx : mx ≤ 99) (hy : my ≤ 99) (h : ∀ ts c', GoodP p mx my ts → c ≤ c' → c' ≤ c + 30000 → R (encP ts) c') : pf__law_poly [.st, .int p, .int mx, .int my] c W R := by
  refine ⟨rfl, ?_⟩
  have hM : (mx + 1) * (my + 1) ≤ 10000 := Nat.mul_le_mul (by omega : mx + 1 ≤ 100) (by omega : my + 1 ≤ 100)
  simp [t__law_poly]
  refine draw_ok (n := 8) (by omega) (by omega) (by omega) fun way hw => ?_
  by_cases h0 : way = 0
  · subst h0
    simp
    refine s__law_pick (by omega) (by simp) (by simp) fun d hd => ?_
    simp at hd
    rcases hd with rfl | rfl | rfl | rfl
    · exact h [] _ GoodP.nil (by omega) (by omega)
    · exact h [(0, 0, 1)] _ ⟨by simp [okT]; omega, by simp⟩ (by omega) (by omega)
    · exact h [(0, 0, p - 1)] _ ⟨by simp [okT]; omega, by simp⟩ (by omega) (by omega)
    · exact h [((mx : Int), (my : Int), 1)] _ ⟨by simp [okT]; omega, by simp⟩ (by omega) (by omega)
  · simp [h0]
    refine ⟨by unfold smallI; omega, ?_⟩
    refine loop_rng (fun k env c' => c' = c + 1 ∧ ∃ s6, env = [.val .st, .val (.int p), .val (.int mx), .val (.int my), .val (.int way), .val (.lst ((gridL k (my + 1)).map pD)), s6, .un, .un, .un]) 0 (mx + 1) ?_ ?_ _ _ ⟨rfl, .un, by simp [gridL]⟩
    · rintro k hk N hN env c' ⟨rfl, s6, rfl⟩
      have hk2 : k * (my + 1) ≤ (mx + 1) * (my + 1) := Nat.mul_le_mul_right _ (by omega)
      simp
      refine ⟨by unfold smallI; omega, ?_⟩
      refine lc_map (fun y => .tup [.int k, y]) _ [] (by rw [sizeLine_eq, rngD_length]; simp; omega) (fun x hx k1 hk1 => ?_) ?_
      · simpa using hk1
      · simp [rngD_length, gridL_length]
        refine ⟨by rw [sizeLine_eq]; omega, ?_⟩
        refine hN _ _ ⟨rfl, .val (.int k), ?_⟩
        rw [gridL_succ, List.map_append, ← col_eq]
    · rintro env c' ⟨rfl, s6, rfl⟩
      have hg := gridL_length (mx + 1) (my + 1)
      have hin : ∀ q ∈ gridL (mx + 1) (my + 1), 0 ≤ q.1 ∧ q.1 ≤ mx ∧ 0 ≤ q.2 ∧ q.2 ≤ my := fun q hq => by
        have z := mem_gridL.mp hq
        omega
      by_cases h5 : (way : Int) < 5
      · simp [h5]
        refine s__law_mixed (by simp [hg]; omega) (by simp [hg]; omega) (by simp [pD_deep]) fun es he => ?_
        obtain ⟨qs, rfl, hq⟩ := perm_pD he
        have hql := hq.length_eq
        refine draw_ok (n := 4) (by simp [hg]; omega) (by omega) (by omega) fun v hv => ?_
        have hsub := List.take_sublist (1 + v) qs
        have z := poly_rest (p := p) (mx := mx) (my := my) (c := c + 1 + (List.map pD (gridL (mx + 1) (my + 1))).length + 1) (c0 := c) (W := W) (R := R) (way := way) (s6 := s6) (ps := qs.take (1 + v)) hp hp2 (hsub.nodup ((hq.nodup_iff).mpr (gridL_nodup _ _))) (fun q m => hin q (hq.subset (hsub.subset m))) (by rw [List.length_take]; omega) (by simp [hg]; omega) (by omega) hc h
        rw [List.map_take, ← cut_take] at z
        exact z
      · simp [h5]
        exact poly_rest (W := W) hp hp2 (gridL_nodup _ _) hin (by omega) (by omega) (by omega) hc h
theorem incr_len : ∀ (l : List Int) (lo hi : Int), (∀ x ∈ l, lo ≤ x ∧ x < hi) → l.Pairwise (· < ·) → (l.length : Int) ≤ max 0 (hi - lo)
  | [], lo, hi, _, _ => by simp; omega
  | a :: r, lo, hi, h, hp => by
    have ha := h a (List.mem_cons_self ..)
    have hp' := List.pairwise_cons.mp hp
    have z := incr_len r (a + 1) hi (fun x hx => ⟨hp'.1 x hx, (h x (List.mem_cons_of_mem _ hx)).2⟩) hp'.2
    rw [List.length_cons]
    omega
theorem GoodP.length {p : Int} {mx my : Nat} {ts : List T3} (h : GoodP p mx my ts) : ts.length ≤ (mx + 1) * (my + 1) := by
  have z := incr_len (ts.map fun t => t.1 * (my + 1) + t.2.1) 0 ((mx + 1) * (my + 1)) (fun x hx => by
    obtain ⟨t, ht, rfl⟩ := List.mem_map.mp hx
    have ho := h.1 t ht
    unfold okT at ho
    have h1 : t.1 * ((my : Int) + 1) ≤ mx * ((my : Int) + 1) := Int.mul_le_mul_of_nonneg_right ho.2.1 (by omega)
    have h2 : 0 ≤ t.1 * ((my : Int) + 1) := Int.mul_nonneg ho.1 (by omega)
    have h3 : ((mx : Int) + 1) * ((my : Int) + 1) = mx * ((my : Int) + 1) + (my + 1) := by rw [Int.add_mul, Int.one_mul]
    omega) (by
    rw [List.pairwise_map]
    refine List.Pairwise.imp_of_mem (fun {a b} ha hb hab => ?_) h.2
    have oa := h.1 a ha
    have ob := h.1 b hb
    unfold okT at oa ob
    rcases hab with hlt | ⟨he, hlt⟩
    · have h1 : (a.1 + 1) * ((my : Int) + 1) ≤ b.1 * ((my : Int) + 1) := Int.mul_le_mul_of_nonneg_right (by omega) (by omega)
      rw [Int.add_mul, Int.one_mul] at h1
      omega
    · rw [he]; omega)
  have h4 : (0 : Int) ≤ ((mx : Int) + 1) * ((my : Int) + 1) := Int.mul_nonneg (by omega) (by omega)
  rw [List.length_map] at z
  have h5 : (((mx + 1) * (my + 1) : Nat) : Int) = ((mx : Int) + 1) * ((my : Int) + 1) := by simp
  omega
theorem GoodP.short {p mx my : Int} {ts : List T3} (h : GoodP p mx my ts) (hx : mx ≤ 999) (hy : my ≤ 999) : ts.length ≤ 1000000 := by
  have z := GoodP.length (p := p) (mx := 999) (my := 999) (ts := ts) (h.mono (by simpa using hx) (by simpa using hy))
  simpa using z
theorem s__law_some {p : Int} {mx my : Nat} {c : Nat} {W : WD} {R : D → Nat → Prop} (hc : c + 30010 ≤ cap) (hp : 2 ≤ p) (hp2 : p ≤ 7) (hx : mx ≤ 99) (hy : my ≤ 99) (h : ∀ ts c', ts ≠ [] → GoodP p mx my ts → c ≤ c' → c' ≤ c + 30010 → R (encP ts) c') : pf__law_some [.st, .int p, .int mx, .int my] c W R := by
  refine ⟨rfl, ?_⟩
  simp [t__law_some]
  refine s__law_poly (by omega) hp hp2 hx hy fun ts c' hg h1 h2 => ?_
  simp [shaped_encP]
  by_cases he : ts = []
  · subst he
    simp [encP]
    refine draw_okI (by omega) (by omega) (by omega) fun v hv0 hv1 => ?_
    refine draw_okI (by omega) (by omega) (by omega) fun u hu0 hu1 => ?_
    refine draw_okI (by omega) (by omega) (by omega) fun w hw0 hw1 => ?_
    simp
    exact h [(v, u, 1 + w)] _ (by simp) ⟨by simp [okT]; omega, by simp⟩ (by omega) (by omega)
  · have e : eqvD (encP ts) (.tup []) = false := by
      cases ts with
      | nil => exact absurd rfl he
      | cons a r => simp [encP]
    simp [e]
    exact h ts c' he hg (by omega) (by omega)
theorem cut_drop (ds : List D) (n : Nat) : cutD ds (some (n : Int)) none = ds.drop n := by
  simp only [cutD, HT.sIx_nat, HT.sIx_none]
  by_cases h : n ≤ ds.length
  · rw [Nat.min_eq_left h, List.take_of_length_le (by rw [List.length_drop]; exact Nat.le_refl _)]
  · rw [Nat.min_eq_right (by omega), List.drop_length, List.drop_eq_nil_of_le (by omega)]
    exact List.take_nil
theorem cut_mem {ds : List D} {lo hi : Option Int} {x : D} (h : x ∈ cutD ds lo hi) : x ∈ ds := List.mem_of_mem_drop (List.mem_of_mem_take h)
theorem cut_len (ds : List D) (lo hi : Option Int) : (cutD ds lo hi).length ≤ ds.length := by
  unfold DL.cutD
  rw [List.length_take, List.length_drop]
  omega
theorem at_last {ds : List D} (h : ds ≠ []) : ∃ d, atI ds (-1) = some d ∧ d ∈ ds := by
  have hp : 0 < ds.length := List.length_pos_iff.mpr h
  refine ⟨ds[ds.length - 1], ?_, List.getElem_mem _⟩
  have e : ixN ds.length (-1) = some (ds.length - 1) := by
    unfold ixN
    rw [if_neg (by omega), if_pos (by omega)]
    congr 1
    omega
  unfold atI
  rw [e]
  exact List.getElem?_eq_getElem _
theorem judge_tup {ds : List D} (h : ∀ x ∈ ds, tyd1 x = true) (hl : ds.length ≤ 1000000) : judge (.tup ds) := by
  refine ⟨?_, fun es e => by cases e; exact hl⟩
  simpa [tyd2] using h
theorem judge_other {d : D} (h : tyd d = true) (n : ∀ ds, d ≠ .tup ds) : judge d := by
  refine ⟨?_, fun ds e => absurd e (n ds)⟩
  cases d with
  | tup ds => exact absurd rfl (n ds)
  | _ => simpa [tyd2] using h
theorem pick_rest {p : Int} {c : Nat} {W : WD} {R : D → Nat → Prop} {L : List D} {s2 s3 s4 s5 s6 s7 s8 s9 : Slot} (hc : c < cap) (hj : ∀ d ∈ L, judge d) (hl : L.length ≤ 1000) (hn : D.non ∈ L) (h : ∀ d, judge d → isPolyD p d = false → R d (c + 1)) :
    lcD (.one 9) [9] (tNotD (tTruD (tCallP pf__law_is_poly (tConsD (tVarD 1) (tConsD (tVarD 9) tNilD))))) (tVarD 9) [.val .st, .val (.int p), s2, s3, s4, s5, s6, s7, s8, s9] (fun d c1 => pf__law_pick [.st, d] c1 (fun d c1 => W d c1) fun d c1 => R d c1) L [] c := by
  refine lc_pure (fun d => !isPolyD p d) (fun d => d) L [] (by rw [sizeLine_eq]; simp; omega) (fun x hx k0 k1 hk => ?_) ?_
  · simp
    refine s__law_is_poly (hj x hx) ?_
    simpa using hk
  · have hm : D.non ∈ L.filter fun d => !isPolyD p d := List.mem_filter.mpr ⟨hn, rfl⟩
    have hll : (L.filter fun d => !isPolyD p d).length ≤ L.length := List.length_filter_le _ _
    simp only [List.nil_append, List.map_id']
    refine s__law_pick hc (fun z => by rw [z] at hm; cases hm) (by omega) fun d hd => ?_
    rw [List.mem_filter] at hd
    exact h d (hj d hd.1) (by simpa using hd.2)
theorem s__law_no_poly {p : Int} {c : Nat} {W : WD} {R : D → Nat → Prop} (hc : c + 30020 ≤ cap) (hp : 2 ≤ p) (hp2 : p ≤ 7) (h : ∀ d c', judge d → isPolyD p d = false → c ≤ c' → c' ≤ c + 30020 → R d c') : pf__law_no_poly [.st, .int p] c W R := by
  refine ⟨rfl, ?_⟩
  simp [t__law_no_poly]
  refine s__law_some (mx := 3) (my := 3) (by omega) hp hp2 (by omega) (by omega) fun ts c' hne hg h1 h2 => ?_
  have hl : ts.length ≤ 16 := hg.length
  have hpos : 0 < ts.length := List.length_pos_iff.mpr hne
  simp [encP]
  refine draw_ok (n := ts.length) (by omega) hpos (by omega) fun v hv => ?_
  have e1 : atI (ts.map encT) (v : Int) = some (encT ts[v]) := atI_nat (by rw [List.getElem?_map, List.getElem?_eq_getElem hv]; rfl)
  simp [e1, encT, -lcD]
  generalize hT : ts.map encT = told
  have hTl : told.length = ts.length := by rw [← hT, List.length_map]
  have hT1 : ∀ x ∈ told, tyd1 x = true := fun x hx => by
    rw [← hT] at hx
    obtain ⟨t, _, rfl⟩ := List.mem_map.mp hx
    rfl
  have sl : sizeLine = 16777216 := by decide +kernel
  generalize ts[v].fst = i
  generalize ts[v].snd.fst = j
  generalize ts[v].snd.snd = k
  have tt : ∀ x ∈ told.take v, tyd1 x = true := fun x hx => hT1 x (List.mem_of_mem_take hx)
  have td : ∀ x ∈ told.drop (v + 1), tyd1 x = true := fun x hx => hT1 x (List.mem_of_mem_drop hx)
  have ltk : (told.take v).length ≤ 16 := by rw [List.length_take]; omega
  have ldk : (told.drop (v + 1)).length ≤ 16 := by rw [List.length_drop]; omega
  have ed : cutD told (some ((v : Int) + 1)) none = told.drop (v + 1) := by
    have z := cut_drop told (v + 1)
    rwa [Int.natCast_add] at z
  refine ⟨by omega, ?_⟩
  have jt : ∀ x, tyd1 x = true → judge (.tup (told.take v ++ x :: told.drop (v + 1))) := fun x hx => judge_tup (fun y hy => by
    rw [List.mem_append, List.mem_cons] at hy
    rcases hy with hy | rfl | hy
    · exact tt y hy
    · exact hx
    · exact td y hy) (by simp only [List.length_append, List.length_cons]; omega)
  refine lc_map (fun t => .tup (told.take v ++ t :: told.drop (v + 1))) _ [] (by rw [sl]; simp) (fun x hx k1 hk => ?_) ?_
  · simp [ed, cut_take]
    refine ⟨by omega, by omega, hk⟩
  · have lm := cut_len told (some (-1)) none
    have l1 := cut_len told none (some 1)
    obtain ⟨d, hd, hdm⟩ := at_last (ds := told) (fun z => by rw [z] at hTl; simp at hTl; omega)
    have j1 : judge (.tup (told ++ cutD told (some (-1)) none)) := judge_tup (fun y hy => by
      rw [List.mem_append] at hy
      exact hT1 y (hy.elim id cut_mem)) (by rw [List.length_append]; omega)
    have j2 : judge (.tup (d :: cutD told none (some 1))) := judge_tup (fun y hy => by
      rw [List.mem_cons] at hy
      rcases hy with rfl | hy
      · exact hT1 _ hdm
      · exact hT1 y (cut_mem hy)) (by rw [List.length_cons]; omega)
    have j3 : judge (.tup told.reverse) := judge_tup (fun y hy => hT1 y (List.mem_reverse.mp hy)) (by rw [List.length_reverse]; omega)
    have j4 : judge (.lst told) := judge_other rfl (fun _ z => by cases z)
    have j5 : ∀ x ∈ ([.non, .int 0, .str "x", .dic false [] [], .tup [.int 0]] : List D), judge x := fun x hx => by
      simp at hx
      rcases hx with rfl | rfl | rfl | rfl | rfl
      · exact judge_other rfl (fun _ z => by cases z)
      · exact judge_other rfl (fun _ z => by cases z)
      · exact judge_other rfl (fun _ z => by cases z)
      · exact judge_other rfl (fun _ z => by cases z)
      · exact judge_tup (by simp [tyd1]) (by simp)
    have jb : judge (.tup (told.take v ++ D.tup [D.bl (i == 1), D.int j, D.int k] :: told.drop (v + 1))) := jt _ rfl
    rw [List.nil_append]
    have hM : ∀ x ∈ List.map (fun t => D.tup (List.take v told ++ t :: List.drop (v + 1) told)) [D.tup [D.int i, D.int j, D.int 0], D.tup [D.int i, D.int j, D.int p], D.tup [D.int i, D.int j, D.int (-1)], D.tup [D.int (-1), D.int j, D.int k], D.tup [D.int 1000, D.int j, D.int k], D.tup [D.int i, D.int 1000, D.int k], D.tup [D.int i, D.int j], D.tup [D.int i, D.int j, D.int k, D.int 0], D.lst [D.int i, D.int j, D.int k], D.non, D.tup [D.int i, D.int j, D.bl true], D.tup [D.int i, D.int j, D.str (Str.ofString "1")], D.tup [D.non, D.int j, D.int k]], judge x := fun x hx => by
      obtain ⟨t, ht, rfl⟩ := List.mem_map.mp hx
      exact jt t (List.all_eq_true.mp (show List.all _ tyd1 = true from rfl) t ht)
    have hL := List.length_map (as := [D.tup [D.int i, D.int j, D.int 0], D.tup [D.int i, D.int j, D.int p], D.tup [D.int i, D.int j, D.int (-1)], D.tup [D.int (-1), D.int j, D.int k], D.tup [D.int 1000, D.int j, D.int k], D.tup [D.int i, D.int 1000, D.int k], D.tup [D.int i, D.int j], D.tup [D.int i, D.int j, D.int k, D.int 0], D.lst [D.int i, D.int j, D.int k], D.non, D.tup [D.int i, D.int j, D.bl true], D.tup [D.int i, D.int j, D.str (Str.ofString "1")], D.tup [D.non, D.int j, D.int k]]) (fun t => D.tup (List.take v told ++ t :: List.drop (v + 1) told))
    generalize List.map (fun t => D.tup (List.take v told ++ t :: List.drop (v + 1) told)) _ = M at hM hL ⊢
    have hL : M.length = 13 := hL
    have fin : ∀ L : List D, (∀ x ∈ L, judge x) → L.length ≤ 100 → D.non ∈ L → _ := fun L h1 h2 h3 => pick_rest (p := p) (c := c' + 1) (W := W) (R := R) (L := L) (s2 := .val (D.tup told)) (s3 := .val (D.int v)) (s4 := .val (D.int i)) (s5 := .val (D.int j)) (s6 := .val (D.int k)) (s7 := .val (.lst L)) (s8 := .un) (s9 := .un) (by omega) h1 (by omega) h3 (fun d hd hnp => h d _ hd hnp (by omega) (by omega))
    have tails : ∀ y, judge y → ∀ x ∈ ([.lst told, .tup (told ++ cutD told (some (-1)) none), y, .non, .int 0, .str "x", .dic false [] [], .tup [.int 0]] : List D), judge x := fun y hy x hx => by
      simp only [List.mem_cons, List.not_mem_nil, or_false] at hx
      rcases hx with rfl | rfl | rfl | hx
      · exact j4
      · exact j1
      · exact hy
      · exact j5 x (by simpa using hx)
    by_cases hi : i < 2
    · simp only [hi, if_true, ed, cut_take, hd]
      refine ⟨by omega, by omega, by omega, by omega, ?_⟩
      by_cases h1 : (ts.length : Int) = 1
      · rw [if_pos h1]
        refine ⟨by omega, by omega, fin _ (fun x hx => ?_) (by simp; omega) (by simp)⟩
        simp only [List.mem_append, List.mem_cons] at hx
        rcases hx with hx | rfl | hx
        · exact hM x hx
        · exact jb
        · exact tails _ j2 x (by simpa using hx)
      · rw [if_neg h1]
        refine ⟨by omega, fin _ (fun x hx => ?_) (by simp; omega) (by simp)⟩
        simp only [List.mem_append, List.mem_cons] at hx
        rcases hx with hx | rfl | hx
        · exact hM x hx
        · exact jb
        · exact tails _ j3 x (by simpa using hx)
    · simp only [hi, if_false, ed, cut_take, hd]
      refine ⟨by omega, ?_⟩
      by_cases h1 : (ts.length : Int) = 1
      · rw [if_pos h1]
        refine ⟨by omega, by simp; omega, fin _ (fun x hx => ?_) (by simp; omega) (by simp)⟩
        rw [List.mem_append] at hx
        rcases hx with hx | hx
        · exact hM x hx
        · exact tails _ j2 x hx
      · rw [if_neg h1]
        refine ⟨by simp; omega, fin _ (fun x hx => ?_) (by simp; omega) (by simp)⟩
        rw [List.mem_append] at hx
        rcases hx with hx | hx
        · exact hM x hx
        · exact tails _ j3 x hx
end KC
set_option Elab.async false
set_option linter.all false
set_option maxRecDepth 100000
set_option maxHeartbeats 1000000
namespace K01
open PySem PySem.Spec PyProof.Rows L2 DL KC
def excs : List Str := ["BadPrime"]
def rl_BadPrime : List (Str × Bool) := [("BadPrime", true)]
abbrev r_BadPrime (n : Str) : Option Bool := rl_BadPrime.lookup n
abbrev n__law_caught : List Str := ["_law_work", "_law_caught_here", "error"]
abbrev p__law_caught : List Str := ["_law_work"]
abbrev n_law : List Str := ["_law_script", "_law_state", "_law_turn", "_law_prime_here", "_law_told", "_law_far", "_law_item", "_law_number", "_law_due", "_law_wrong"]
abbrev p_law : List Str := ["_law_script"]
def t_law : TSD :=
  (tSeqD (tForD (.one 2) (tRng1D (tConsD (tOpD addD (tCD (.int 3)) (tCallD min2D (tConsD (tCallD lenD (tConsD (tVarB 0) tNilD)) (tConsD (tCD (.int 8)) tNilD)))) tNilD))
  (tSeqD (tSetD 3 (tDrawn pf__law_prime (tConsD (tVarD 1) tNilD)))
  (tSeqD (tSetD 4 (tDrawn pf__law_some (tConsD (tVarD 1) (tConsD (tVarD 3) (tConsD (tCD (.int 6)) (tConsD (tCD (.int 6)) tNilD))))))
  (tSeqD (tSetD 5 (tTupD (tConsD (tTupD (tConsD (tCD (.int 0)) (tConsD (tCD (.int 999)) (tConsD (tCD (.int 1)) tNilD)))) (tConsD (tTupD (tConsD (tDrawn pf__law_pick (tConsD (tVarD 1) (tConsD (tLstD (tConsD (tCD (.int 998)) (tConsD (tCD (.int 999)) (tConsD (tCD (.int 1000)) tNilD)))) tNilD))) (tConsD (tDrawn pf__law_pick (tConsD (tVarD 1) (tConsD (tLstD (tConsD (tCD (.int 0)) (tConsD (tCD (.int 999)) (tConsD (tCD (.int 1000)) tNilD)))) tNilD))) (tConsD (tCD (.int 1)) tNilD)))) tNilD))))
  (tSeqD (tForD (.one 6) (tItD (tLstD (tConsD (tVarD 4) (tConsD (tTupD tNilD) (tConsD (tVarD 5) (tConsD (tDrawn pf__law_no_poly (tConsD (tVarD 1) (tConsD (tVarD 3) tNilD))) (tConsD (tDrawn pf__law_no_poly (tConsD (tVarD 1) (tConsD (tVarD 3) tNilD))) (tConsD (tDrawn pf__law_odd (tConsD (tVarD 1) tNilD)) (tConsD (tSlD (tVarB 4) tNoPartD (tPartD (tCD (.int 1)))) (tConsD (tOpD addD (tVarB 4) (tTupD (tConsD (tTupD (tConsD (tCD (.int 7)) (tConsD (tCD (.int 7)) (tConsD (tCD (.int 1)) tNilD)))) tNilD))) tNilD))))))))))
  (tForD (.one 7) (tItD (tLstD (tConsD (tVarD 3) (tConsD (tDrawn pf__law_prime (tConsD (tVarD 1) tNilD)) tNilD))))
  (tSeqD (tSetD 8 (tCallP pf__law_is_poly (tConsD (tVarD 7) (tConsD (tVarD 6) tNilD))))
  (tIfSD (tTestD (tOpD neD (tCallD reprD (tConsD (tLstD (tConsD (tCallP pf_is_poly (tConsD (tVarD 7) (tConsD (tVarD 6) tNilD))) (tConsD (tCallPK pf_is_poly [1, 0] (tConsD (tVarD 6) (tConsD (tVarD 7) tNilD))) tNilD))) tNilD)) (tCallD reprD (tConsD (tLstD (tConsD (tVarD 8) (tConsD (tVarD 8) tNilD))) tNilD))))
  (tRetD (tCD (.bl false)))
  tNextD))))
  (tSeqD (tSetD 9 (tDrawn pf__law_no_prime (tConsD (tVarD 1) tNilD)))
  (tIfSD (tNotD (tTruD (tIsX r_BadPrime (tCaughtD excs (tCallP pf_is_poly (tConsD (tVarD 9) (tConsD (tVarD 4) tNilD)))))))
  (tRetD (tCD (.bl false)))
  tNextD)))))))
  (tRetD (tCD (.bl true))))
end K01
set_option Elab.async false
set_option linter.all false
set_option maxRecDepth 100000
set_option maxHeartbeats 1000000
namespace K01
open PySem PySem.Spec PyProof.Rows L2 DL KC
def top (i : Nat) : Stmt := PySem.Challenge.pw_rowsfilled_k01_polys_judged.main.body.getD i (.Pass ⟨0, 0, 0, 0⟩)
abbrev st_is_between : Stmt := top 5
theorem sc_is_between : FnScope n_is_between p_is_between (defScope st_is_between) := ⟨rfl, rfl, rfl, by decide +kernel, rfl, by decide +kernel, by decide +kernel⟩
abbrev st_need_prime : Stmt := top 6
theorem sc_need_prime : FnScope n_need_prime p_need_prime (defScope st_need_prime) := ⟨rfl, rfl, rfl, by decide +kernel, rfl, by decide +kernel, by decide +kernel⟩
abbrev st_is_term : Stmt := top 7
theorem sc_is_term : FnScope n_is_term p_is_term (defScope st_is_term) := ⟨rfl, rfl, rfl, by decide +kernel, rfl, by decide +kernel, by decide +kernel⟩
abbrev st_polys_right : Stmt := top 8
theorem sc_polys_right : FnScope n_polys_right p_polys_right (defScope st_polys_right) := ⟨rfl, rfl, rfl, by decide +kernel, rfl, by decide +kernel, by decide +kernel⟩
abbrev st_is_poly : Stmt := top 9
theorem sc_is_poly : FnScope n_is_poly p_is_poly (defScope st_is_poly) := ⟨rfl, rfl, rfl, by decide +kernel, rfl, by decide +kernel, by decide +kernel⟩
abbrev st__law_begun : Stmt := top 11
theorem sc__law_begun : FnScope n__law_begun p__law_begun (defScope st__law_begun) := ⟨rfl, rfl, rfl, by decide +kernel, rfl, by decide +kernel, by decide +kernel⟩
abbrev st__law_draw : Stmt := top 12
theorem sc__law_draw : FnScope n__law_draw p__law_draw (defScope st__law_draw) := ⟨rfl, rfl, rfl, by decide +kernel, rfl, by decide +kernel, by decide +kernel⟩
abbrev st__law_pick : Stmt := top 13
theorem sc__law_pick : FnScope n__law_pick p__law_pick (defScope st__law_pick) := ⟨rfl, rfl, rfl, by decide +kernel, rfl, by decide +kernel, by decide +kernel⟩
abbrev st__law_mixed : Stmt := top 14
theorem sc__law_mixed : FnScope n__law_mixed p__law_mixed (defScope st__law_mixed) := ⟨rfl, rfl, rfl, by decide +kernel, rfl, by decide +kernel, by decide +kernel⟩
abbrev st__law_caught : Stmt := top 15
theorem sc__law_caught : FnScope n__law_caught p__law_caught (defScope st__law_caught) := ⟨rfl, rfl, rfl, by decide +kernel, rfl, by decide +kernel, by decide +kernel⟩
abbrev st__law_is_whole : Stmt := top 16
theorem sc__law_is_whole : FnScope n__law_is_whole p__law_is_whole (defScope st__law_is_whole) := ⟨rfl, rfl, rfl, by decide +kernel, rfl, by decide +kernel, by decide +kernel⟩
abbrev st__law_odd : Stmt := top 17
theorem sc__law_odd : FnScope n__law_odd p__law_odd (defScope st__law_odd) := ⟨rfl, rfl, rfl, by decide +kernel, rfl, by decide +kernel, by decide +kernel⟩
abbrev st__law_is_from : Stmt := top 18
theorem sc__law_is_from : FnScope n__law_is_from p__law_is_from (defScope st__law_is_from) := ⟨rfl, rfl, rfl, by decide +kernel, rfl, by decide +kernel, by decide +kernel⟩
abbrev st__law_prime : Stmt := top 19
theorem sc__law_prime : FnScope n__law_prime p__law_prime (defScope st__law_prime) := ⟨rfl, rfl, rfl, by decide +kernel, rfl, by decide +kernel, by decide +kernel⟩
abbrev st__law_no_prime : Stmt := top 20
theorem sc__law_no_prime : FnScope n__law_no_prime p__law_no_prime (defScope st__law_no_prime) := ⟨rfl, rfl, rfl, by decide +kernel, rfl, by decide +kernel, by decide +kernel⟩
abbrev st__law_is_poly : Stmt := top 21
theorem sc__law_is_poly : FnScope n__law_is_poly p__law_is_poly (defScope st__law_is_poly) := ⟨rfl, rfl, rfl, by decide +kernel, rfl, by decide +kernel, by decide +kernel⟩
abbrev st__law_poly : Stmt := top 22
theorem sc__law_poly : FnScope n__law_poly p__law_poly (defScope st__law_poly) := ⟨rfl, rfl, rfl, by decide +kernel, rfl, by decide +kernel, by decide +kernel⟩
abbrev st__law_some : Stmt := top 23
theorem sc__law_some : FnScope n__law_some p__law_some (defScope st__law_some) := ⟨rfl, rfl, rfl, by decide +kernel, rfl, by decide +kernel, by decide +kernel⟩
abbrev st__law_no_poly : Stmt := top 24
theorem sc__law_no_poly : FnScope n__law_no_poly p__law_no_poly (defScope st__law_no_poly) := ⟨rfl, rfl, rfl, by decide +kernel, rfl, by decide +kernel, by decide +kernel⟩
abbrev st_law : Stmt := top 25
theorem sc_law : FnScope n_law p_law (defScope st_law) := ⟨rfl, rfl, rfl, by decide +kernel, rfl, by decide +kernel, by decide +kernel⟩
structure Consts (mg : Str → Option Value) : Prop where
  MOST_POWER : ∃ t, mg "MOST_POWER" = some (.int 999 t)
structure Txt (K : PySem.W.Frag) (mg : Str → Option Value) : Prop where
  B : Blt mg
  C : Consts mg
  D_is_between : Df K mg "is_between" st_is_between p_is_between
  D_need_prime : Df K mg "need_prime" st_need_prime p_need_prime
  D_is_term : Df K mg "is_term" st_is_term p_is_term
  D_polys_right : Df K mg "polys_right" st_polys_right p_polys_right
  D_is_poly : Df K mg "is_poly" st_is_poly p_is_poly
  D__law_begun : Df K mg "_law_begun" st__law_begun p__law_begun
  D__law_draw : Df K mg "_law_draw" st__law_draw p__law_draw
  D__law_pick : Df K mg "_law_pick" st__law_pick p__law_pick
  D__law_mixed : Df K mg "_law_mixed" st__law_mixed p__law_mixed
  D__law_caught : Df K mg "_law_caught" st__law_caught p__law_caught
  D__law_is_whole : Df K mg "_law_is_whole" st__law_is_whole p__law_is_whole
  D__law_odd : Df K mg "_law_odd" st__law_odd p__law_odd
  D__law_is_from : Df K mg "_law_is_from" st__law_is_from p__law_is_from
  D__law_prime : Df K mg "_law_prime" st__law_prime p__law_prime
  D__law_no_prime : Df K mg "_law_no_prime" st__law_no_prime p__law_no_prime
  D__law_is_poly : Df K mg "_law_is_poly" st__law_is_poly p__law_is_poly
  D__law_poly : Df K mg "_law_poly" st__law_poly p__law_poly
  D__law_some : Df K mg "_law_some" st__law_some p__law_some
  D__law_no_poly : Df K mg "_law_no_poly" st__law_no_poly p__law_no_poly
  D_law : Df K mg "law" st_law p_law
  X_BadPrime : Exc K mg "BadPrime"
  I_BadPrime : IsC K mg "BadPrime" r_BadPrime
  fill : ∃ CS, mg "FillError" = some (.ref CS) ∧ ∀ n ∈ excs, ∀ C, mg n = some (.ref C) → PySem.W.exmOne K (.ref C) (.ref CS) = some true
section
variable {P : Program} {w : World} {K : PySem.W.Frag} {mg : Str → Option Value} {base : Heap}
/-! ### is_between -/
theorem d_is_between (T : Txt K mg) (X : Cx) (F : Fd) (f : Addr) (cdv : Value) (A : Around) (outer : List Env) (s : Shared) (H G : Hp) (sa sl sc : Addr) (E : XK)
    (eX : X = cxOf (L2.CX P w) P w K mg base n_is_between "is_between" (defScope st_is_between) f cdv A outer s H E) (eF : F = fdP K mg sa sl sc H G (fun cls d _ H => E cls d H)) (tk : Takes X F.W) (hr : Room 0 X.A) : DSs X F (defBody st_is_between) t_is_between := by
  subst eX
  subst eF
  have B := T.B
  exact (dss_one (ds_ret (de_and (de_isi .int (db_pv 0 (pv 0)) B.isinstance B.int PyProof.Rows.boot_int boot_isi) (de_and (de_not (de_isi .bool (db_pv 0 (pv 0)) B.isinstance B.bool PyProof.Rows.boot_bool boot_isi)) (de_one (de_chain (op_leD) (op_leD) (db_pv 1 (pv 1)) (db_pv 0 (pv 0)) (db_pv 2 (pv 2))))))))
theorem ok_is_between (T : Txt K mg) {f : Addr} {fd : FuncData} (Fn : Fun K "is_between" "is_between" st_is_between f fd) : FnOk P w K mg base (L2.CX P w) 1 f fd p_is_between (spP K mg pf_is_between) :=
  ok_P Fn sc_is_between l_is_between (d_is_between T) q_is_between
theorem h_is_between (T : Txt K mg) : Has P w K mg base 1 "is_between" p_is_between (spP K mg pf_is_between) := has_of T.D_is_between fun f fd Fn => ok_is_between T Fn
/-! ### need_prime -/
theorem d_need_prime (T : Txt K mg) (X : Cx) (F : Fd) (f : Addr) (cdv : Value) (A : Around) (outer : List Env) (s : Shared) (H G : Hp) (sa sl sc : Addr) (E : XK)
    (eX : X = cxOf (L2.CX P w) P w K mg base n_need_prime "need_prime" (defScope st_need_prime) f cdv A outer s H E) (eF : F = fdP K mg sa sl sc H G (fun cls d _ H => E cls d H)) (tk : Takes X F.W) (hr : Room 1 X.A) : DSs X F (defBody st_need_prime) t_need_prime := by
  subst eX
  subst eF
  have h_is_between := h_is_between (P := P) (w := w) (base := base) T
  have B := T.B
  have X_BadPrime := T.X_BadPrime
  exact (dss_one (ds_if (dt_w (dw_or (dt_not (dt_tru (DB.of (de_P h_is_between (hr.mono (by decide)) tk (da_cons (de_pv 0 (pv 0)) (da_cons de_int (da_cons de_int da_nil))))))) (dw_or1 (dt_cmp (op_notInDD (hr65 hr)) (db_pv 0 (pv 0)) (DB.of (de_lst (da_cons de_int (da_cons de_int (da_cons de_int (da_cons de_int da_nil))))))))))
      (dss_one (ds_raiseX X_BadPrime tk))
      dss_nil))
theorem ok_need_prime (T : Txt K mg) {f : Addr} {fd : FuncData} (Fn : Fun K "need_prime" "need_prime" st_need_prime f fd) : FnOk P w K mg base (L2.CX P w) 2 f fd p_need_prime (spP K mg pf_need_prime) :=
  ok_P Fn sc_need_prime l_need_prime (d_need_prime T) q_need_prime
theorem h_need_prime (T : Txt K mg) : Has P w K mg base 2 "need_prime" p_need_prime (spP K mg pf_need_prime) := has_of T.D_need_prime fun f fd Fn => ok_need_prime T Fn
/-! ### is_term -/
theorem d_is_term (T : Txt K mg) (X : Cx) (F : Fd) (f : Addr) (cdv : Value) (A : Around) (outer : List Env) (s : Shared) (H G : Hp) (sa sl sc : Addr) (E : XK)
    (eX : X = cxOf (L2.CX P w) P w K mg base n_is_term "is_term" (defScope st_is_term) f cdv A outer s H E) (eF : F = fdP K mg sa sl sc H G (fun cls d _ H => E cls d H)) (tk : Takes X F.W) (hr : Room 1 X.A) : DSs X F (defBody st_is_term) t_is_term := by
  subst eX
  subst eF
  have h_is_between := h_is_between (P := P) (w := w) (base := base) T
  have B := T.B
  have C := T.C
  exact (dss_cons (ds_if (dt_w (dw_or (dt_not (dt_tru (DB.of (de_isi .tup (db_pv 1 (pv 1)) B.isinstance B.tuple PyProof.Rows.boot_tuple boot_isi)))) (dw_or (dt_cmp (op_neDD hr.units) (DB.of (de_blt (call_lenD) B.len boot_len' (dab_cons (db_pv 1 (pv 1)) dab_nil))) (DB.of de_int)) (dw_or1 (dt_not (dt_tru (DB.of (de_P h_is_between (hr.mono (by decide)) tk (da_cons (de_ix (hu_of hr) (db_pv 1 (pv 1)) (DB.of de_int)) (da_cons de_int (da_cons (de_op op_subD (db_pv 0 (pv 0)) (DB.of de_int)) da_nil)))))))))))
      (dss_one (ds_ret de_bl))
      dss_nil)
      (dss_one (ds_ret (de_and (de_P h_is_between (hr.mono (by decide)) tk (da_cons (de_ix (hu_of hr) (db_pv 1 (pv 1)) (DB.of de_int)) (da_cons de_int (da_cons (de_globI C.MOST_POWER) da_nil)))) (de_one (de_P h_is_between (hr.mono (by decide)) tk (da_cons (de_ix (hu_of hr) (db_pv 1 (pv 1)) (DB.of de_int)) (da_cons de_int (da_cons (de_globI C.MOST_POWER) da_nil)))))))))
theorem ok_is_term (T : Txt K mg) {f : Addr} {fd : FuncData} (Fn : Fun K "is_term" "is_term" st_is_term f fd) : FnOk P w K mg base (L2.CX P w) 2 f fd p_is_term (spP K mg pf_is_term) :=
  ok_P Fn sc_is_term l_is_term (d_is_term T) q_is_term
theorem h_is_term (T : Txt K mg) : Has P w K mg base 2 "is_term" p_is_term (spP K mg pf_is_term) := has_of T.D_is_term fun f fd Fn => ok_is_term T Fn
/-! ### polys_right -/
theorem d_polys_right (T : Txt K mg) (X : Cx) (F : Fd) (f : Addr) (cdv : Value) (A : Around) (outer : List Env) (s : Shared) (H G : Hp) (sa sl sc : Addr) (E : XK)
    (eX : X = cxOf (L2.CX P w) P w K mg base n_polys_right "polys_right" (defScope st_polys_right) f cdv A outer s H E) (eF : F = fdP K mg sa sl sc H G (fun cls d _ H => E cls d H)) (tk : Takes X F.W) (hr : Room 2 X.A) : DSs X F (defBody st_polys_right) t_polys_right := by
  subst eX
  subst eF
  have h_is_term := h_is_term (P := P) (w := w) (base := base) T
  have B := T.B
  exact (dss_cons (ds_if (dt_w (dw_or (dt_not (dt_tru (DB.of (de_isi .tup (db_pv 1 (pv 1)) B.isinstance B.tuple PyProof.Rows.boot_tuple boot_isi)))) (dw_or1 (dt_not (dt_tru (DB.of (de_blt (call_allD rfl) B.all boot_all' (dab_cons (DB.of (DE.of (do_lc (.one 4) (K := K) [("term", 4)] rfl sc_polys_right.nd (di_any (de_pv 1 (pv 1))) (blkOk_by (show blkC n_polys_right (defScope st_polys_right) _ _ = true by decide +kernel)) (fun s H C cl fp H0 G0 => (pg_name (i := 4) sc_polys_right.nd rfl (by first | exact Or.inl rfl | exact Or.inr rfl))) (fun s H C cl fp H0 G0 => dts_nil) (fun s H C cl fp H0 G0 => (de_P h_is_term (hr.mono (by decide)) takes0 (da_cons (de_pv 0 (pv 0)) (da_cons (de_pv 4 (pv 4)) da_nil))))))) dab_nil))))))))
      (dss_one (ds_ret de_bl))
      dss_nil)
      (dss_one (ds_ret (de_blt (call_allD rfl) B.all boot_all' (dab_cons (DB.of (DE.of (do_lc (.tup [2, 3]) (K := K) [("one", 2), ("other", 3)] rfl sc_polys_right.nd (di_zip B.zip (da_cons (de_pv 1 (pv 1)) (da_cons (de_slice (db_pv 1 (pv 1)) (dpo_some de_int) dpo_none) da_nil))) (blkOk_by (show blkC n_polys_right (defScope st_polys_right) _ _ = true by decide +kernel)) (fun s H C cl fp H0 G0 => (pg_tup rfl (pgs_cons (pg_name (i := 2) sc_polys_right.nd rfl (by first | exact Or.inl rfl | exact Or.inr rfl)) (pgs_cons (pg_name (i := 3) sc_polys_right.nd rfl (by first | exact Or.inl rfl | exact Or.inr rfl)) pgs_nil)))) (fun s H C cl fp H0 G0 => dts_nil) (fun s H C cl fp H0 G0 => (de_cmp (op_ltD hr.units0) (DB.of (de_slice (db_pv 2 (pv 2)) dpo_none (dpo_some de_int))) (DB.of (de_slice (db_pv 3 (pv 3)) dpo_none (dpo_some de_int)))))))) dab_nil)))))
theorem ok_polys_right (T : Txt K mg) {f : Addr} {fd : FuncData} (Fn : Fun K "polys_right" "polys_right" st_polys_right f fd) : FnOk P w K mg base (L2.CX P w) 3 f fd p_polys_right (spP K mg pf_polys_right) :=
  ok_P Fn sc_polys_right l_polys_right (d_polys_right T) q_polys_right
theorem h_polys_right (T : Txt K mg) : Has P w K mg base 3 "polys_right" p_polys_right (spP K mg pf_polys_right) := has_of T.D_polys_right fun f fd Fn => ok_polys_right T Fn
/-! ### is_poly -/
theorem d_is_poly (T : Txt K mg) (X : Cx) (F : Fd) (f : Addr) (cdv : Value) (A : Around) (outer : List Env) (s : Shared) (H G : Hp) (sa sl sc : Addr) (E : XK)
    (eX : X = cxOf (L2.CX P w) P w K mg base n_is_poly "is_poly" (defScope st_is_poly) f cdv A outer s H E) (eF : F = fdP K mg sa sl sc H G (fun cls d _ H => E cls d H)) (tk : Takes X F.W) (hr : Room 3 X.A) : DSs X F (defBody st_is_poly) t_is_poly := by
  subst eX
  subst eF
  have h_need_prime := h_need_prime (P := P) (w := w) (base := base) T
  have h_polys_right := h_polys_right (P := P) (w := w) (base := base) T
  exact (dss_cons (ds_expr (de_P h_need_prime (hr.mono (by decide)) tk (da_cons (de_pv 0 (pv 0)) da_nil)))
      (dss_one (ds_ret (de_P h_polys_right (hr.mono (by decide)) tk (da_cons (de_pv 0 (pv 0)) (da_cons (de_pv 1 (pv 1)) da_nil))))))
theorem ok_is_poly (T : Txt K mg) {f : Addr} {fd : FuncData} (Fn : Fun K "is_poly" "is_poly" st_is_poly f fd) : FnOk P w K mg base (L2.CX P w) 4 f fd p_is_poly (spP K mg pf_is_poly) :=
  ok_P Fn sc_is_poly l_is_poly (d_is_poly T) q_is_poly
theorem h_is_poly (T : Txt K mg) : Has P w K mg base 4 "is_poly" p_is_poly (spP K mg pf_is_poly) := has_of T.D_is_poly fun f fd Fn => ok_is_poly T Fn
theorem hk_is_poly_1_0 (T : Txt K mg) : HasK P w K mg base 4 "is_poly" p_is_poly ["thing", "prime"] [1, 0] (spP K mg pf_is_poly) :=
  hasK_of T.D_is_poly (fun f fd Fn => ok_is_poly T Fn) (fun _ _ _ _ _ _ ws hl => match ws, hl with
    | _ :: _ :: _, _ => rfl) (by decide)
theorem ok__law_begun (T : Txt K mg) {f : Addr} {fd : FuncData} (Fn : Fun K "_law_begun" "_law_begun" st__law_begun f fd) : FnOk P w K mg base (L2.CX P w) 1 f fd p__law_begun (spBegun K mg) := by
  exact ok_begun Fn sc__law_begun rfl rfl fun X F cdv A outer s H E eX eF hr => by
    subst eX
    subst eF
    have B := T.B
    exact (pss_cons (ds_setLc 1 (.one 3) (K := K) [("_law_cell", 3)] rfl sc__law_begun.nd rfl rfl (sw_true rfl rfl rfl (by decide +kernel)) (di_any (de_pv 0 (pv 0))) (blkOk_by (show blkC n__law_begun (defScope st__law_begun) _ _ = true by decide +kernel)) (fun s H C cl fp H0 G0 => (pg_name (i := 3) sc__law_begun.nd rfl (by first | exact Or.inl rfl | exact Or.inr rfl))) (fun s H C cl fp H0 G0 => dts_nil) (fun s H C cl fp H0 G0 => (de_blt call_absD B.abs boot_abs' (dab_cons (db_pv 3 (pv 3)) dab_nil)))) (pss_cons (ds_setLc 2 (.one 3) (K := K) [("_law_cell", 3)] rfl sc__law_begun.nd rfl rfl (sw_true rfl rfl rfl (by decide +kernel)) (di_any (de_pv 1 (pv 1))) (blkOk_by (show blkC n__law_begun (defScope st__law_begun) _ _ = true by decide +kernel)) (fun s H C cl fp H0 G0 => (pg_name (i := 3) sc__law_begun.nd rfl (by first | exact Or.inl rfl | exact Or.inr rfl))) (fun s H C cl fp H0 G0 => (dts_one (dt_cmp (op_geD hr.units0) (db_pv 3 (pv 3)) (DB.of (de_op op_powD (DB.of de_int) (DB.of de_int)))))) (fun s H C cl fp H0 G0 => (de_op op_subD (db_pv 3 (pv 3)) (DB.of (de_op op_powD (DB.of de_int) (DB.of de_int)))))) (pss_one (ps_ret (pe_disp (pps_cons pe_str (pv 2) (pps_cons pe_str (pv 1) (pps_cons pe_str pe_int (pps_cons pe_str pe_int pps_nil)))) rfl rfl (by intro z; cases z) (by decide))))))
theorem h__law_begun (T : Txt K mg) : Has P w K mg base 1 "_law_begun" p__law_begun (spBegun K mg) := has_of T.D__law_begun fun f fd Fn => ok__law_begun T Fn
theorem ok__law_draw (T : Txt K mg) {f : Addr} {fd : FuncData} (Fn : Fun K "_law_draw" "_law_draw" st__law_draw f fd) : FnOk P w K mg base (L2.CX P w) 1 f fd p__law_draw (spS K mg drawPF) := by
  exact ok_draw Fn sc__law_draw rfl rfl fun X cdv A outer s H E eX hr => by
    subst eX
    have B := T.B
    exact (pss_cons (ps_while (passes_of rfl) (pw_and (pt_cmpR op_eq (pe_ix (ix_dict (hu_of hr)) (pv 0) pe_str (fun _ _ => rfl)) pe_int (nomark _)) (pw_and1 (pt_cmpR (op_neD hr.units) (pe_ix (ix_dict (hu_of hr)) (pv 0) pe_str (fun _ _ => rfl)) (pe_lst pa_nil) (nomark _)))).pt (pss_one (ps_asg (pe_bm PySem.F.plainAttrs_list PySem.F.slot_list_pop PySem.F.type_list_pop (fun pins s σ H x xs v us Q I rx rxs h => mt_popAt pins s σ H x xs v us Q I rx rxs h) (pe_ix (ix_dict (hu_of hr)) (pv 0) pe_str (fun _ _ => rfl)) (pa_cons pe_int pa_nil)) (pg_sub (pv 0) pe_str (set_dict (hu_of hr))))))
    (pss_cons (ps_if (pt_cmpR op_gt (pe_ix (ix_dict (hu_of hr)) (pv 0) pe_str (fun _ _ => rfl)) pe_int (nomark _)) (pss_cons (ps_asg (pe_op op_mod (pe_callTy call_int1 rfl B.int PyProof.Rows.boot_int (pa_cons (pe_ix (ix_dict (hu_of hr)) (pv 0) pe_str (fun _ _ => rfl)) pa_nil)) (pv 1)) (pg_name (i := 2) sc__law_draw.nd rfl (by first | exact Or.inl rfl | exact Or.inr rfl))) (pss_cons (ps_asg (pe_op op_fdiv (pe_ix (ix_dict (hu_of hr)) (pv 0) pe_str (fun _ _ => rfl)) (pv 1)) (pg_sub (pv 0) pe_str (set_dict (hu_of hr)))) (pss_one (ps_ret (pv 2))))) pss_nil)
    (pss_cons (ps_asg (pe_op op_add (pe_ix (ix_dict (hu_of hr)) (pv 0) pe_str (fun _ _ => rfl)) pe_int) (pg_name (i := 3) sc__law_draw.nd rfl (by first | exact Or.inl rfl | exact Or.inr rfl)))
    (pss_cons (ps_asg (pv 3) (pg_sub (pv 0) pe_str (set_dict (hu_of hr))))
    (pss_cons (ps_asg (pe_ifExp (pt_cmpR (op_neD hr.units) (pe_ix (ix_dict (hu_of hr)) (pv 0) pe_str (fun _ _ => rfl)) (pe_lst pa_nil) (nomark _)) (pe_ix ix_seq (pe_ix (ix_dict (hu_of hr)) (pv 0) pe_str (fun _ _ => rfl)) (pe_op op_mod (pe_callTy call_int1 rfl B.int PyProof.Rows.boot_int (pa_cons (pv 3) pa_nil)) (pe_callB call_len_seq rfl B.len boot_len' (pa_cons (pe_ix (ix_dict (hu_of hr)) (pv 0) pe_str (fun _ _ => rfl)) pa_nil))) (fun _ _ => rfl)) pe_int) (pg_name (i := 4) sc__law_draw.nd rfl (by first | exact Or.inl rfl | exact Or.inr rfl)))
    (pss_cons (ps_asg (pe_op op_mod (pe_callTy call_int1 rfl B.int PyProof.Rows.boot_int (pa_cons (pe_op op_pow (pe_op op_add (pe_op op_add (pe_op op_mod (pe_callTy call_int1 rfl B.int PyProof.Rows.boot_int (pa_cons (pv 4) pa_nil)) pe_int) (pe_op op_mul pe_int (pv 3))) pe_int) pe_int) pa_nil)) pe_int) (pg_name (i := 5) sc__law_draw.nd rfl (by first | exact Or.inl rfl | exact Or.inr rfl)))
    (pss_one (ps_ret (pe_op op_mod (pe_callTy call_int1 rfl B.int PyProof.Rows.boot_int (pa_cons (pe_op op_fdiv (pe_op op_mod (pe_callTy call_int1 rfl B.int PyProof.Rows.boot_int (pa_cons (pe_op op_pow (pe_op op_add (pv 5) (pe_op op_mul pe_int (pv 3))) pe_int) pa_nil)) pe_int) pe_int) pa_nil)) (pv 1))))))))))
theorem h__law_draw (T : Txt K mg) : Has P w K mg base 1 "_law_draw" p__law_draw (spS K mg drawPF) := has_of T.D__law_draw fun f fd Fn => ok__law_draw T Fn
/-! ### _law_pick -/
theorem d__law_pick (T : Txt K mg) (X : Cx) (F : Fd) (f : Addr) (cdv : Value) (A : Around) (outer : List Env) (s : Shared) (H G : Hp) (sa sl sc : Addr) (E : XK)
    (eX : X = cxOf (L2.CX P w) P w K mg base n__law_pick "_law_pick" (defScope st__law_pick) f cdv A outer s H E) (eF : F = fdS K mg sa sl sc H G (fun cls d _ H => E cls d H)) (tk : Takes X F.W) (hr : Room 1 X.A) : DSs X F (defBody st__law_pick) t__law_pick := by
  subst eX
  subst eF
  have h__law_draw := h__law_draw (P := P) (w := w) (base := base) T
  have B := T.B
  exact (dss_one (ds_ret (de_ix (hu_of hr) (db_pv 1 (pv 1)) (DB.of (de_S h__law_draw (hr.mono (by decide)) tk (da_cons (de_pv 0 (pv 0)) (da_cons (de_blt (call_lenD) B.len boot_len' (dab_cons (db_pv 1 (pv 1)) dab_nil)) da_nil)))))))
theorem ok__law_pick (T : Txt K mg) {f : Addr} {fd : FuncData} (Fn : Fun K "_law_pick" "_law_pick" st__law_pick f fd) : FnOk P w K mg base (L2.CX P w) 2 f fd p__law_pick (spS K mg pf__law_pick) :=
  ok_S Fn sc__law_pick l__law_pick (d__law_pick T) q__law_pick
theorem h__law_pick (T : Txt K mg) : Has P w K mg base 2 "_law_pick" p__law_pick (spS K mg pf__law_pick) := has_of T.D__law_pick fun f fd Fn => ok__law_pick T Fn
/-! ### _law_mixed -/
theorem d__law_mixed (T : Txt K mg) (X : Cx) (F : Fd) (f : Addr) (cdv : Value) (A : Around) (outer : List Env) (s : Shared) (H G : Hp) (sa sl sc : Addr) (E : XK)
    (eX : X = cxOf (L2.CX P w) P w K mg base n__law_mixed "_law_mixed" (defScope st__law_mixed) f cdv A outer s H E) (eF : F = fdS K mg sa sl sc H G (fun cls d _ H => E cls d H)) (tk : Takes X F.W) (hr : Room 1 X.A) : DSs X F (defBody st__law_mixed) t__law_mixed := by
  subst eX
  subst eF
  have h__law_draw := h__law_draw (P := P) (w := w) (base := base) T
  have B := T.B
  exact (dss_cons (ds_par2 2 3 sc__law_mixed.nd (dai_own (do_ty (call_listD') B.list boot_list' (dab_cons (db_pv 1 (pv 1)) dab_nil)) fun _ _ => (dai_own (do_lst da_nil) fun _ _ => dai_nil)) (by decide) rfl)
      (dss_cons (ds_while (passes_of rfl) (dt_cmp (op_neDD hr.units) (db_pv 2 (pv 2)) (DB.of (de_lst da_nil)))
      (dss_one (ds_appP 3 (dp_popAt 2 (de_S h__law_draw (hr.mono (by decide)) tk (da_cons (de_pv 0 (pv 0)) (da_cons (de_blt (call_lenD) B.len boot_len' (dab_cons (db_pv 2 (pv 2)) dab_nil)) da_nil)))))))
      (dss_freeze 3 (dss_one (ds_ret (de_pv 3 (pv 3)))))))
theorem ok__law_mixed (T : Txt K mg) {f : Addr} {fd : FuncData} (Fn : Fun K "_law_mixed" "_law_mixed" st__law_mixed f fd) : FnOk P w K mg base (L2.CX P w) 2 f fd p__law_mixed (spS K mg pf__law_mixed) :=
  ok_S Fn sc__law_mixed l__law_mixed (d__law_mixed T) q__law_mixed
theorem h__law_mixed (T : Txt K mg) : Has P w K mg base 2 "_law_mixed" p__law_mixed (spS K mg pf__law_mixed) := has_of T.D__law_mixed fun f fd Fn => ok__law_mixed T Fn
/-! ### _law_is_whole -/
theorem d__law_is_whole (T : Txt K mg) (X : Cx) (F : Fd) (f : Addr) (cdv : Value) (A : Around) (outer : List Env) (s : Shared) (H G : Hp) (sa sl sc : Addr) (E : XK)
    (eX : X = cxOf (L2.CX P w) P w K mg base n__law_is_whole "_law_is_whole" (defScope st__law_is_whole) f cdv A outer s H E) (eF : F = fdP K mg sa sl sc H G (fun cls d _ H => E cls d H)) (tk : Takes X F.W) (hr : Room 0 X.A) : DSs X F (defBody st__law_is_whole) t__law_is_whole := by
  subst eX
  subst eF
  have B := T.B
  exact (dss_one (ds_ret (de_and (de_isi .int (db_pv 0 (pv 0)) B.isinstance B.int PyProof.Rows.boot_int boot_isi) (de_one (de_not (de_isi .bool (db_pv 0 (pv 0)) B.isinstance B.bool PyProof.Rows.boot_bool boot_isi))))))
theorem ok__law_is_whole (T : Txt K mg) {f : Addr} {fd : FuncData} (Fn : Fun K "_law_is_whole" "_law_is_whole" st__law_is_whole f fd) : FnOk P w K mg base (L2.CX P w) 1 f fd p__law_is_whole (spP K mg pf__law_is_whole) :=
  ok_P Fn sc__law_is_whole l__law_is_whole (d__law_is_whole T) q__law_is_whole
theorem h__law_is_whole (T : Txt K mg) : Has P w K mg base 1 "_law_is_whole" p__law_is_whole (spP K mg pf__law_is_whole) := has_of T.D__law_is_whole fun f fd Fn => ok__law_is_whole T Fn
/-! ### _law_odd -/
theorem d__law_odd (T : Txt K mg) (X : Cx) (F : Fd) (f : Addr) (cdv : Value) (A : Around) (outer : List Env) (s : Shared) (H G : Hp) (sa sl sc : Addr) (E : XK)
    (eX : X = cxOf (L2.CX P w) P w K mg base n__law_odd "_law_odd" (defScope st__law_odd) f cdv A outer s H E) (eF : F = fdS K mg sa sl sc H G (fun cls d _ H => E cls d H)) (tk : Takes X F.W) (hr : Room 2 X.A) : DSs X F (defBody st__law_odd) t__law_odd := by
  subst eX
  subst eF
  have h__law_pick := h__law_pick (P := P) (w := w) (base := base) T
  have B := T.B
  exact (dss_one (ds_ret (de_S h__law_pick (hr.mono (by decide)) tk (da_cons (de_pv 0 (pv 0)) (da_cons (de_lst (da_cons de_non (da_cons de_bl (da_cons de_bl (da_cons de_str (da_cons de_str (da_cons (de_lst da_nil) (da_cons de_dictK (da_cons (de_tup (da_cons de_non da_nil)) (da_cons (de_tup (da_cons de_str (da_cons de_int da_nil))) (da_cons (de_lst (da_cons (de_lst (da_cons de_int da_nil)) da_nil)) (da_cons (DE.of (do_dispC [(.inl 0, .int 0)] [.int 0] (pps_cons pe_int pe_int pps_nil) rfl rfl (by intro z; cases z) (by decide) (by decide) (by rfl) fun _ _ => (RpL.cons (rp_int.mpr rfl) RpL.nil))) (da_cons (de_tup (da_cons de_bl da_nil)) (da_cons de_int (da_cons (de_neg (DB.of de_int)) da_nil))))))))))))))) da_nil)))))
theorem ok__law_odd (T : Txt K mg) {f : Addr} {fd : FuncData} (Fn : Fun K "_law_odd" "_law_odd" st__law_odd f fd) : FnOk P w K mg base (L2.CX P w) 3 f fd p__law_odd (spS K mg pf__law_odd) :=
  ok_S Fn sc__law_odd l__law_odd (d__law_odd T) q__law_odd
theorem h__law_odd (T : Txt K mg) : Has P w K mg base 3 "_law_odd" p__law_odd (spS K mg pf__law_odd) := has_of T.D__law_odd fun f fd Fn => ok__law_odd T Fn
/-! ### _law_is_from -/
theorem d__law_is_from (T : Txt K mg) (X : Cx) (F : Fd) (f : Addr) (cdv : Value) (A : Around) (outer : List Env) (s : Shared) (H G : Hp) (sa sl sc : Addr) (E : XK)
    (eX : X = cxOf (L2.CX P w) P w K mg base n__law_is_from "_law_is_from" (defScope st__law_is_from) f cdv A outer s H E) (eF : F = fdP K mg sa sl sc H G (fun cls d _ H => E cls d H)) (tk : Takes X F.W) (hr : Room 1 X.A) : DSs X F (defBody st__law_is_from) t__law_is_from := by
  subst eX
  subst eF
  have h__law_is_whole := h__law_is_whole (P := P) (w := w) (base := base) T
  exact (dss_one (ds_ret (de_and (de_P h__law_is_whole (hr.mono (by decide)) tk (da_cons (de_pv 0 (pv 0)) da_nil)) (de_one (de_chain (op_leD) (op_leD) (db_pv 1 (pv 1)) (db_pv 0 (pv 0)) (db_pv 2 (pv 2)))))))
theorem ok__law_is_from (T : Txt K mg) {f : Addr} {fd : FuncData} (Fn : Fun K "_law_is_from" "_law_is_from" st__law_is_from f fd) : FnOk P w K mg base (L2.CX P w) 2 f fd p__law_is_from (spP K mg pf__law_is_from) :=
  ok_P Fn sc__law_is_from l__law_is_from (d__law_is_from T) q__law_is_from
theorem h__law_is_from (T : Txt K mg) : Has P w K mg base 2 "_law_is_from" p__law_is_from (spP K mg pf__law_is_from) := has_of T.D__law_is_from fun f fd Fn => ok__law_is_from T Fn
/-! ### _law_prime -/
theorem d__law_prime (T : Txt K mg) (X : Cx) (F : Fd) (f : Addr) (cdv : Value) (A : Around) (outer : List Env) (s : Shared) (H G : Hp) (sa sl sc : Addr) (E : XK)
    (eX : X = cxOf (L2.CX P w) P w K mg base n__law_prime "_law_prime" (defScope st__law_prime) f cdv A outer s H E) (eF : F = fdS K mg sa sl sc H G (fun cls d _ H => E cls d H)) (tk : Takes X F.W) (hr : Room 2 X.A) : DSs X F (defBody st__law_prime) t__law_prime := by
  subst eX
  subst eF
  have h__law_pick := h__law_pick (P := P) (w := w) (base := base) T
  exact (dss_one (ds_ret (de_S h__law_pick (hr.mono (by decide)) tk (da_cons (de_pv 0 (pv 0)) (da_cons (de_lst (da_cons de_int (da_cons de_int (da_cons de_int (da_cons de_int da_nil))))) da_nil)))))
theorem ok__law_prime (T : Txt K mg) {f : Addr} {fd : FuncData} (Fn : Fun K "_law_prime" "_law_prime" st__law_prime f fd) : FnOk P w K mg base (L2.CX P w) 3 f fd p__law_prime (spS K mg pf__law_prime) :=
  ok_S Fn sc__law_prime l__law_prime (d__law_prime T) q__law_prime
theorem h__law_prime (T : Txt K mg) : Has P w K mg base 3 "_law_prime" p__law_prime (spS K mg pf__law_prime) := has_of T.D__law_prime fun f fd Fn => ok__law_prime T Fn
/-! ### _law_no_prime -/
theorem d__law_no_prime (T : Txt K mg) (X : Cx) (F : Fd) (f : Addr) (cdv : Value) (A : Around) (outer : List Env) (s : Shared) (H G : Hp) (sa sl sc : Addr) (E : XK)
    (eX : X = cxOf (L2.CX P w) P w K mg base n__law_no_prime "_law_no_prime" (defScope st__law_no_prime) f cdv A outer s H E) (eF : F = fdS K mg sa sl sc H G (fun cls d _ H => E cls d H)) (tk : Takes X F.W) (hr : Room 2 X.A) : DSs X F (defBody st__law_no_prime) t__law_no_prime := by
  subst eX
  subst eF
  have h__law_pick := h__law_pick (P := P) (w := w) (base := base) T
  have B := T.B
  exact (dss_one (ds_ret (de_S h__law_pick (hr.mono (by decide)) tk (da_cons (de_pv 0 (pv 0)) (da_cons (de_lst (da_cons de_non (da_cons de_int (da_cons de_int (da_cons de_int (da_cons de_int (da_cons de_int (da_cons de_int (da_cons de_int (da_cons (de_neg (DB.of de_int)) (da_cons de_bl (da_cons de_str (da_cons (de_tup (da_cons de_int da_nil)) (da_cons (de_lst (da_cons de_int da_nil)) (da_cons de_dictK (da_cons de_int da_nil)))))))))))))))) da_nil)))))
theorem ok__law_no_prime (T : Txt K mg) {f : Addr} {fd : FuncData} (Fn : Fun K "_law_no_prime" "_law_no_prime" st__law_no_prime f fd) : FnOk P w K mg base (L2.CX P w) 3 f fd p__law_no_prime (spS K mg pf__law_no_prime) :=
  ok_S Fn sc__law_no_prime l__law_no_prime (d__law_no_prime T) q__law_no_prime
theorem h__law_no_prime (T : Txt K mg) : Has P w K mg base 3 "_law_no_prime" p__law_no_prime (spS K mg pf__law_no_prime) := has_of T.D__law_no_prime fun f fd Fn => ok__law_no_prime T Fn
/-! ### _law_is_poly -/
theorem d__law_is_poly (T : Txt K mg) (X : Cx) (F : Fd) (f : Addr) (cdv : Value) (A : Around) (outer : List Env) (s : Shared) (H G : Hp) (sa sl sc : Addr) (E : XK)
    (eX : X = cxOf (L2.CX P w) P w K mg base n__law_is_poly "_law_is_poly" (defScope st__law_is_poly) f cdv A outer s H E) (eF : F = fdP K mg sa sl sc H G (fun cls d _ H => E cls d H)) (tk : Takes X F.W) (hr : Room 2 X.A) : DSs X F (defBody st__law_is_poly) t__law_is_poly := by
  subst eX
  subst eF
  have h__law_is_from := h__law_is_from (P := P) (w := w) (base := base) T
  have B := T.B
  exact (dss_cons (ds_if (dt_not (dt_tru (DB.of (de_isi .tup (db_pv 1 (pv 1)) B.isinstance B.tuple PyProof.Rows.boot_tuple boot_isi))))
      (dss_one (ds_ret de_bl))
      dss_nil)
      (dss_cons (ds_for (.one 2) (K := K) (passes_of rfl) rfl (di_any (de_pv 1 (pv 1))) (pg_name (i := 2) sc__law_is_poly.nd rfl (by first | exact Or.inl rfl | exact Or.inr rfl))
      (dss_cons (ds_if (dt_w (dw_or (dt_not (dt_tru (DB.of (de_isi .tup (db_pv 2 (pv 2)) B.isinstance B.tuple PyProof.Rows.boot_tuple boot_isi)))) (dw_or (dt_cmp (op_neDD hr.units) (DB.of (de_blt (call_lenD) B.len boot_len' (dab_cons (db_pv 2 (pv 2)) dab_nil))) (DB.of de_int)) (dw_or1 (dt_not (dt_tru (DB.of (de_P h__law_is_from (hr.mono (by decide)) tk (da_cons (de_ix (hu_of hr) (db_pv 2 (pv 2)) (DB.of de_int)) (da_cons de_int (da_cons (de_op op_subD (db_pv 0 (pv 0)) (DB.of de_int)) da_nil)))))))))))
      (dss_one (ds_ret de_bl))
      dss_nil)
      (dss_one (ds_if (dt_w (dw_or (dt_not (dt_tru (DB.of (de_P h__law_is_from (hr.mono (by decide)) tk (da_cons (de_ix (hu_of hr) (db_pv 2 (pv 2)) (DB.of de_int)) (da_cons de_int (da_cons de_int da_nil))))))) (dw_or1 (dt_not (dt_tru (DB.of (de_P h__law_is_from (hr.mono (by decide)) tk (da_cons (de_ix (hu_of hr) (db_pv 2 (pv 2)) (DB.of de_int)) (da_cons de_int (da_cons de_int da_nil))))))))))
      (dss_one (ds_ret de_bl))
      dss_nil))))
      (dss_one (ds_ret (de_cmp (op_eqDD hr.units) (DB.of (DE.of (do_lc (.tup [3, 4]) (K := K) [("_law_one", 3), ("_law_other", 4)] rfl sc__law_is_poly.nd (di_zip B.zip (da_cons (de_pv 1 (pv 1)) (da_cons (de_slice (db_pv 1 (pv 1)) (dpo_some de_int) dpo_none) da_nil))) (blkOk_by (show blkC n__law_is_poly (defScope st__law_is_poly) _ _ = true by decide +kernel)) (fun s H C cl fp H0 G0 => (pg_tup rfl (pgs_cons (pg_name (i := 3) sc__law_is_poly.nd rfl (by first | exact Or.inl rfl | exact Or.inr rfl)) (pgs_cons (pg_name (i := 4) sc__law_is_poly.nd rfl (by first | exact Or.inl rfl | exact Or.inr rfl)) pgs_nil)))) (fun s H C cl fp H0 G0 => (dts_one (dt_cmp (op_geD hr.units0) (DB.of (de_slice (db_pv 3 (pv 3)) dpo_none (dpo_some de_int))) (DB.of (de_slice (db_pv 4 (pv 4)) dpo_none (dpo_some de_int)))))) (fun s H C cl fp H0 G0 => de_int)))) (DB.of (de_lst da_nil)))))))
theorem ok__law_is_poly (T : Txt K mg) {f : Addr} {fd : FuncData} (Fn : Fun K "_law_is_poly" "_law_is_poly" st__law_is_poly f fd) : FnOk P w K mg base (L2.CX P w) 3 f fd p__law_is_poly (spP K mg pf__law_is_poly) :=
  ok_P Fn sc__law_is_poly l__law_is_poly (d__law_is_poly T) q__law_is_poly
theorem h__law_is_poly (T : Txt K mg) : Has P w K mg base 3 "_law_is_poly" p__law_is_poly (spP K mg pf__law_is_poly) := has_of T.D__law_is_poly fun f fd Fn => ok__law_is_poly T Fn
/-! ### _law_poly -/
theorem d__law_poly (T : Txt K mg) (X : Cx) (F : Fd) (f : Addr) (cdv : Value) (A : Around) (outer : List Env) (s : Shared) (H G : Hp) (sa sl sc : Addr) (E : XK)
    (eX : X = cxOf (L2.CX P w) P w K mg base n__law_poly "_law_poly" (defScope st__law_poly) f cdv A outer s H E) (eF : F = fdS K mg sa sl sc H G (fun cls d _ H => E cls d H)) (tk : Takes X F.W) (hr : Room 2 X.A) : DSs X F (defBody st__law_poly) t__law_poly := by
  subst eX
  subst eF
  have h__law_draw := h__law_draw (P := P) (w := w) (base := base) T
  have h__law_pick := h__law_pick (P := P) (w := w) (base := base) T
  have h__law_mixed := h__law_mixed (P := P) (w := w) (base := base) T
  have B := T.B
  exact (dss_cons (ds_set 4 sc__law_poly.nd (de_S h__law_draw (hr.mono (by decide)) tk (da_cons (de_pv 0 (pv 0)) (da_cons de_int da_nil))))
      (dss_cons (ds_if (dt_cmp (op_eqDD hr.units) (db_pv 4 (pv 4)) (DB.of de_int))
      (dss_one (ds_ret (de_S h__law_pick (hr.mono (by decide)) tk (da_cons (de_pv 0 (pv 0)) (da_cons (de_lst (da_cons (de_tup da_nil) (da_cons (de_tup (da_cons (de_tup (da_cons de_int (da_cons de_int (da_cons de_int da_nil)))) da_nil)) (da_cons (de_tup (da_cons (de_tup (da_cons de_int (da_cons de_int (da_cons (de_op op_subD (db_pv 1 (pv 1)) (DB.of de_int)) da_nil)))) da_nil)) (da_cons (de_tup (da_cons (de_tup (da_cons (de_pv 2 (pv 2)) (da_cons (de_pv 3 (pv 3)) (da_cons de_int da_nil)))) da_nil)) da_nil))))) da_nil)))))
      dss_nil)
      (dss_cons (ds_set 5 sc__law_poly.nd (de_lst da_nil))
      (dss_cons (ds_for (.one 6) (K := K) (passes_of rfl) rfl (di_range1 B.range (da_cons (de_op op_addD (db_pv 2 (pv 2)) (DB.of de_int)) da_nil)) (pg_name (i := 6) sc__law_poly.nd rfl (by first | exact Or.inl rfl | exact Or.inr rfl))
      (dss_one (ds_set 5 sc__law_poly.nd (de_op op_addD (db_pv 5 (pv 5)) (DB.of (DE.of (do_lc (.one 8) (K := K) [("_law_j", 8)] rfl sc__law_poly.nd (di_range1 B.range (da_cons (de_op op_addD (db_pv 3 (pv 3)) (DB.of de_int)) da_nil)) (blkOk_by (show blkC n__law_poly (defScope st__law_poly) _ _ = true by decide +kernel)) (fun s H C cl fp H0 G0 => (pg_name (i := 8) sc__law_poly.nd rfl (by first | exact Or.inl rfl | exact Or.inr rfl))) (fun s H C cl fp H0 G0 => dts_nil) (fun s H C cl fp H0 G0 => (de_tup (da_cons (de_pv 6 (pv 6)) (da_cons (de_pv 8 (pv 8)) da_nil)))))))))))
      (dss_cons (ds_if (dt_cmp (op_ltD hr.units0) (db_pv 4 (pv 4)) (DB.of de_int))
      (dss_one (ds_set 5 sc__law_poly.nd (de_slice (DB.of (de_S h__law_mixed (hr.mono (by decide)) tk (da_cons (de_pv 0 (pv 0)) (da_cons (de_pv 5 (pv 5)) da_nil)))) dpo_none (dpo_some (de_op op_addD (DB.of de_int) (DB.of (de_S h__law_draw (hr.mono (by decide)) tk (da_cons (de_pv 0 (pv 0)) (da_cons de_int da_nil)))))))))
      dss_nil)
      (dss_cons (ds_setLc 7 (.tup [6, 8]) (K := K) [("_law_i", 6), ("_law_j", 8)] rfl sc__law_poly.nd rfl rfl (sw_true rfl rfl rfl (by decide +kernel)) (di_any (DE.of (do_blt (call_sortedD') B.sorted boot_sorted' (dab_cons (db_pv 5 (pv 5)) dab_nil)))) (blkOk_by (show blkC n__law_poly (defScope st__law_poly) _ _ = true by decide +kernel)) (fun s H C cl fp H0 G0 => (pg_tup rfl (pgs_cons (pg_name (i := 6) sc__law_poly.nd rfl (by first | exact Or.inl rfl | exact Or.inr rfl)) (pgs_cons (pg_name (i := 8) sc__law_poly.nd rfl (by first | exact Or.inl rfl | exact Or.inr rfl)) pgs_nil)))) (fun s H C cl fp H0 G0 => dts_nil) (fun s H C cl fp H0 G0 => (de_tup (da_cons (de_pv 6 (pv 6)) (da_cons (de_pv 8 (pv 8)) (da_cons (de_S h__law_draw (hr.mono (by decide)) takes0 (da_cons (de_pv 0 (pv 0)) (da_cons (de_pv 1 (pv 1)) da_nil))) da_nil))))))
      (dss_freeze 7 (dss_one (ds_ret (de_ty (call_tupleD) B.tuple boot_tuple' (dab_cons (DB.of (DE.of (do_lc (.one 9) (K := K) [("_law_term", 9)] rfl sc__law_poly.nd (di_any (de_pv 7 (pv 7))) (blkOk_by (show blkC n__law_poly (defScope st__law_poly) _ _ = true by decide +kernel)) (fun s H C cl fp H0 G0 => (pg_name (i := 9) sc__law_poly.nd rfl (by first | exact Or.inl rfl | exact Or.inr rfl))) (fun s H C cl fp H0 G0 => (dts_one (dt_cmp (op_neDD hr.units) (DB.of (de_ix (hu_of hr) (db_pv 9 (pv 9)) (DB.of de_int))) (DB.of de_int)))) (fun s H C cl fp H0 G0 => (de_pv 9 (pv 9)))))) dab_nil)))))))))))
theorem ok__law_poly (T : Txt K mg) {f : Addr} {fd : FuncData} (Fn : Fun K "_law_poly" "_law_poly" st__law_poly f fd) : FnOk P w K mg base (L2.CX P w) 3 f fd p__law_poly (spS K mg pf__law_poly) :=
  ok_S Fn sc__law_poly l__law_poly (d__law_poly T) q__law_poly
theorem h__law_poly (T : Txt K mg) : Has P w K mg base 3 "_law_poly" p__law_poly (spS K mg pf__law_poly) := has_of T.D__law_poly fun f fd Fn => ok__law_poly T Fn
/-! ### _law_some -/
theorem d__law_some (T : Txt K mg) (X : Cx) (F : Fd) (f : Addr) (cdv : Value) (A : Around) (outer : List Env) (s : Shared) (H G : Hp) (sa sl sc : Addr) (E : XK)
    (eX : X = cxOf (L2.CX P w) P w K mg base n__law_some "_law_some" (defScope st__law_some) f cdv A outer s H E) (eF : F = fdS K mg sa sl sc H G (fun cls d _ H => E cls d H)) (tk : Takes X F.W) (hr : Room 3 X.A) : DSs X F (defBody st__law_some) t__law_some := by
  subst eX
  subst eF
  have h__law_poly := h__law_poly (P := P) (w := w) (base := base) T
  have h__law_draw := h__law_draw (P := P) (w := w) (base := base) T
  have B := T.B
  exact (dss_cons (ds_set 4 sc__law_some.nd (de_S h__law_poly (hr.mono (by decide)) tk (da_cons (de_pv 0 (pv 0)) (da_cons (de_pv 1 (pv 1)) (da_cons (de_pv 2 (pv 2)) (da_cons (de_pv 3 (pv 3)) da_nil))))))
      (dss_one (ds_ret (de_if (dt_cmp (op_neDD hr.units) (db_pv 4 (pv 4)) (DB.of (de_tup da_nil))) (de_pv 4 (pv 4)) (de_tup (da_cons (de_tup (da_cons (de_S h__law_draw (hr.mono (by decide)) tk (da_cons (de_pv 0 (pv 0)) (da_cons (de_op op_addD (db_pv 2 (pv 2)) (DB.of de_int)) da_nil))) (da_cons (de_S h__law_draw (hr.mono (by decide)) tk (da_cons (de_pv 0 (pv 0)) (da_cons (de_op op_addD (db_pv 3 (pv 3)) (DB.of de_int)) da_nil))) (da_cons (de_op op_addD (DB.of de_int) (DB.of (de_S h__law_draw (hr.mono (by decide)) tk (da_cons (de_pv 0 (pv 0)) (da_cons (de_op op_subD (db_pv 1 (pv 1)) (DB.of de_int)) da_nil))))) da_nil)))) da_nil))))))
theorem ok__law_some (T : Txt K mg) {f : Addr} {fd : FuncData} (Fn : Fun K "_law_some" "_law_some" st__law_some f fd) : FnOk P w K mg base (L2.CX P w) 4 f fd p__law_some (spS K mg pf__law_some) :=
  ok_S Fn sc__law_some l__law_some (d__law_some T) q__law_some
theorem h__law_some (T : Txt K mg) : Has P w K mg base 4 "_law_some" p__law_some (spS K mg pf__law_some) := has_of T.D__law_some fun f fd Fn => ok__law_some T Fn
/-! ### _law_no_poly -/
theorem d__law_no_poly (T : Txt K mg) (X : Cx) (F : Fd) (f : Addr) (cdv : Value) (A : Around) (outer : List Env) (s : Shared) (H G : Hp) (sa sl sc : Addr) (E : XK)
    (eX : X = cxOf (L2.CX P w) P w K mg base n__law_no_poly "_law_no_poly" (defScope st__law_no_poly) f cdv A outer s H E) (eF : F = fdS K mg sa sl sc H G (fun cls d _ H => E cls d H)) (tk : Takes X F.W) (hr : Room 4 X.A) : DSs X F (defBody st__law_no_poly) t__law_no_poly := by
  subst eX
  subst eF
  have h__law_some := h__law_some (P := P) (w := w) (base := base) T
  have h__law_draw := h__law_draw (P := P) (w := w) (base := base) T
  have h__law_pick := h__law_pick (P := P) (w := w) (base := base) T
  have h__law_is_poly := h__law_is_poly (P := P) (w := w) (base := base) T
  have B := T.B
  exact (dss_cons (ds_set 2 sc__law_no_poly.nd (de_S h__law_some (hr.mono (by decide)) tk (da_cons (de_pv 0 (pv 0)) (da_cons (de_pv 1 (pv 1)) (da_cons de_int (da_cons de_int da_nil))))))
      (dss_cons (ds_set 3 sc__law_no_poly.nd (de_S h__law_draw (hr.mono (by decide)) tk (da_cons (de_pv 0 (pv 0)) (da_cons (de_blt (call_lenD) B.len boot_len' (dab_cons (db_pv 2 (pv 2)) dab_nil)) da_nil))))
      (dss_cons (ds_tg (.tup [4, 5, 6]) (K := K) (de_ix (hu_of hr) (db_pv 2 (pv 2)) (db_pv 3 (pv 3))) (pg_tup rfl (pgs_cons (pg_name (i := 4) sc__law_no_poly.nd rfl (by first | exact Or.inl rfl | exact Or.inr rfl)) (pgs_cons (pg_name (i := 5) sc__law_no_poly.nd rfl (by first | exact Or.inl rfl | exact Or.inr rfl)) (pgs_cons (pg_name (i := 6) sc__law_no_poly.nd rfl (by first | exact Or.inl rfl | exact Or.inr rfl)) pgs_nil)))))
      (dss_cons (ds_setO 7 sc__law_no_poly.nd (do_lst (da_cons (de_tup (da_cons (de_pv 4 (pv 4)) (da_cons (de_pv 5 (pv 5)) (da_cons de_int da_nil)))) (da_cons (de_tup (da_cons (de_pv 4 (pv 4)) (da_cons (de_pv 5 (pv 5)) (da_cons (de_pv 1 (pv 1)) da_nil)))) (da_cons (de_tup (da_cons (de_pv 4 (pv 4)) (da_cons (de_pv 5 (pv 5)) (da_cons (de_neg (DB.of de_int)) da_nil)))) (da_cons (de_tup (da_cons (de_neg (DB.of de_int)) (da_cons (de_pv 5 (pv 5)) (da_cons (de_pv 6 (pv 6)) da_nil)))) (da_cons (de_tup (da_cons de_int (da_cons (de_pv 5 (pv 5)) (da_cons (de_pv 6 (pv 6)) da_nil)))) (da_cons (de_tup (da_cons (de_pv 4 (pv 4)) (da_cons de_int (da_cons (de_pv 6 (pv 6)) da_nil)))) (da_cons (de_tup (da_cons (de_pv 4 (pv 4)) (da_cons (de_pv 5 (pv 5)) da_nil))) (da_cons (de_tup (da_cons (de_pv 4 (pv 4)) (da_cons (de_pv 5 (pv 5)) (da_cons (de_pv 6 (pv 6)) (da_cons de_int da_nil))))) da_nil))))))))))
      (dss_cons (ds_setLc 7 (.one 8) (K := K) [("_law_term", 8)] rfl sc__law_no_poly.nd rfl rfl (sw_true rfl rfl rfl (by decide +kernel)) (di_any (de_op op_addD (db_pv 7 (pv 7)) (DB.of (de_lst (da_cons (de_lst (da_cons (de_pv 4 (pv 4)) (da_cons (de_pv 5 (pv 5)) (da_cons (de_pv 6 (pv 6)) da_nil)))) (da_cons de_non (da_cons (de_tup (da_cons (de_pv 4 (pv 4)) (da_cons (de_pv 5 (pv 5)) (da_cons de_bl da_nil)))) (da_cons (de_tup (da_cons (de_pv 4 (pv 4)) (da_cons (de_pv 5 (pv 5)) (da_cons de_str da_nil)))) (da_cons (de_tup (da_cons de_non (da_cons (de_pv 5 (pv 5)) (da_cons (de_pv 6 (pv 6)) da_nil)))) da_nil))))))))) (blkOk_by (show blkC n__law_no_poly (defScope st__law_no_poly) _ _ = true by decide +kernel)) (fun s H C cl fp H0 G0 => (pg_name (i := 8) sc__law_no_poly.nd rfl (by first | exact Or.inl rfl | exact Or.inr rfl))) (fun s H C cl fp H0 G0 => dts_nil) (fun s H C cl fp H0 G0 => (de_op op_addD (DB.of (de_op op_addD (DB.of (de_slice (db_pv 2 (pv 2)) dpo_none (dpo_some (de_pv 3 (pv 3))))) (DB.of (de_tup (da_cons (de_pv 8 (pv 8)) da_nil))))) (DB.of (de_slice (db_pv 2 (pv 2)) (dpo_some (de_op op_addD (db_pv 3 (pv 3)) (DB.of de_int))) dpo_none)))))
      (dss_cons (ds_if (dt_cmp (op_ltD hr.units0) (db_pv 4 (pv 4)) (DB.of de_int))
      (dss_one (ds_app 7 (de_op op_addD (DB.of (de_op op_addD (DB.of (de_slice (db_pv 2 (pv 2)) dpo_none (dpo_some (de_pv 3 (pv 3))))) (DB.of (de_tup (da_cons (de_tup (da_cons (de_cmp (op_eqDD hr.units) (db_pv 4 (pv 4)) (DB.of de_int)) (da_cons (de_pv 5 (pv 5)) (da_cons (de_pv 6 (pv 6)) da_nil)))) da_nil))))) (DB.of (de_slice (db_pv 2 (pv 2)) (dpo_some (de_op op_addD (db_pv 3 (pv 3)) (DB.of de_int))) dpo_none)))))
      dss_nil)
      (dss_cons (ds_set 7 sc__law_no_poly.nd (de_op op_addD (db_pv 7 (pv 7)) (DB.of (de_lst (da_cons (DE.of (do_ty (call_listD') B.list boot_list' (dab_cons (db_pv 2 (pv 2)) dab_nil))) (da_cons (de_op op_addD (db_pv 2 (pv 2)) (DB.of (de_slice (db_pv 2 (pv 2)) (dpo_some (de_neg (DB.of de_int))) dpo_none))) (da_cons (de_if (dt_cmp (op_eqDD hr.units) (DB.of (de_blt (call_lenD) B.len boot_len' (dab_cons (db_pv 2 (pv 2)) dab_nil))) (DB.of de_int)) (de_op op_addD (DB.of (de_tup (da_cons (de_ix (hu_of hr) (db_pv 2 (pv 2)) (DB.of (de_neg (DB.of de_int)))) da_nil))) (DB.of (de_slice (db_pv 2 (pv 2)) dpo_none (dpo_some de_int)))) (de_revT (db_pv 2 (pv 2)))) (da_cons de_non (da_cons de_int (da_cons de_str (da_cons de_dictK (da_cons (de_tup (da_cons de_int da_nil)) da_nil))))))))))))
      (dss_one (ds_ret (de_S h__law_pick (hr.mono (by decide)) tk (da_cons (de_pv 0 (pv 0)) (da_cons (DE.of (do_lc (.one 9) (K := K) [("_law_item", 9)] rfl sc__law_no_poly.nd (di_any (de_pv 7 (pv 7))) (blkOk_by (show blkC n__law_no_poly (defScope st__law_no_poly) _ _ = true by decide +kernel)) (fun s H C cl fp H0 G0 => (pg_name (i := 9) sc__law_no_poly.nd rfl (by first | exact Or.inl rfl | exact Or.inr rfl))) (fun s H C cl fp H0 G0 => (dts_one (dt_not (dt_tru (DB.of (de_P h__law_is_poly (hr.mono (by decide)) takes0 (da_cons (de_pv 1 (pv 1)) (da_cons (de_pv 9 (pv 9)) da_nil)))))))) (fun s H C cl fp H0 G0 => (de_pv 9 (pv 9))))) da_nil))))))))))))
theorem ok__law_no_poly (T : Txt K mg) {f : Addr} {fd : FuncData} (Fn : Fun K "_law_no_poly" "_law_no_poly" st__law_no_poly f fd) : FnOk P w K mg base (L2.CX P w) 5 f fd p__law_no_poly (spS K mg pf__law_no_poly) :=
  ok_S Fn sc__law_no_poly l__law_no_poly (d__law_no_poly T) q__law_no_poly
theorem h__law_no_poly (T : Txt K mg) : Has P w K mg base 5 "_law_no_poly" p__law_no_poly (spS K mg pf__law_no_poly) := has_of T.D__law_no_poly fun f fd Fn => ok__law_no_poly T Fn
/-! ### law -/
theorem d_law (T : Txt K mg) {TT : List (Addr × Str)} {c P0 : Addr} (X : Cx) (F : Fd) (f : Addr) (cdv : Value) (A : Around) (outer : List Env) (s : Shared) (H G : Hp) (sa sl sc : Addr) (E : XK)
    (eX : X = cxOf (L2.CX P w) P w K mg base n_law "law" (defScope st_law) f cdv A outer s H E) (eF : F = fdL K mg sa sl sc TT G) (nt : NoTbl F) (hr : Room 8 X.A) (TB : LamX.TabB base mg c P0) (hcode : X.env.code = .ref c) (hmT : (P0, X.env.qual ++ "<lambda>") ∈ TT) (hu : ∀ p ∈ TT, p.1 = P0 → p.2 = X.env.qual ++ "<lambda>") (hgd : X.A.guards = some []) : DSs X F (defBody st_law).tail t_law := by
  subst eX
  subst eF
  have h__law_prime := h__law_prime (P := P) (w := w) (base := base) T
  have h__law_some := h__law_some (P := P) (w := w) (base := base) T
  have h__law_pick := h__law_pick (P := P) (w := w) (base := base) T
  have h__law_no_poly := h__law_no_poly (P := P) (w := w) (base := base) T
  have h__law_odd := h__law_odd (P := P) (w := w) (base := base) T
  have h__law_is_poly := h__law_is_poly (P := P) (w := w) (base := base) T
  have h_is_poly := h_is_poly (P := P) (w := w) (base := base) T
  have h__law_no_prime := h__law_no_prime (P := P) (w := w) (base := base) T
  have hk_is_poly := hk_is_poly_1_0 (P := P) (w := w) (base := base) T
  have B := T.B
  have I_BadPrime := T.I_BadPrime
  have D_caught := T.D__law_caught
  obtain ⟨CS, mFill, hFill⟩ := T.fill
  have tk : Takes (cxOf (L2.CX P w) P w K mg base n_law "law" (defScope st_law) f cdv A outer s H E) noW := takes0
  exact (dss_cons (ds_for (.one 2) (K := K) (passes_of rfl) rfl (di_range1 B.range (da_cons (de_op op_addD (DB.of de_int) (DB.of (de_blt (call_min2D rfl) B.min boot_min' (dab_cons (DB.of (de_blt (call_lenD) B.len boot_len' (dab_cons (db_pv 0 (pv 0)) dab_nil))) (dab_cons (DB.of de_int) dab_nil))))) da_nil)) (pg_name (i := 2) sc_law.nd rfl (by first | exact Or.inl rfl | exact Or.inr rfl))
      (dss_cons (ds_set 3 sc_law.nd (de_S h__law_prime (hr.mono (by decide)) tk (da_cons (de_pv 1 (pv 1)) da_nil)))
      (dss_cons (ds_set 4 sc_law.nd (de_S h__law_some (hr.mono (by decide)) tk (da_cons (de_pv 1 (pv 1)) (da_cons (de_pv 3 (pv 3)) (da_cons de_int (da_cons de_int da_nil))))))
      (dss_cons (ds_set 5 sc_law.nd (de_tup (da_cons (de_tup (da_cons de_int (da_cons de_int (da_cons de_int da_nil)))) (da_cons (de_tup (da_cons (de_S h__law_pick (hr.mono (by decide)) tk (da_cons (de_pv 1 (pv 1)) (da_cons (de_lst (da_cons de_int (da_cons de_int (da_cons de_int da_nil)))) da_nil))) (da_cons (de_S h__law_pick (hr.mono (by decide)) tk (da_cons (de_pv 1 (pv 1)) (da_cons (de_lst (da_cons de_int (da_cons de_int (da_cons de_int da_nil)))) da_nil))) (da_cons de_int da_nil)))) da_nil))))
      (dss_cons (ds_for (.one 6) (K := K) (passes_of rfl) rfl (di_any (de_lst (da_cons (de_pv 4 (pv 4)) (da_cons (de_tup da_nil) (da_cons (de_pv 5 (pv 5)) (da_cons (de_S h__law_no_poly (hr.mono (by decide)) tk (da_cons (de_pv 1 (pv 1)) (da_cons (de_pv 3 (pv 3)) da_nil))) (da_cons (de_S h__law_no_poly (hr.mono (by decide)) tk (da_cons (de_pv 1 (pv 1)) (da_cons (de_pv 3 (pv 3)) da_nil))) (da_cons (de_S h__law_odd (hr.mono (by decide)) tk (da_cons (de_pv 1 (pv 1)) da_nil)) (da_cons (de_slice (db_pv 4 (pv 4)) dpo_none (dpo_some de_int)) (da_cons (de_op op_addD (db_pv 4 (pv 4)) (DB.of (de_tup (da_cons (de_tup (da_cons de_int (da_cons de_int (da_cons de_int da_nil)))) da_nil)))) da_nil)))))))))) (pg_name (i := 6) sc_law.nd rfl (by first | exact Or.inl rfl | exact Or.inr rfl))
      (dss_one (ds_for (.one 7) (K := K) (passes_of rfl) rfl (di_any (de_lst (da_cons (de_pv 3 (pv 3)) (da_cons (de_S h__law_prime (hr.mono (by decide)) tk (da_cons (de_pv 1 (pv 1)) da_nil)) da_nil)))) (pg_name (i := 7) sc_law.nd rfl (by first | exact Or.inl rfl | exact Or.inr rfl))
      (dss_cons (ds_set 8 sc_law.nd (de_P h__law_is_poly (hr.mono (by decide)) tk (da_cons (de_pv 7 (pv 7)) (da_cons (de_pv 6 (pv 6)) da_nil))))
      (dss_one (ds_if (dt_cmp (op_neDD hr.units) (DB.of (de_blt (call_reprD hgd (hr65 hr)) B.repr boot_repr' (dab_cons (DB.of (de_lst (da_cons (de_P h_is_poly (hr.mono (by decide)) tk (da_cons (de_pv 7 (pv 7)) (da_cons (de_pv 6 (pv 6)) da_nil))) (da_cons (de_PK hk_is_poly (hr.mono (by decide)) tk (dk_cons (de_pv 6 (pv 6)) (dk_cons (de_pv 7 (pv 7)) dk_nil))) da_nil)))) dab_nil))) (DB.of (de_blt (call_reprD hgd (hr65 hr)) B.repr boot_repr' (dab_cons (DB.of (de_lst (da_cons (de_pv 8 (pv 8)) (da_cons (de_pv 8 (pv 8)) da_nil)))) dab_nil))))
      (dss_one (ds_ret de_bl))
      dss_nil))))))
      (dss_cons (ds_set 9 sc_law.nd (de_S h__law_no_prime (hr.mono (by decide)) tk (da_cons (de_pv 1 (pv 1)) da_nil)))
      (dss_one (ds_if (dt_not (dt_tru (DB.of (de_isX I_BadPrime (DB.of (de_caught (k := 5) D_caught sc__law_caught rfl (Or.inl rfl) (fun g cdv => caught_gives "error" rfl sc__law_caught.nd rfl mFill (by decide) rfl rfl (by decide) (by decide) (by decide) (by decide)) TB hcode hmT hu nt hFill (hr.mono (by decide)) (LamX.lamS_by (show LamX.lamSB (defScope st_law) _ = true by decide +kernel)) (fun A outer s H E f c' hr H0 G0 => (de_P h_is_poly (hr.mono (by decide)) (takes_of rfl rfl rfl rfl) (da_cons (de_pv 9 (pv 9)) (da_cons (de_pv 4 (pv 4)) da_nil)))))) B.isinstance))))
      (dss_one (ds_ret de_bl))
      dss_nil))))))))
      (dss_one (ds_ret de_bl)))
theorem law_here {fa f3 c P0 : Addr} {h : Heap} {oc : Value} {od an : Option Addr} {osl : Array (Option Value)} {kV doc pm cdv ct : Value} (T : Txt K mg) (KX : K.In h) (G : h.Ns mainGlobals mg) (hfa : mg "law" = some (.ref fa)) (a3 : PySem.W.nsIn K mainGlobals "law" = some (some (.ref f3))) (lk : K.lookup f3 = some ⟨oc, od, .func (PySem.W.fnOf "law" "law" (defArgs st_law) (defBody st_law) (defScope st_law) .none kV doc pm an cdv ct), osl⟩) (hcd : PySem.W.codeIn K cdv "law" = true) (kp : PySem.W.keepIn K (.ref f3) = true) (cdv_eq : cdv = .ref c) (hc : PySem.W.CodeHd h c P0) (ht : h.get? P0 = some { cls := .none, data := .fields #[] }) (hk : K.lookup P0 = none)
    (main : ∀ ns : List Int, ns.length ≤ 63 → t_law lawD ((envAt n_law.length [.scr ns]).set 1 (.val .st)) 0) : LawHere PySem.Challenge.rw_rowsfilled_k01_polys_judged w K 63 mg fa h := by
  have e := hfa.symm.trans (PySem.W.mg_of KX G a3)
  cases e
  refine ⟨[(c, P0)], (fun p hp => by rw [List.mem_singleton.mp hp]; exact ht), (fun p hp => by rw [List.mem_singleton.mp hp]; exact hk), (fun p hp => by rw [List.mem_singleton.mp hp]; exact hc), fun s base H a ns hl tb tH tO hS e0 => ?_⟩
  have Fn := fun_mk (st := st_law) lk hcd kp
  refine law_runC (st := st_law) (k := 8) (N := n_law) lk hcd (Fn.binds fun _ _ _ _ _ _ us hl => match us, hl with | [_], _ => rfl) sc_law ⟨rfl, by decide, by decide⟩ e0 fun hr => ?_
  exact law_PSs (Q := fun v _ => v = .bl true) (i := 1) (y := "_law_state") (T := [(P0, (cxOf (L2.CX PySem.Challenge.rw_rowsfilled_k01_polys_judged.prog w) PySem.Challenge.rw_rowsfilled_k01_polys_judged.prog w K mg base n_law "law" (defScope st_law) fa cdv callerA [] s H (fun _ _ _ => False)).env.qual ++ "<lambda>")]) (rest := (defBody st_law).tail) (by rfl) (by rfl) (h__law_begun T) (hr.mono (by decide)) sc_law.nd (by rfl) (by first | exact Or.inl rfl | exact Or.inr rfl) (by first | exact .inl rfl | exact .inr rfl) (pv 0) (by decide) (by rfl) (by rfl)
    (fun sa sl sc G ng => d_law (base := base) T _ _ fa cdv callerA [] s H G sa sl sc (fun _ _ _ => False) rfl rfl (noTbl_L ng) hr (tb (c, P0) (List.mem_singleton.mpr rfl)) cdv_eq (List.mem_singleton.mpr rfl) (fun p hp _ => by rw [List.mem_singleton.mp hp]) guards_law) (main ns hl) (fun p hp => by rw [List.mem_singleton.mp hp]; exact tH _ (List.mem_singleton.mpr rfl)) hS hl (fun _ => rfl)
end
end K01
set_option Elab.async false
set_option linter.all false
set_option maxRecDepth 100000
set_option maxHeartbeats 1000000
namespace K01
open PySem PySem.Spec L2 DL KC
theorem judge_odd {d : D} (h : d ∈ ([.non, .bl true, .bl false, .str "0", .str "", .lst [], .dic false [] [], .tup [.non], .tup [.str "a", .int 1], .lst [.lst [.int 0]], .dic false [.int 0] [.int 0], .tup [.bl true], .int 5, .int (-1)] : List D)) : judge d := by
  simp only [List.mem_cons, List.not_mem_nil, or_false] at h
  rcases h with rfl | rfl | rfl | rfl | rfl | rfl | rfl | rfl | rfl | rfl | rfl | rfl | rfl | rfl
  · exact judge_other rfl (fun _ => nofun)
  · exact judge_other rfl (fun _ => nofun)
  · exact judge_other rfl (fun _ => nofun)
  · exact judge_other rfl (fun _ => nofun)
  · exact judge_other rfl (fun _ => nofun)
  · exact judge_other rfl (fun _ => nofun)
  · exact judge_other rfl (fun _ => nofun)
  · exact judge_tup (List.all_eq_true.mp (show List.all _ tyd1 = true from rfl)) (by simp)
  · exact judge_tup (List.all_eq_true.mp (show List.all _ tyd1 = true from rfl)) (by simp)
  · exact judge_other rfl (fun _ => nofun)
  · exact judge_other rfl (fun _ => nofun)
  · exact judge_tup (List.all_eq_true.mp (show List.all _ tyd1 = true from rfl)) (by simp)
  · exact judge_other rfl (fun _ => nofun)
  · exact judge_other rfl (fun _ => nofun)
theorem prm_of {p : Int} (h : p = 2 ∨ p = 3 ∨ p = 5 ∨ p = 7) : isPrm (.int p) = true := by
  rcases h with rfl | rfl | rfl | rfl <;> rfl
/-- one item, one number -/
theorem item_ok {q : Int} {d : D} (hq : q = 2 ∨ q = 3 ∨ q = 5 ∨ q = 7) (hj : judge d) {s0 s1 s2 s3 s4 s5 s8 s9 : Slot} {D0 : EndsD} {c : Nat}
    (h : D0.nx [s0, s1, s2, s3, s4, s5, .val d, .val (.int q), .val (.bl (isPolyD q d)), s9] c) :
    (tSeqD (tSetD 8 (tCallP pf__law_is_poly (tConsD (tVarD 7) (tConsD (tVarD 6) tNilD))))
  (tIfSD (tTestD (tOpD neD (tCallD reprD (tConsD (tLstD (tConsD (tCallP pf_is_poly (tConsD (tVarD 7) (tConsD (tVarD 6) tNilD))) (tConsD (tCallPK pf_is_poly [1, 0] (tConsD (tVarD 6) (tConsD (tVarD 7) tNilD))) tNilD))) tNilD)) (tCallD reprD (tConsD (tLstD (tConsD (tVarD 8) (tConsD (tVarD 8) tNilD))) tNilD))))
  (tRetD (tCD (.bl false)))
  tNextD)) D0 [s0, s1, s2, s3, s4, s5, .val d, .val (.int q), s8, s9] c := by
  simp
  refine s__law_is_poly hj ?_
  refine s_is_poly rfl hj ?_
  rw [if_pos (prm_of hq)]
  simp
  refine s_is_poly rfl hj ?_
  rw [if_pos (prm_of hq)]
  dsimp only
  generalize isPolyD q d = b at h ⊢
  have h1 : showD (.lst [.bl b, .bl b]) = true := by cases b <;> decide +kernel
  have h2 : PyData.strOk (textD (.lst [.bl b, .bl b])) = true := by cases b <;> decide +kernel
  simp [h1, h2]
  exact h
theorem main : ∀ ns : List Int, ns.length ≤ 63 → t_law lawD ((envAt n_law.length [.scr ns]).set 1 (.val .st)) 0 := by
  intro ns hns
  unfold t_law
  refine st_seq fun N0 hN0 => ?_
  simp [-loopD]
  obtain ⟨m, hm, hm2⟩ : ∃ m : Nat, (3 + if 8 < (ns.length : Int) then 8 else (ns.length : Int)) = (m : Int) ∧ m ≤ 11 := by
    by_cases h : 8 < (ns.length : Int)
    · exact ⟨11, by rw [if_pos h]; rfl, by omega⟩
    · exact ⟨3 + ns.length, by rw [if_neg h]; simp, by omega⟩
  rw [hm]
  refine ⟨by unfold smallI; omega, ?_⟩
  rw [Int.toNat_natCast]
  refine loop_rng (fun k env c => c ≤ k * 100000 ∧ ∃ s2 s3 s4 s5 s6 s7 s8 s9, env = [.val (.scr ns), .val .st, s2, s3, s4, s5, s6, s7, s8, s9]) 0 m ?_ ?_ _ _ ⟨by simp, _, _, _, _, _, _, _, _, rfl⟩
  · rintro k hk N hN env c ⟨hc, s2, s3, s4, s5, s6, s7, s8, s9, rfl⟩
    have hk2 : c + 100000 ≤ (k + 1) * 100000 := by omega
    have hcap : (k + 1) * 100000 ≤ cap := by unfold cap; omega
    simp only [Tg.set, List.set_cons_succ, List.set_cons_zero]
    refine st_seq fun N1 hN1 => ?_
    simp
    refine s__law_prime (by omega) fun p hp => hN1 _ _ ?_
    have p1 : 2 ≤ p ∧ p ≤ 7 := by omega
    refine st_seq fun N2 hN2 => ?_
    simp
    refine s__law_some (mx := 6) (my := 6) (by omega) p1.1 p1.2 (by omega) (by omega) fun ts c1 hne hg h1 h2 => hN2 _ _ ?_
    have hts : ∀ x ∈ ts.map encT, tyd1 x = true := fun x hx => by obtain ⟨t, _, rfl⟩ := List.mem_map.mp hx; rfl
    have hlen : ts.length ≤ 49 := hg.length
    refine st_seq fun N3 hN3 => ?_
    simp
    refine s__law_pick (by omega) (by simp) (by simp) fun d1 hd1 => ?_
    refine s__law_pick (by omega) (by simp) (by simp) fun d2 hd2 => hN3 _ _ ?_
    refine st_seq fun N4 hN4 => ?_
    simp [-loopD, encP]
    refine s__law_no_poly (by omega) p1.1 p1.2 fun i1 c2 j1 _ g1 g2 => ?_
    refine s__law_no_poly (by omega) p1.1 p1.2 fun i2 c3 j2 _ g3 g4 => ?_
    refine s__law_odd (by omega) fun i3 hi3 => ?_
    refine ⟨by rw [sizeLine_eq]; omega, ?_⟩
    have jd : judge (.tup [.tup [.int 0, .int 999, .int 1], .tup [d1, d2, .int 1]]) := by
      simp at hd1 hd2
      refine judge_tup ?_ (by simp)
      rcases hd1 with rfl | rfl | rfl <;> rcases hd2 with rfl | rfl | rfl <;> simp [tyd1]
    have ja : ∀ x ∈ [encP ts, .tup [], .tup [.tup [.int 0, .int 999, .int 1], .tup [d1, d2, .int 1]], i1, i2, i3, .tup (cutD (ts.map encT) none (some 1)), .tup (ts.map encT ++ [.tup [.int 7, .int 7, .int 1]])], judge x := fun x hx => by
      simp only [List.mem_cons, List.not_mem_nil, or_false] at hx
      rcases hx with rfl | rfl | rfl | rfl | rfl | rfl | rfl | rfl
      · exact judge_enc (by omega)
      · exact judge_tup (by simp) (by simp)
      · exact jd
      · exact j1
      · exact j2
      · exact judge_odd hi3
      · exact judge_tup (fun y hy => hts y (cut_mem hy)) (Nat.le_trans (cut_len _ _ _) (by rw [List.length_map]; omega))
      · refine judge_tup (fun y hy => ?_) (by simp; omega)
        rw [List.mem_append, List.mem_singleton] at hy
        rcases hy with hy | rfl
        · exact hts y hy
        · rfl
    refine loop_inv (fun rest env c => (∀ x ∈ rest, judge x) ∧ c + rest.length ≤ c3 + 20 ∧ ∃ s6 s7 s8, env = [.val (.scr ns), .val .st, .val (.int k), .val (.int p), .val (encP ts), .val (.tup [.tup [.int 0, .int 999, .int 1], .tup [d1, d2, .int 1]]), s6, s7, s8, s9]) ?_ ?_ _ _ _ ⟨ja, by simp, s6, s7, s8, rfl⟩
    · rintro d ds N5 hN5 env c4 ⟨hj, hc4, s6, s7, s8, rfl⟩
      have hjd := hj d (List.mem_cons_self ..)
      rw [List.length_cons] at hc4
      simp [-loopD]
      refine s__law_prime (by omega) fun q hq => ?_
      refine loop_inv (fun rest env c => (∀ x ∈ rest, ∃ q : Int, x = .int q ∧ (q = 2 ∨ q = 3 ∨ q = 5 ∨ q = 7)) ∧ c = c4 + 1 ∧ ∃ s7 s8, env = [.val (.scr ns), .val .st, .val (.int k), .val (.int p), .val (encP ts), .val (.tup [.tup [.int 0, .int 999, .int 1], .tup [d1, d2, .int 1]]), .val d, s7, s8, s9]) ?_ ?_ _ _ _ ⟨fun x hx => ?_, rfl, s7, s8, rfl⟩
      · rintro x xs N6 hN6 env c5 ⟨hx, rfl, s7, s8, rfl⟩
        obtain ⟨q', rfl, hq'⟩ := hx x (List.mem_cons_self ..)
        simp only [Tg.set, List.set_cons_succ, List.set_cons_zero]
        exact item_ok hq' hjd (hN6 _ _ ⟨fun y hy => hx y (List.mem_cons_of_mem _ hy), rfl, _, _, rfl⟩)
      · rintro env c5 ⟨_, rfl, s7, s8, rfl⟩
        exact hN5 _ _ ⟨fun y hy => hj y (List.mem_cons_of_mem _ hy), by omega, _, _, _, rfl⟩
      · simp at hx
        rcases hx with rfl | rfl
        · exact ⟨p, rfl, hp⟩
        · exact ⟨q, rfl, hq⟩
    · rintro env c4 ⟨_, hc4, s6, s7, s8, rfl⟩
      refine hN4 _ _ ?_
      refine st_seq fun N7 hN7 => ?_
      simp
      refine s__law_no_prime (by omega) fun d hd => hN7 _ _ ?_
      obtain ⟨nd, np⟩ := noPrimes_ok hd
      simp
      refine s_is_poly nd (judge_enc (by omega)) ?_
      rw [if_neg (by rw [np]; exact Bool.false_ne_true)]
      simp [excs, rl_BadPrime]
      exact ⟨by decide +kernel, hN _ _ ⟨by omega, _, _, _, _, _, _, _, _, rfl⟩⟩
  · rintro env c ⟨hc, s2, s3, s4, s5, s6, s7, s8, s9, rfl⟩
    refine hN0 _ _ ?_
    simp
end K01
set_option Elab.async false
set_option linter.all false
set_option maxRecDepth 100000
set_option maxHeartbeats 8000000
open PySem PySem.W PyProof.Rows
set_option pp.maxSteps 300
theorem PySem.Challenge.cw_rowsfilled_k01_polys_judged_holds : PySem.Challenge.rw_rowsfilled_k01_polys_judged.Holds := by
  w_on; o_law; k_head; (case hw => w_witness2)
  k_fill
  refine DL.walk_hereT (l := PySem.Challenge.rw_rowsfilled_k01_polys_judged) (n := 63) rfl (by decide) rfl (fun w h Y => PySem.W.km_in_of Y) ?F
  case F =>
    intro w mg mb mean fa h Y KX Tp G hmg
    refine' K01.law_here (T := ⟨?zB, ?zC, ?zD_is_between, ?zD_need_prime, ?zD_is_term, ?zD_polys_right, ?zD_is_poly, ?zD__law_begun, ?zD__law_draw, ?zD__law_pick, ?zD__law_mixed, ?zD__law_caught, ?zD__law_is_whole, ?zD__law_odd, ?zD__law_is_from, ?zD__law_prime, ?zD__law_no_prime, ?zD__law_is_poly, ?zD__law_poly, ?zD__law_some, ?zD__law_no_poly, ?zD_law, ?zX_BadPrime, ?zI_BadPrime, ?zfill⟩) KX G hmg ?za3 ?zlk ?zhcd ?zkp ?zcdv ?zhc ?zht ?zhk ?zmain
    case za3 => k_is
    case zlk => k_is
    case zhcd => k_is
    case zkp => k_is
    case zcdv => rfl
    case zht => exact PySem.W.km_tabs_of Y _ (List.mem_singleton.mpr rfl)
    case zhc => refine' PySem.W.codeHd_of_K KX ?_; kernel_rfl
    case zhk => kernel_rfl
    case zmain => exact K01.main
    case zB => (refine' ⟨?_, ?_, ?_, ?_, ?_, ?_, ?_, ?_, ?_, ?_, ?_, ?_, ?_, ?_, ?_, ?_, ?_, ?_, ?_, ?_, ?_⟩ <;> (refine' PySem.W.mg_none_of KX G ?_; k_is))
    case zC => (refine' ⟨?_⟩ <;> (refine' DL.const_mk KX G ?a ?e; (case a => k_is); (case e => exact ⟨_, rfl⟩)))
    case zD_is_between => (refine' DL.df_mk KX G ?a ?l ?c ?k (fun _ _ _ _ _ _ us hl => match us, hl with | [_, _, _], _ => rfl); (case a => k_is); (case l => k_is); (case c => k_is); (case k => k_is))
    case zD_need_prime => (refine' DL.df_mk KX G ?a ?l ?c ?k (fun _ _ _ _ _ _ us hl => match us, hl with | [_], _ => rfl); (case a => k_is); (case l => k_is); (case c => k_is); (case k => k_is))
    case zD_is_term => (refine' DL.df_mk KX G ?a ?l ?c ?k (fun _ _ _ _ _ _ us hl => match us, hl with | [_, _], _ => rfl); (case a => k_is); (case l => k_is); (case c => k_is); (case k => k_is))
    case zD_polys_right => (refine' DL.df_mk KX G ?a ?l ?c ?k (fun _ _ _ _ _ _ us hl => match us, hl with | [_, _], _ => rfl); (case a => k_is); (case l => k_is); (case c => k_is); (case k => k_is))
    case zD_is_poly => (refine' DL.df_mk KX G ?a ?l ?c ?k (fun _ _ _ _ _ _ us hl => match us, hl with | [_, _], _ => rfl); (case a => k_is); (case l => k_is); (case c => k_is); (case k => k_is))
    case zD__law_begun => (refine' DL.df_mk KX G ?a ?l ?c ?k (fun _ _ _ _ _ _ us hl => match us, hl with | [_], _ => rfl); (case a => k_is); (case l => k_is); (case c => k_is); (case k => k_is))
    case zD__law_draw => (refine' DL.df_mk KX G ?a ?l ?c ?k (fun _ _ _ _ _ _ us hl => match us, hl with | [_, _], _ => rfl); (case a => k_is); (case l => k_is); (case c => k_is); (case k => k_is))
    case zD__law_pick => (refine' DL.df_mk KX G ?a ?l ?c ?k (fun _ _ _ _ _ _ us hl => match us, hl with | [_, _], _ => rfl); (case a => k_is); (case l => k_is); (case c => k_is); (case k => k_is))
    case zD__law_mixed => (refine' DL.df_mk KX G ?a ?l ?c ?k (fun _ _ _ _ _ _ us hl => match us, hl with | [_, _], _ => rfl); (case a => k_is); (case l => k_is); (case c => k_is); (case k => k_is))
    case zD__law_caught => (refine' DL.df_mk KX G ?a ?l ?c ?k (fun _ _ _ _ _ _ us hl => match us, hl with | [_], _ => rfl); (case a => k_is); (case l => k_is); (case c => k_is); (case k => k_is))
    case zD__law_is_whole => (refine' DL.df_mk KX G ?a ?l ?c ?k (fun _ _ _ _ _ _ us hl => match us, hl with | [_], _ => rfl); (case a => k_is); (case l => k_is); (case c => k_is); (case k => k_is))
    case zD__law_odd => (refine' DL.df_mk KX G ?a ?l ?c ?k (fun _ _ _ _ _ _ us hl => match us, hl with | [_], _ => rfl); (case a => k_is); (case l => k_is); (case c => k_is); (case k => k_is))
    case zD__law_is_from => (refine' DL.df_mk KX G ?a ?l ?c ?k (fun _ _ _ _ _ _ us hl => match us, hl with | [_, _, _], _ => rfl); (case a => k_is); (case l => k_is); (case c => k_is); (case k => k_is))
    case zD__law_prime => (refine' DL.df_mk KX G ?a ?l ?c ?k (fun _ _ _ _ _ _ us hl => match us, hl with | [_], _ => rfl); (case a => k_is); (case l => k_is); (case c => k_is); (case k => k_is))
    case zD__law_no_prime => (refine' DL.df_mk KX G ?a ?l ?c ?k (fun _ _ _ _ _ _ us hl => match us, hl with | [_], _ => rfl); (case a => k_is); (case l => k_is); (case c => k_is); (case k => k_is))
    case zD__law_is_poly => (refine' DL.df_mk KX G ?a ?l ?c ?k (fun _ _ _ _ _ _ us hl => match us, hl with | [_, _], _ => rfl); (case a => k_is); (case l => k_is); (case c => k_is); (case k => k_is))
    case zD__law_poly => (refine' DL.df_mk KX G ?a ?l ?c ?k (fun _ _ _ _ _ _ us hl => match us, hl with | [_, _, _, _], _ => rfl); (case a => k_is); (case l => k_is); (case c => k_is); (case k => k_is))
    case zD__law_some => (refine' DL.df_mk KX G ?a ?l ?c ?k (fun _ _ _ _ _ _ us hl => match us, hl with | [_, _, _, _], _ => rfl); (case a => k_is); (case l => k_is); (case c => k_is); (case k => k_is))
    case zD__law_no_poly => (refine' DL.df_mk KX G ?a ?l ?c ?k (fun _ _ _ _ _ _ us hl => match us, hl with | [_, _], _ => rfl); (case a => k_is); (case l => k_is); (case c => k_is); (case k => k_is))
    case zD_law => (refine' DL.df_mk KX G ?a ?l ?c ?k (fun _ _ _ _ _ _ us hl => match us, hl with | [_], _ => rfl); (case a => k_is); (case l => k_is); (case c => k_is); (case k => k_is))
    case zX_BadPrime => (refine' DL.exc_mk PySem.F.excBase_ValueError KX G ?a ?b ?c ?d ?e; (case a => k_is); (case b => k_is); (case c => k_exc); (case d => k_is); (case e => k_is))
    case zI_BadPrime => (refine' DL.isc_mk (rs := K01.rl_BadPrime) KX G ?a ?n (DL.all_cons ?r0 DL.all_nil); (case a => k_is); (case n => kernel_rfl); (case r0 => (refine' DL.isc_one ?a ?b1 ?b2 ?b3 ?b4 ?b5 ?b6 ?b7 ?b8 ?c; (case a => k_is); (case b1 => k_is); (case b2 => k_is); (case b3 => k_is); (case b4 => k_is); (case b5 => k_is); (case b6 => k_is); (case b7 => k_is); (case b8 => k_is); (case c => kernel_rfl))))
    case zfill => (refine' DL.fill_mk (ns := K01.excs) KX G ?a (DL.all_cons ?r0 DL.all_nil); (case a => k_is); (case r0 => (refine' DL.fill_one ?a ?b ?c ?d ?e; (case a => k_is); (case b => k_is); (case c => k_is); (case d => k_is); (case e => first | rfl | k_is))))
