import PyProof.Rows.All
import Wide.All
import OpenK.AllK
import Wide.FinOn
import HandS.ForMost
import HandS.ForExc
import HandS.Evl
import HandS.ExcInit
import HandS.TryMany
import HandS.ExcField
import HandS.CallSlots
import HandS.IsInst
import HandS.Wide
import HandS.HeadEnd
import HandS.HeadNt
import HandS.Head3
import HandS.Sort
import HandS.SortInts
import HandS.Rev
import HandS.Conv
import HandS.Strs
import HandS.TupAny
import HandS.SortOrd
import KE.DataEq
import PySem.Challenge.RW_landings_k83_whole_ways_into_any_weights
set_option Elab.async false
set_option linter.all false
set_option maxRecDepth 100000
set_option maxHeartbeats 4000000
/-! ### the head: facts of classes of errors, and a hook that tells them -/
namespace Py
open PySem PySem.Spec PyProof.Rows L2
open PySem.W (Frag)

def oexB (K : Frag) (C : Addr) : Bool := (match K.lookup C with
  | some ⟨.type t, _, .cls cd, sl⟩ => (match cd.mro, sl.toList with
    | .ref C' :: bm, [_, _, _, _, some (.builtin n), _] => decide (t = "type") && (decide (C' = C) && (decide (n = "ValueError.__new__") && (!cd.hasDel && (cd.hasDict && PySem.HandSPX.refsVE bm))))
    | _, _ => false)
  | _ => false) && (He.eqO (PySem.W.findIn K (.ref C) "__setattr__") (some (some (.builtin "object.__setattr__"))) && (decide (PySem.W.subIn K (.ref C) (.type "BaseException") = some true) && (decide (PySem.W.typeIn K (.ref C) = some (.type "type")) && PySem.W.keepIn K (.ref C))))
theorem oexB_ok {K : Frag} {C : Addr} (h : oexB K C = true) : OexC K C := by
  obtain ⟨h0, h1⟩ := He.ba h
  obtain ⟨h1, h2⟩ := He.ba h1
  obtain ⟨h2, h3⟩ := He.ba h2
  obtain ⟨h3, h4⟩ := He.ba h3
  refine ⟨?_, He.eqO_ok h1, of_decide_eq_true h2, of_decide_eq_true h3, h4⟩
  cases q : K.lookup C with
  | none => rw [q] at h0; cases h0
  | some o =>
    obtain ⟨oc, od, dt, sl⟩ := o
    rw [q] at h0
    cases oc with
    | type t =>
      cases dt with
      | cls cd =>
        obtain ⟨nm, bs, mro, ns, qn, hd, sn, sub, ab, col, del⟩ := cd
        obtain ⟨sl⟩ := sl
        dsimp only at h0
        split at h0
        · rename_i C' bm k0 k1 k2 k3 n k5
          obtain ⟨g1, h0⟩ := He.ba h0
          obtain ⟨g2, h0⟩ := He.ba h0
          obtain ⟨g3, h0⟩ := He.ba h0
          obtain ⟨g4, h0⟩ := He.ba h0
          obtain ⟨g5, g6⟩ := He.ba h0
          have g1 := of_decide_eq_true g1
          have g2 := of_decide_eq_true g2
          have g3 := of_decide_eq_true g3
          have g4 : del = false := by simpa using g4
          have g5 : hd = true := g5
          subst g1 g2 g3 g4 g5
          exact ⟨nm, qn, ns, bs, bm, sn, sub, ab, col, od, k0, k1, k2, k3, k5, rfl, g6⟩
        · cases h0
      | _ => cases h0
    | _ => cases dt <;> cases h0
def initB (K : Frag) (C : Addr) : Bool := He.eqO (PySem.W.findIn K (.ref C) "__init__") (some (some (.ref (He.ma K C "__init__")))) && decide (PySem.W.typeIn K (.ref (He.ma K C "__init__")) = some (.type "function"))
theorem initB_ok {K : Frag} {C : Addr} (h : initB K C = true) : PySem.W.findIn K (.ref C) "__init__" = some (some (.ref (He.ma K C "__init__"))) ∧ PySem.W.typeIn K (.ref (He.ma K C "__init__")) = some (.type "function") := by
  obtain ⟨h1, h2⟩ := He.ba h
  exact ⟨He.eqO_ok h1, of_decide_eq_true h2⟩
def noB (K : Frag) (C : Addr) (f : Str) : Bool := He.eqO (PySem.W.findIn K (.ref C) f) (some none)
theorem noB_ok {K : Frag} {C : Addr} {f : Str} (h : noB K C f = true) : PySem.W.findIn K (.ref C) f = some none := He.eqO_ok h
def exmB (K : Frag) (C D : Addr) (b : Bool) : Bool := decide (PySem.W.exmOne K (.ref C) (.ref D) = some b)
theorem exmB_ok {K : Frag} {C D : Addr} {b : Bool} (h : exmB K C D b = true) : PySem.W.exmOne K (.ref C) (.ref D) = some b := of_decide_eq_true h

abbrev AlL : Type := He.AlD × Bool
def obsL (fa : List He.Fa) (fn : List He5.DefA) (ex : List (Frag → Bool)) (K : Frag) : AlL := (He5.obsA fa fn K, ex.all fun f => f K)
def valL (fn : List He5.DefA) : AlL := (He5.valA fn, true)
structure SaysL (fa : List He.Fa) (fn : List He5.DefA) (ex : List (Frag → Bool)) (K : Frag) : Prop where
  a : He5.SaysA fa fn K
  x : (ex.all fun f => f K) = true
def obsLG (n : Nat) (fa : List He.Fa) (fn : List He5.DefA) (ex : List (Frag → Bool)) (g : Addr → Option Obj) : AlL := obsL fa fn ex (He.frG g (He5.asA g n))
def hookL (n : Nat) (fa : List He.Fa) (fn : List He5.DefA) (ex : List (Frag → Bool)) : PySem.W.Hook where
  α := AlL
  obs := fun s => obsLG n fa fn ex s.heap.get?
  val := fun _ => valL fn
  says := fun _ h => ∃ K : Frag, K.In h ∧ SaysL fa fn ex K
  of := fun _ _ e => ⟨_, He.frG_in, ⟨congrArg (fun z : AlL => z.1) e, congrArg (fun z : AlL => z.2) e⟩⟩
  keeps := fun _ _ _ ⟨K, hK, c⟩ k => ⟨K, Frag.In.keeps hK k, c⟩
theorem obsLG_eq {n : Nat} {fa : List He.Fa} {fn : List He5.DefA} {ex : List (Frag → Bool)} {g : Addr → Option Obj} {s : Shared} (h : ∀ a, g a = s.heap.get? a) : obsLG n fa fn ex g = (hookL n fa fn ex).obs s := by
  have e : g = s.heap.get? := funext h
  rw [e] <;> rfl
theorem SaysL.ex {fa : List He.Fa} {fn : List He5.DefA} {ex : List (Frag → Bool)} {K : Frag} (c : SaysL fa fn ex K) (i : Nat) {f : Frag → Bool} (h : ex[i]? = some f := by rfl) : f K = true :=
  List.all_eq_true.mp c.x f (List.mem_of_getElem? h)
end Py

/-! ### data, and what stands where -/
namespace Py
open PySem L2
open PySem.W (Frag)
open Evl (Ex)

/-- a datum: a value with all that it reaches -/
inductive D where
  | non | bl (b : Bool) | int (i : Int) | str (s : Str)
  | lst (xs : List D) | tup (xs : List D)
  | scr (ns : List Int)
  | obj (C : Addr) (fs : List (Str × D))
  | xd (fs : List (Str × D))

mutual
/-- the value v of the heap G is the datum -/
def Rp (K : Frag) (G : Hp) : D → V → Prop
  | .non, v => v = .non
  | .bl b, v => v = .bl b
  | .int i, v => v = .int i
  | .str s, v => v = .str s
  | .lst xs, v => ∃ p vs, v = .ref p ∧ G p = some (.lst vs) ∧ Rps K G xs vs
  | .tup xs, v => ∃ p vs, v = .ref p ∧ G p = some (.tup vs) ∧ Rps K G xs vs
  | .scr ns, v => ∃ p, v = .ref p ∧ SqL K G p (ns.map V.int)
  | .obj C fs, v => ∃ p dx gs, v = .ref p ∧ G p = some (.ins C dx gs) ∧ G dx = some (.own p) ∧ Rpf K G fs gs
  | .xd fs, v => ∃ p gs, v = .ref p ∧ G p = some (.xd gs) ∧ Rpf K G fs gs
def Rps (K : Frag) (G : Hp) : List D → List V → Prop
  | [], vs => vs = []
  | x :: xs, vs => ∃ v r, vs = v :: r ∧ Rp K G x v ∧ Rps K G xs r
def Rpf (K : Frag) (G : Hp) : List (Str × D) → List (Str × V) → Prop
  | [], vs => vs = []
  | (f, x) :: xs, vs => ∃ v r, vs = (f, v) :: r ∧ Rp K G x v ∧ Rpf K G xs r
end

section
variable {K : Frag} {G G' : Hp}
mutual
theorem Rp.mono (e : Ex G G') : ∀ {d : D} {v : V}, Rp K G d v → Rp K G' d v
  | .non, _, h => by unfold Rp at h ⊢; exact h
  | .bl _, _, h => by unfold Rp at h ⊢; exact h
  | .int _, _, h => by unfold Rp at h ⊢; exact h
  | .str _, _, h => by unfold Rp at h ⊢; exact h
  | .lst xs, _, h => by
    unfold Rp at h ⊢
    obtain ⟨p, vs, h1, h2, h3⟩ := h
    exact ⟨p, vs, h1, e _ _ h2, Rps.mono e h3⟩
  | .tup xs, _, h => by
    unfold Rp at h ⊢
    obtain ⟨p, vs, h1, h2, h3⟩ := h
    exact ⟨p, vs, h1, e _ _ h2, Rps.mono e h3⟩
  | .scr ns, _, h => by
    unfold Rp at h ⊢
    obtain ⟨p, h1, h2⟩ := h
    exact ⟨p, h1, Evl.ex_l e h2⟩
  | .obj C fs, _, h => by
    unfold Rp at h ⊢
    obtain ⟨p, dx, gs, h1, h2, h3, h4⟩ := h
    exact ⟨p, dx, gs, h1, e _ _ h2, e _ _ h3, Rpf.mono e h4⟩
  | .xd fs, _, h => by
    unfold Rp at h ⊢
    obtain ⟨p, gs, h1, h2, h3⟩ := h
    exact ⟨p, gs, h1, e _ _ h2, Rpf.mono e h3⟩
theorem Rps.mono (e : Ex G G') : ∀ {ds : List D} {vs : List V}, Rps K G ds vs → Rps K G' ds vs
  | [], _, h => by unfold Rps at h ⊢; exact h
  | x :: xs, _, h => by
    unfold Rps at h ⊢
    obtain ⟨v, r, h1, h2, h3⟩ := h
    exact ⟨v, r, h1, Rp.mono e h2, Rps.mono e h3⟩
theorem Rpf.mono (e : Ex G G') : ∀ {ds : List (Str × D)} {vs : List (Str × V)}, Rpf K G ds vs → Rpf K G' ds vs
  | [], _, h => by unfold Rpf at h ⊢; exact h
  | (f, x) :: xs, _, h => by
    unfold Rpf at h ⊢
    obtain ⟨v, r, h1, h2, h3⟩ := h
    exact ⟨v, r, h1, Rp.mono e h2, Rpf.mono e h3⟩
end
theorem Rps.len : ∀ {ds : List D} {vs : List V}, Rps K G ds vs → vs.length = ds.length
  | [], _, h => by unfold Rps at h; rw [h]; rfl
  | x :: xs, _, h => by
    unfold Rps at h
    obtain ⟨v, r, rfl, _, h3⟩ := h
    show r.length + 1 = xs.length + 1
    rw [Rps.len h3]
theorem Rps.nil : Rps K G [] [] := by unfold Rps; rfl
theorem Rps.cons {d : D} {v : V} {ds : List D} {vs : List V} (h : Rp K G d v) (r : Rps K G ds vs) : Rps K G (d :: ds) (v :: vs) := by
  unfold Rps
  exact ⟨v, vs, rfl, h, r⟩
theorem Rps.inv {d : D} {v : V} {ds : List D} {vs : List V} (h : Rps K G (d :: ds) (v :: vs)) : Rp K G d v ∧ Rps K G ds vs := by
  unfold Rps at h
  obtain ⟨v', r, e, h1, h2⟩ := h
  cases e
  exact ⟨h1, h2⟩
theorem Rps.get : ∀ {ds : List D} {vs : List V} {i : Nat} {d : D}, Rps K G ds vs → ds[i]? = some d → ∃ v, vs[i]? = some v ∧ Rp K G d v
  | [], _, _, _, _, e => by simp at e
  | x :: xs, vs, i, d, h, e => by
    unfold Rps at h
    obtain ⟨v, r, rfl, h1, h2⟩ := h
    cases i with
    | zero =>
      simp at e
      subst e
      exact ⟨v, rfl, h1⟩
    | succ j =>
      obtain ⟨w, h3, h4⟩ := Rps.get (i := j) (d := d) h2 (by simpa using e)
      exact ⟨w, by simpa using h3, h4⟩
theorem Rps.append : ∀ {ds es : List D} {vs ws : List V}, Rps K G ds vs → Rps K G es ws → Rps K G (ds ++ es) (vs ++ ws)
  | [], _, _, _, h, g => by
    unfold Rps at h
    subst h
    exact g
  | x :: xs, es, vs, ws, h, g => by
    unfold Rps at h
    obtain ⟨v, r, rfl, h1, h2⟩ := h
    exact Rps.cons h1 (Rps.append h2 g)
theorem Rps.one {d : D} {v : V} (h : Rp K G d v) : Rps K G [d] [v] := Rps.cons h Rps.nil
theorem Rps.take : ∀ (n : Nat) {ds : List D} {vs : List V}, Rps K G ds vs → Rps K G (ds.take n) (vs.take n)
  | 0, _, _, _ => by simp; exact Rps.nil
  | n + 1, [], _, h => by
    unfold Rps at h
    subst h
    exact Rps.nil
  | n + 1, x :: xs, _, h => by
    unfold Rps at h
    obtain ⟨v, r, rfl, h1, h2⟩ := h
    exact Rps.cons h1 (Rps.take n h2)
theorem Rps.drop : ∀ (n : Nat) {ds : List D} {vs : List V}, Rps K G ds vs → Rps K G (ds.drop n) (vs.drop n)
  | 0, _, _, h => h
  | n + 1, [], _, h => by
    unfold Rps at h
    subst h
    exact Rps.nil
  | n + 1, x :: xs, _, h => by
    unfold Rps at h
    obtain ⟨v, r, rfl, h1, h2⟩ := h
    exact Rps.drop n h2
theorem Rps.set {d : D} {v : V} (h : Rp K G d v) : ∀ (i : Nat) {ds : List D} {vs : List V}, Rps K G ds vs → Rps K G (ds.set i d) (vs.set i v)
  | _, [], _, r => by
    unfold Rps at r
    subst r
    exact Rps.nil
  | 0, x :: xs, _, r => by
    unfold Rps at r
    obtain ⟨w, t, rfl, h1, h2⟩ := r
    exact Rps.cons h h2
  | i + 1, x :: xs, _, r => by
    unfold Rps at r
    obtain ⟨w, t, rfl, h1, h2⟩ := r
    exact Rps.cons h1 (Rps.set h i h2)
theorem Rps.reverse : ∀ {ds : List D} {vs : List V}, Rps K G ds vs → Rps K G ds.reverse vs.reverse
  | [], _, h => by
    unfold Rps at h
    subst h
    exact Rps.nil
  | x :: xs, _, h => by
    unfold Rps at h
    obtain ⟨v, r, rfl, h1, h2⟩ := h
    rw [List.reverse_cons, List.reverse_cons]
    exact Rps.append (Rps.reverse h2) (Rps.one h1)
theorem Rps.eraseIdx : ∀ (i : Nat) {ds : List D} {vs : List V}, Rps K G ds vs → Rps K G (ds.eraseIdx i) (vs.eraseIdx i)
  | _, [], _, h => by
    unfold Rps at h
    subst h
    exact Rps.nil
  | 0, x :: xs, _, h => by
    unfold Rps at h
    obtain ⟨v, r, rfl, h1, h2⟩ := h
    exact h2
  | i + 1, x :: xs, _, h => by
    unfold Rps at h
    obtain ⟨v, r, rfl, h1, h2⟩ := h
    exact Rps.cons h1 (Rps.eraseIdx i h2)
theorem Rps.dropLast : ∀ {ds : List D} {vs : List V}, Rps K G ds vs → Rps K G ds.dropLast vs.dropLast
  | [], _, h => by
    unfold Rps at h
    subst h
    exact Rps.nil
  | [x], _, h => by
    unfold Rps at h
    obtain ⟨v, r, rfl, h1, h2⟩ := h
    unfold Rps at h2
    subst h2
    exact Rps.nil
  | x :: y :: xs, _, h => by
    unfold Rps at h
    obtain ⟨v, r, rfl, h1, h2⟩ := h
    have q := Rps.dropLast h2
    unfold Rps at h2
    obtain ⟨w, r', rfl, h3, h4⟩ := h2
    exact Rps.cons h1 q
theorem Rps.ints : ∀ {ns : List Int}, Rps K G (ns.map D.int) (ns.map V.int)
  | [] => Rps.nil
  | n :: ns => Rps.cons (by unfold Rp; rfl) Rps.ints
theorem Rps.ints_inv : ∀ {ns : List Int} {vs : List V}, Rps K G (ns.map D.int) vs → vs = ns.map V.int
  | [], _, h => by unfold Rps at h; rw [h]; rfl
  | n :: ns, _, h => by
    unfold Rps at h
    obtain ⟨v, r, rfl, h1, h2⟩ := h
    unfold Rp at h1
    rw [h1, Rps.ints_inv h2]
    rfl
theorem Rps.bools_inv : ∀ {ns : List Bool} {vs : List V}, Rps K G (ns.map D.bl) vs → vs = ns.map V.bl
  | [], _, h => by unfold Rps at h; rw [h]; rfl
  | n :: ns, _, h => by
    unfold Rps at h
    obtain ⟨v, r, rfl, h1, h2⟩ := h
    unfold Rp at h1
    rw [h1, Rps.bools_inv h2]
    rfl
theorem rp_non : Rp K G .non .non := by unfold Rp; rfl
theorem rp_bl {b : Bool} : Rp K G (.bl b) (.bl b) := by unfold Rp; rfl
theorem rp_int {i : Int} : Rp K G (.int i) (.int i) := by unfold Rp; rfl
theorem rp_str {s : Str} : Rp K G (.str s) (.str s) := by unfold Rp; rfl
theorem rp_lst {p : Addr} {vs : List V} {xs : List D} (h : G p = some (.lst vs)) (r : Rps K G xs vs) : Rp K G (.lst xs) (.ref p) := by unfold Rp; exact ⟨p, vs, rfl, h, r⟩
theorem rp_tup {p : Addr} {vs : List V} {xs : List D} (h : G p = some (.tup vs)) (r : Rps K G xs vs) : Rp K G (.tup xs) (.ref p) := by unfold Rp; exact ⟨p, vs, rfl, h, r⟩
theorem rp_scr {p : Addr} {ns : List Int} (h : SqL K G p (ns.map V.int)) : Rp K G (.scr ns) (.ref p) := by unfold Rp; exact ⟨p, rfl, h⟩
theorem rp_int_inv {i : Int} {v : V} (h : Rp K G (.int i) v) : v = .int i := by unfold Rp at h; exact h
theorem rp_bl_inv {b : Bool} {v : V} (h : Rp K G (.bl b) v) : v = .bl b := by unfold Rp at h; exact h
theorem rp_str_inv {s : Str} {v : V} (h : Rp K G (.str s) v) : v = .str s := by unfold Rp at h; exact h
theorem rp_non_inv {v : V} (h : Rp K G .non v) : v = .non := by unfold Rp at h; exact h
theorem rp_lst_inv {xs : List D} {v : V} (h : Rp K G (.lst xs) v) : ∃ p vs, v = .ref p ∧ G p = some (.lst vs) ∧ Rps K G xs vs := by unfold Rp at h; exact h
theorem rp_tup_inv {xs : List D} {v : V} (h : Rp K G (.tup xs) v) : ∃ p vs, v = .ref p ∧ G p = some (.tup vs) ∧ Rps K G xs vs := by unfold Rp at h; exact h
theorem rp_scr_inv {ns : List Int} {v : V} (h : Rp K G (.scr ns) v) : ∃ p, v = .ref p ∧ SqL K G p (ns.map V.int) := by unfold Rp at h; exact h
theorem rp_xd_inv {fs : List (Str × D)} {v : V} (h : Rp K G (.xd fs) v) : ∃ p gs, v = .ref p ∧ G p = some (.xd gs) ∧ Rpf K G fs gs := by unfold Rp at h; exact h
theorem rp_xd {p : Addr} {gs : List (Str × V)} {fs : List (Str × D)} (h : G p = some (.xd gs)) (r : Rpf K G fs gs) : Rp K G (.xd fs) (.ref p) := by unfold Rp; exact ⟨p, gs, rfl, h, r⟩
theorem rpf_one {f : Str} {d : D} {v : V} (h : Rp K G d v) : Rpf K G [(f, d)] [(f, v)] := by
  unfold Rpf
  exact ⟨v, [], rfl, h, by unfold Rpf; rfl⟩
theorem Rpf.look {f : Str} : ∀ {fs : List (Str × D)} {gs : List (Str × V)} {d : D}, Rpf K G fs gs → fs.lookup f = some d → ∃ v, gs.lookup f = some v ∧ Rp K G d v
  | [], _, _, _, e => by cases e
  | (g, x) :: r, gs, d, h, e => by
    unfold Rpf at h
    obtain ⟨v, q, rfl, h1, h2⟩ := h
    by_cases hg : f = g
    · subst hg
      have e' : some x = some d := by simpa [List.lookup] using e
      cases e'
      exact ⟨v, by simp [List.lookup], h1⟩
    · have hb : (f == g) = false := by simpa using hg
      have e' : r.lookup f = some d := by simpa [List.lookup, hb] using e
      obtain ⟨w, h3, h4⟩ := Rpf.look h2 e'
      exact ⟨w, by simpa [List.lookup, hb] using h3, h4⟩
theorem rp_obj_inv {C : Addr} {fs : List (Str × D)} {v : V} (h : Rp K G (.obj C fs) v) : ∃ p dx gs, v = .ref p ∧ G p = some (.ins C dx gs) ∧ G dx = some (.own p) ∧ Rpf K G fs gs := by unfold Rp at h; exact h
end

/-- what is known of a slot or a value: nothing; its datum; its very value -/
inductive Slot where
  | any | d (x : D) | v (u : V)
def Slot.ok (K : Frag) (G : Hp) : Slot → Option V → Prop
  | .any, _ => True
  | .d x, o => ∃ u, o = some u ∧ Rp K G x u
  | .v u, o => o = some u
theorem Slot.mono {K : Frag} {G G' : Hp} (e : Ex G G') : ∀ {s : Slot} {o : Option V}, s.ok K G o → s.ok K G' o
  | .any, _, _ => True.intro
  | .d _, _, ⟨u, h1, h2⟩ => ⟨u, h1, h2.mono e⟩
  | .v _, _, h => h

/-- an object of one's own, which may be changed -/
inductive Cont where
  | lst (xs : List D)
  | dK (kvs : List (Key × D))
  | dT (kvs : List (List Key × D))
def KvOk {κ : Type} (K : Frag) (G : Hp) (kvs : List (κ × D)) (ws : List (κ × V)) : Prop := ws.map (·.1) = kvs.map (·.1) ∧ Rps K G (kvs.map (·.2)) (ws.map (·.2))
def Cont.ok (K : Frag) (G H : Hp) (p : Addr) : Cont → Prop
  | .lst xs => ∃ vs, H p = some (.lst vs) ∧ Rps K G xs vs
  | .dK kvs => ∃ ws, H p = some (.dK ws) ∧ KvOk K G kvs ws
  | .dT kvs => ∃ ws, H p = some (.dT ws) ∧ KvOk K G kvs ws
theorem Cont.mono {K : Frag} {G G' H H' : Hp} {p : Addr} (e : Ex G G') (eh : H' p = H p) : ∀ {c : Cont}, c.ok K G H p → c.ok K G' H' p
  | .lst _, ⟨vs, h1, h2⟩ => ⟨vs, by rw [eh]; exact h1, h2.mono e⟩
  | .dK _, ⟨vs, h1, h2, h3⟩ => ⟨vs, by rw [eh]; exact h1, h2, h3.mono e⟩
  | .dT _, ⟨vs, h1, h2, h3⟩ => ⟨vs, by rw [eh]; exact h1, h2, h3.mono e⟩
theorem Cont.notup {K : Frag} {G H : Hp} {p : Addr} {xs : List V} : ∀ {c : Cont}, c.ok K G H p → H p = some (.tup xs) → False
  | .lst _, ⟨_, h1, _⟩, h => by rw [h1] at h; cases h
  | .dK _, ⟨_, h1, _⟩, h => by rw [h1] at h; cases h
  | .dT _, ⟨_, h1, _⟩, h => by rw [h1] at h; cases h
theorem Cont.some {K : Frag} {G H : Hp} {p : Addr} : ∀ {c : Cont}, c.ok K G H p → ∃ o, H p = some o
  | .lst _, ⟨_, h1, _⟩ => ⟨_, h1⟩
  | .dK _, ⟨_, h1, _⟩ => ⟨_, h1⟩
  | .dT _, ⟨_, h1, _⟩ => ⟨_, h1⟩

/-- the world at a def's entry: what is written, what data stand, what stands, what may be changed -/
structure Wd where
  K : Frag
  G0 : Hp
  H0 : Hp
  O : List Addr
abbrev Tmp := List (V × Slot)
/-- a state: what is known of the slots, what is one's own, values that are kept in mind -/
structure S where
  sl : List Slot
  own : List (Addr × Cont)
  tmp : Tmp
structure SatG (W : Wd) (s : S) (xt : Tmp) (σ : L2.St) (H G : Hp) : Prop where
  g0 : Ex W.G0 G
  gh : Ex G H
  new : ∀ a o, G a = some o → W.G0 a = none → (W.H0 a = none ∨ a ∈ W.O) ∨ ∃ xs, o = HO.tup xs
  keep : ∀ a o, a ∉ W.O → W.H0 a = some o → H a = some o
  stay : ∀ a, H a = none → W.H0 a = none
  len : σ.length = s.sl.length
  slot : ∀ (i : Nat) (x : Slot), s.sl[i]? = some x → Slot.ok W.K G x (σ.getD i none)
  tmps : ∀ t : V × Slot, t ∈ xt ++ s.tmp → t.2.ok W.K G (some t.1)
  own : ∀ (p : Addr) (c : Cont), (p, c) ∈ s.own → G p = none ∧ c.ok W.K G H p ∧ (p ∈ W.O ∨ W.H0 p = none)
  nd : (s.own.map (·.1)).Nodup
def Sat (W : Wd) (s : S) (xt : Tmp) (σ : L2.St) (H : Hp) : Prop := ∃ G, SatG W s xt σ H G

/-- te, read in the state s, hands back r and leaves the state s' -/
def Ev (W : Wd) (te : TE) (s : S) (r : Slot) (s' : S) : Prop := ∀ (xt : Tmp) σ H, Sat W s xt σ H → ∀ Q : VK, (∀ v H', Sat W s' ((v, r) :: xt) σ H' → Q v H') → te σ H Q
/-- .. a new object of one's own -/
def EvN (W : Wd) (te : TE) (s : S) (c : Cont) (s' : S) : Prop := ∀ (xt : Tmp) σ H, Sat W s xt σ H → ∀ Q : VK, (∀ p H', Sat W ⟨s'.sl, s'.own ++ [(p, c)], s'.tmp⟩ ((.ref p, .v (.ref p)) :: xt) σ H' → Q (.ref p) H') → te σ H Q
def EvT (W : Wd) (tt : TT) (s : S) (b : Bool) (s' : S) : Prop := ∀ (xt : Tmp) σ H, Sat W s xt σ H → ∀ Q : Bool → Hp → Prop, (∀ H', Sat W s' xt σ H' → Q b H') → tt σ H Q
def EvA (W : Wd) (ta : TA) (s : S) (rs : List Slot) (s' : S) : Prop := ∀ (xt : Tmp) σ H, Sat W s xt σ H → ∀ Q : List V → Hp → Prop, (∀ vs H', vs.length = rs.length → Sat W s' (vs.zip rs ++ xt) σ H' → Q vs H') → ta σ H Q
/-- a statement (with all that follows it) may run from s -/
def Go (W : Wd) (s : S) (t : TS) (D : Ends) : Prop := ∀ σ H, Sat W s [] σ H → t D σ H
end Py

/-! ### the state's small rules -/
namespace Py
open PySem L2
open PySem.W (Frag)
open Evl (Ex)
section
variable {W : Wd} {s s' s1 s2 : S} {xt : Tmp} {σ : L2.St} {H G : Hp}
theorem Slot.okNone {K : Frag} {G : Hp} {x : D} {v : V} (h : Rp K G x v) : (Slot.d x).ok K G (some v) := ⟨v, rfl, h⟩
theorem Slot.inv {K : Frag} {G : Hp} {x : D} {v : V} (h : (Slot.d x).ok K G (some v)) : Rp K G x v := by
  obtain ⟨u, e, r⟩ := h
  cases e
  exact r
theorem Slot.vinv {K : Frag} {G : Hp} {u v : V} (h : (Slot.v u).ok K G (some v)) : v = u := by
  have e : some v = some u := h
  exact Option.some.inj e
theorem SatG.push (h : SatG W s xt σ H G) {v : V} {r : Slot} (hr : r.ok W.K G (some v)) : SatG W s ((v, r) :: xt) σ H G :=
  ⟨h.g0, h.gh, h.new, h.keep, h.stay, h.len, h.slot, fun t ht => by
      rcases List.mem_cons.mp ht with rfl | ht
      · exact hr
      · exact h.tmps t ht, h.own, h.nd⟩
theorem SatG.sub {ys : Tmp} (h : SatG W s xt σ H G) (k : ∀ t, t ∈ ys → t ∈ xt ++ s.tmp) : SatG W s ys σ H G :=
  ⟨h.g0, h.gh, h.new, h.keep, h.stay, h.len, h.slot, fun t ht => by
      rcases List.mem_append.mp ht with ht | ht
      · exact h.tmps t (k t ht)
      · exact h.tmps t (List.mem_append_right _ ht), h.own, h.nd⟩
theorem SatG.pop {t : V × Slot} (h : SatG W s (t :: xt) σ H G) : SatG W s xt σ H G := h.sub fun u hu => List.mem_append_left _ (List.mem_cons_of_mem _ hu)
theorem SatG.pops {ts : Tmp} (h : SatG W s (ts ++ xt) σ H G) : SatG W s xt σ H G := h.sub fun u hu => List.mem_append_left _ (List.mem_append_right _ hu)
theorem SatG.top {v : V} {r : Slot} (h : SatG W s ((v, r) :: xt) σ H G) : r.ok W.K G (some v) := h.tmps (v, r) (List.mem_append_left _ List.mem_cons_self)
theorem SatG.topD {v : V} {x : D} (h : SatG W s ((v, .d x) :: xt) σ H G) : Rp W.K G x v := Slot.inv h.top
theorem SatG.second {v u : V} {r q : Slot} (h : SatG W s ((v, r) :: (u, q) :: xt) σ H G) : q.ok W.K G (some u) := h.pop.top
theorem SatG.gnone (h : SatG W s xt σ H G) {p : Addr} (hp : H p = none) : G p = none := Evl.fresh_back h.gh hp
theorem SatG.laid (h : SatG W s xt σ H G) {p : Addr} {o : HO} (hp : H p = none) : SatG W s xt σ (upd H p o) (upd G p o) := by
  have gp := h.gnone hp
  refine ⟨h.g0.trans (Ex.new gp), fun a u e => ?_, fun a u e e0 => ?_, fun a u ha e => ?_, fun a e => ?_, h.len, fun i x hx => Slot.mono (Ex.new gp) (h.slot i x hx), fun t ht => Slot.mono (Ex.new gp) (h.tmps t ht), fun q c hq => ?_, h.nd⟩
  · by_cases ha : a = p
    · subst ha
      rw [upd_same] at e ⊢
      exact e
    · rw [upd_ne ha] at e ⊢
      exact h.gh a u e
  · by_cases ha : a = p
    · subst ha
      exact .inl (.inl (h.stay _ hp))
    · rw [upd_ne ha] at e
      exact h.new a u e e0
  · rw [upd_ne (ne_of_none (h.keep a u ha e) hp)]
    exact h.keep a u ha e
  · by_cases ha : a = p
    · subst ha
      rw [upd_same] at e
      cases e
    · rw [upd_ne ha] at e
      exact h.stay a e
  · obtain ⟨h1, h2, h3⟩ := h.own q c hq
    obtain ⟨o', h4⟩ := Cont.some h2
    have hne : q ≠ p := ne_of_none h4 hp
    exact ⟨by rw [upd_ne hne]; exact h1, Cont.mono (Ex.new gp) (by rw [upd_ne hne]) h2, h3⟩
/-- a new object of one's own -/
theorem SatG.mine (h : SatG W s xt σ H G) {p : Addr} {o : HO} {c : Cont} (hp : H p = none) (hc : c.ok W.K G (upd H p o) p) : SatG W ⟨s.sl, s.own ++ [(p, c)], s.tmp⟩ xt σ (upd H p o) G := by
  have gp := h.gnone hp
  refine ⟨h.g0, fun a u e => ?_, h.new, fun a u ha e => ?_, fun a e => ?_, h.len, h.slot, h.tmps, fun q c' hq => ?_, ?_⟩
  · rw [upd_ne (ne_of_none e gp)]
    exact h.gh a u e
  · rw [upd_ne (ne_of_none (h.keep a u ha e) hp)]
    exact h.keep a u ha e
  · by_cases ha : a = p
    · subst ha
      rw [upd_same] at e
      cases e
    · rw [upd_ne ha] at e
      exact h.stay a e
  · rcases List.mem_append.mp hq with hq | e
    · obtain ⟨h1, h2, h3⟩ := h.own q c' hq
      obtain ⟨o', h4⟩ := Cont.some h2
      exact ⟨h1, Cont.mono (Ex.refl G) (by rw [upd_ne (ne_of_none h4 hp)]) h2, h3⟩
    · have e := List.mem_singleton.mp e
      cases e
      exact ⟨gp, hc, .inr (h.stay _ hp)⟩
  · show ((s.own ++ [(p, c)]).map (·.1)).Nodup
    rw [List.map_append, List.nodup_append]
    refine ⟨h.nd, by simp, fun a ha b hb => ?_⟩
    obtain ⟨q, hq, e⟩ := List.mem_map.mp ha
    obtain ⟨h1, h2, h3⟩ := h.own q.1 q.2 hq
    obtain ⟨o', h4⟩ := Cont.some h2
    have eb : b = p := by simpa using hb
    rw [eb, ← e]
    exact ne_of_none h4 hp
theorem set_fst {own : List (Addr × Cont)} {k : Nat} {p : Addr} {c c' : Cont} (hk : own[k]? = some (p, c)) : (own.set k (p, c')).map (·.1) = own.map (·.1) := by
  apply List.ext_getElem?
  intro i
  rw [List.getElem?_map, List.getElem?_map]
  by_cases hi : i = k
  · subst hi
    rw [List.getElem?_set_self (List.getElem?_eq_some_iff.mp hk).1, hk]
    rfl
  · rw [List.getElem?_set_ne (Ne.symm hi)]
theorem mem_set {own : List (Addr × Cont)} {k : Nat} {p q : Addr} {c c' d : Cont} (nd : (own.map (·.1)).Nodup) (hk : own[k]? = some (p, c)) (hq : (q, d) ∈ own.set k (p, c')) : (q = p ∧ d = c') ∨ (q ≠ p ∧ (q, d) ∈ own) := by
  obtain ⟨i, hi⟩ := List.mem_iff_getElem?.mp hq
  by_cases e : i = k
  · subst e
    rw [List.getElem?_set_self (List.getElem?_eq_some_iff.mp hk).1] at hi
    cases hi
    exact .inl ⟨rfl, rfl⟩
  · rw [List.getElem?_set_ne (Ne.symm e)] at hi
    refine .inr ⟨fun z => ?_, List.mem_of_getElem? hi⟩
    subst z
    have e1 : (own.map (·.1))[i]? = some q := by rw [List.getElem?_map, hi]; rfl
    have e2 : (own.map (·.1))[k]? = some q := by rw [List.getElem?_map, hk]; rfl
    obtain ⟨l1, g1⟩ := List.getElem?_eq_some_iff.mp e1
    obtain ⟨l2, g2⟩ := List.getElem?_eq_some_iff.mp e2
    exact e ((List.getElem_inj nd).mp (g1.trans g2.symm))
/-- one's own object changed -/
theorem SatG.write (h : SatG W s xt σ H G) {p : Addr} {o : HO} {c c' : Cont} {k : Nat} (hk : s.own[k]? = some (p, c)) (hc : c'.ok W.K G (upd H p o) p) : SatG W ⟨s.sl, s.own.set k (p, c'), s.tmp⟩ xt σ (upd H p o) G := by
  obtain ⟨gp, hco, hO⟩ := h.own p c (List.mem_of_getElem? hk)
  refine ⟨h.g0, fun a u e => ?_, h.new, fun a u ha e => ?_, fun a e => ?_, h.len, h.slot, h.tmps, fun q d hq => ?_, ?_⟩
  · rw [upd_ne (ne_of_none e gp)]
    exact h.gh a u e
  · have hne : a ≠ p := by
      rintro rfl
      rcases hO with z | z
      · exact ha z
      · rw [z] at e
        cases e
    rw [upd_ne hne]
    exact h.keep a u ha e
  · by_cases ha : a = p
    · subst ha
      rw [upd_same] at e
      cases e
    · rw [upd_ne ha] at e
      exact h.stay a e
  · rcases mem_set h.nd hk hq with ⟨rfl, rfl⟩ | ⟨hne, hm⟩
    · exact ⟨gp, hc, hO⟩
    · obtain ⟨h1, h2, h3⟩ := h.own q d hm
      exact ⟨h1, Cont.mono (Ex.refl G) (by rw [upd_ne hne]) h2, h3⟩
  · show ((s.own.set k (p, c')).map (·.1)).Nodup
    rw [set_fst hk]
    exact h.nd

/-- a tuple that stands is a datum -/
theorem SatG.addTup (h : SatG W s xt σ H G) {b : Addr} {vs : List V} (hb : H b = some (.tup vs)) : SatG W s xt σ H (upd G b (.tup vs)) := by
  have ex : Ex G (upd G b (.tup vs)) := fun a o e => by
    by_cases ha : a = b
    · subst ha
      have := h.gh _ _ e
      rw [hb] at this
      rw [upd_same, this]
    · rw [upd_ne ha]
      exact e
  refine ⟨h.g0.trans ex, fun a o e => ?_, fun a o e e0 => ?_, h.keep, h.stay, h.len, fun i x hx => Slot.mono ex (h.slot i x hx), fun t ht => Slot.mono ex (h.tmps t ht), fun p c hp => ?_, h.nd⟩
  · by_cases ha : a = b
    · subst ha
      rw [upd_same] at e
      rw [← e]
      exact hb
    · rw [upd_ne ha] at e
      exact h.gh a o e
  · by_cases ha : a = b
    · subst ha
      rw [upd_same] at e
      exact .inr ⟨vs, (Option.some.inj e).symm⟩
    · rw [upd_ne ha] at e
      exact h.new a o e e0
  · obtain ⟨h1, h2, h3⟩ := h.own p c hp
    have hne : p ≠ b := fun z => Cont.notup h2 (by rw [z]; exact hb)
    exact ⟨by rw [upd_ne hne]; exact h1, Cont.mono ex rfl h2, h3⟩
/-! ### weakening -/
def Weak (W : Wd) (s s' : S) : Prop := ∀ xt σ H, Sat W s xt σ H → Sat W s' xt σ H
theorem Weak.refl : Weak W s s := fun _ _ _ h => h
theorem Weak.trans (a : Weak W s s1) (b : Weak W s1 s2) : Weak W s s2 := fun xt σ H h => b xt σ H (a xt σ H h)
/-- slot by slot: as it is, or nothing known -/
inductive SlW : List Slot → List Slot → Prop where
  | nil : SlW [] []
  | same {x : Slot} {a b : List Slot} : SlW a b → SlW (x :: a) (x :: b)
  | drop {x : Slot} {a b : List Slot} : SlW a b → SlW (x :: a) (.any :: b)
theorem SlW.len {a b : List Slot} (h : SlW a b) : a.length = b.length := by
  induction h with
  | nil => rfl
  | same _ ih => simp [ih]
  | drop _ ih => simp [ih]
theorem SlW.get {a b : List Slot} (h : SlW a b) : ∀ {i : Nat} {y : Slot}, b[i]? = some y → y = .any ∨ a[i]? = some y := by
  induction h with
  | nil => intro i y e; simp at e
  | @same x a b _ ih =>
    intro i y e
    cases i with
    | zero => exact .inr (by simpa using e)
    | succ j =>
      rcases ih (i := j) (y := y) (by simpa using e) with z | z
      · exact .inl z
      · exact .inr (by simpa using z)
  | @drop x a b _ ih =>
    intro i y e
    cases i with
    | zero => exact .inl (by simpa using e.symm)
    | succ j =>
      rcases ih (i := j) (y := y) (by simpa using e) with z | z
      · exact .inl z
      · exact .inr (by simpa using z)
theorem weak_of {sl sl' : List Slot} {own own' : List (Addr × Cont)} {tmp tmp' : Tmp} (a : SlW sl sl') (b : List.Sublist own' own) (c : List.Sublist tmp' tmp) : Weak W ⟨sl, own, tmp⟩ ⟨sl', own', tmp'⟩ := by
  rintro xt σ H ⟨G, h⟩
  refine ⟨G, h.g0, h.gh, h.new, h.keep, h.stay, by rw [h.len]; exact a.len, fun i y hy => ?_, fun t ht => h.tmps t ?_, fun p c hp => h.own p c (b.subset hp), h.nd.sublist (b.map _)⟩
  · rcases a.get hy with z | z
    · rw [z]
      exact True.intro
    · exact h.slot i y z
  · rcases List.mem_append.mp ht with z | z
    · exact List.mem_append_left _ z
    · exact List.mem_append_right _ (c.subset z)
/-- one's own list becomes a datum: slots that point to it are told so -/
inductive SlF (p : Addr) (x : D) : List Slot → List Slot → Prop where
  | nil : SlF p x [] []
  | same {y : Slot} {a b : List Slot} : SlF p x a b → SlF p x (y :: a) (y :: b)
  | frz {a b : List Slot} : SlF p x a b → SlF p x (.v (.ref p) :: a) (.d x :: b)
theorem SlF.len {p : Addr} {x : D} {a b : List Slot} (h : SlF p x a b) : a.length = b.length := by
  induction h with
  | nil => rfl
  | same _ ih => simp [ih]
  | frz _ ih => simp [ih]
theorem SlF.get {p : Addr} {x : D} {a b : List Slot} (h : SlF p x a b) : ∀ {i : Nat} {y : Slot}, b[i]? = some y → a[i]? = some y ∨ (a[i]? = some (.v (.ref p)) ∧ y = .d x) := by
  induction h with
  | nil => intro i y e; simp at e
  | @same z a b _ ih =>
    intro i y e
    cases i with
    | zero => exact .inl (by simpa using e)
    | succ j => simpa using ih (i := j) (y := y) (by simpa using e)
  | @frz a b _ ih =>
    intro i y e
    cases i with
    | zero => exact .inr ⟨rfl, by simpa using e.symm⟩
    | succ j => simpa using ih (i := j) (y := y) (by simpa using e)
theorem SatG.freeze {k : Nat} {p : Addr} {xs : List D} (h : SatG W s xt σ H G) (hk : s.own[k]? = some (p, .lst xs)) :
    ∃ vs, H p = some (.lst vs) ∧ Rps W.K (upd G p (.lst vs)) xs vs ∧ Ex G (upd G p (.lst vs)) ∧ SatG W ⟨s.sl, s.own.eraseIdx k, s.tmp⟩ xt σ H (upd G p (.lst vs)) := by
  obtain ⟨gp, ⟨vs, hp, hr⟩, hO⟩ := h.own p _ (List.mem_of_getElem? hk)
  have ex : Ex G (upd G p (.lst vs)) := Ex.new gp
  have hgh : Ex (upd G p (.lst vs)) H := fun a u e => by
    by_cases ha : a = p
    · subst ha
      rw [upd_same] at e
      rw [← e]
      exact hp
    · rw [upd_ne ha] at e
      exact h.gh a u e
  refine ⟨vs, hp, hr.mono ex, ex, h.g0.trans ex, hgh, fun a u e e0 => ?_, h.keep, h.stay, h.len, fun i x hx => Slot.mono ex (h.slot i x hx), fun t ht => Slot.mono ex (h.tmps t ht), fun q c hq => ?_, ?_⟩
  · by_cases ha : a = p
    · subst ha
      exact .inl hO.symm
    · rw [upd_ne ha] at e
      exact h.new a u e e0
  · have hm : (q, c) ∈ s.own := (List.eraseIdx_sublist ..).subset hq
    obtain ⟨h1, h2, h3⟩ := h.own q c hm
    refine ⟨?_, Cont.mono ex rfl h2, h3⟩
    have hne : q ≠ p := by
      rintro rfl
      obtain ⟨i, hi⟩ := List.mem_iff_getElem?.mp hm
      have lk := (List.getElem?_eq_some_iff.mp hk).1
      have nd := h.nd
      have e1 : s.own = s.own.take k ++ (q, .lst xs) :: s.own.drop (k + 1) := by
        have e2 := (List.getElem?_eq_some_iff.mp hk).2
        rw [← e2]
        simp
      have e3 : s.own.eraseIdx k = s.own.take k ++ s.own.drop (k + 1) := List.eraseIdx_eq_take_drop_succ ..
      rw [e1, List.map_append, List.map_cons] at nd
      rw [e3] at hq
      have nd2 := List.nodup_append.mp nd
      rcases List.mem_append.mp hq with z | z
      · exact nd2.2.2 q (List.mem_map.mpr ⟨_, z, rfl⟩) q List.mem_cons_self rfl
      · exact (List.nodup_cons.mp nd2.2.1).1 (List.mem_map.mpr ⟨_, z, rfl⟩)
    rw [upd_ne hne]
    exact h1
  · exact h.nd.sublist ((List.eraseIdx_sublist ..).map _)
end
end Py

/-! ### expressions -/
namespace Py
open PySem L2
open PySem.W (Frag)
open Evl (Ex)
section
variable {W : Wd} {s s0 s' s1 s2 s3 : S} {ta tb te tc : TE} {r r1 r2 : Slot} {x y : D} {xs ys ds : List D}

/-- from a state where H, G stand, a value's end -/
theorem fin {xt : Tmp} {σ : L2.St} {H G : Hp} {Q : VK} {v : V} (q : ∀ v H', Sat W s ((v, r) :: xt) σ H' → Q v H') (h : SatG W s xt σ H G) (hr : r.ok W.K G (some v)) : Q v H := q v H ⟨G, h.push hr⟩
theorem finD {xt : Tmp} {σ : L2.St} {H G : Hp} {Q : VK} {v : V} (q : ∀ v H', Sat W s ((v, .d x) :: xt) σ H' → Q v H') (h : SatG W s xt σ H G) (hr : Rp W.K G x v) : Q v H := fin q h ⟨v, rfl, hr⟩

theorem ev_var {i : Nat} (h : s.sl[i]? = some r) (hk : r ≠ .any) : Ev W (tVar i) s r s := fun xt σ H ⟨G, g⟩ Q q => by
  have hs := g.slot i r h
  have key : ∀ v, σ.getD i none = some v → σ[i]? = some (some v) := fun v e => by
    rw [List.getD_eq_getElem?_getD] at e
    cases e2 : σ[i]? with
    | none => rw [e2] at e; cases e
    | some o => rw [e2] at e; rw [show o = some v from e]
  cases r with
  | any => exact absurd rfl hk
  | d x =>
    obtain ⟨u, e, hr⟩ := hs
    exact ⟨u, key u e, finD q g hr⟩
  | v u => exact ⟨u, key u hs, fin q g (show some u = some u from rfl)⟩
theorem ev_d {i : Nat} (h : s.sl[i]? = some (.d x)) : Ev W (tVar i) s (.d x) s := ev_var h (fun z => nomatch z)
theorem ev_v {i : Nat} {u : V} (h : s.sl[i]? = some (.v u)) : Ev W (tVar i) s (.v u) s := ev_var h (fun z => nomatch z)
theorem ev_int {i : Int} : Ev W (tC (.int i)) s (.d (.int i)) s := fun xt σ H ⟨G, g⟩ Q q => finD q g rp_int
theorem ev_bl {b : Bool} : Ev W (tC (.bl b)) s (.d (.bl b)) s := fun xt σ H ⟨G, g⟩ Q q => finD q g rp_bl
theorem ev_non : Ev W (tC .non) s (.d .non) s := fun xt σ H ⟨G, g⟩ Q q => finD q g rp_non
theorem ev_str {z : Str} : Ev W (tC (.str z)) s (.d (.str z)) s := fun xt σ H ⟨G, g⟩ Q q => finD q g rp_str
theorem ev_is (h : Ev W te s (.d x) s') (e : x = y) : Ev W te s (.d y) s' := e ▸ h
theorem ev_st (h : Ev W te s r s') (e : s' = s1) : Ev W te s r s1 := e ▸ h
theorem ev_weak (w : Weak W s s0) (h : Ev W te s0 r s') : Ev W te s r s' := fun xt σ H g Q q => h xt σ H (w _ _ _ g) Q q

/-- two values, then a rule upon them -/
theorem ev_two {rr : R2} (ha : Ev W ta s r1 s1) (hb : Ev W tb s1 r2 s2)
    (hr : ∀ xt σ H G u v, SatG W s2 ((v, r2) :: (u, r1) :: xt) σ H G → ∀ Q : VK, (∀ v H', Sat W s3 ((v, r) :: xt) σ H' → Q v H') → rr u v H Q) : Ev W (tOp rr ta tb) s r s3 := fun xt σ H g Q q =>
  ha xt σ H g _ fun u H1 g1 => hb _ σ H1 g1 _ fun v H2 ⟨G, g2⟩ => hr xt σ H2 G u v g2 Q q
theorem ev_one {rr : V → Hp → VK → Prop} (ha : Ev W ta s r1 s1)
    (hr : ∀ xt σ H G u, SatG W s1 ((u, r1) :: xt) σ H G → ∀ Q : VK, (∀ v H', Sat W s3 ((v, r) :: xt) σ H' → Q v H') → rr u H Q) : Ev W (tUn rr ta) s r s3 := fun xt σ H g Q q =>
  ha xt σ H g _ fun u H1 ⟨G, g1⟩ => hr xt σ H1 G u g1 Q q
theorem ev_opI {f : Int → Int → Int} {i j : Int} (ha : Ev W ta s (.d (.int i)) s1) (hb : Ev W tb s1 (.d (.int j)) s2) : Ev W (tOp (rI0 fun i j => .int (f i j)) ta tb) s (.d (.int (f i j))) s2 :=
  ev_two ha hb fun xt σ H G u v g Q q => ⟨i, j, rp_int_inv (Slot.inv g.second), rp_int_inv g.topD, finD q g.pop.pop rp_int⟩
theorem ev_opB {f : Int → Int → Bool} {i j : Int} (ha : Ev W ta s (.d (.int i)) s1) (hb : Ev W tb s1 (.d (.int j)) s2) : Ev W (tOp (rI0 fun i j => .bl (f i j)) ta tb) s (.d (.bl (f i j))) s2 :=
  ev_two ha hb fun xt σ H G u v g Q q => ⟨i, j, rp_int_inv (Slot.inv g.second), rp_int_inv g.topD, finD q g.pop.pop rp_bl⟩
theorem ev_opIC {C : Int → Int → Prop} {f : Int → Int → Int} {i j : Int} (ha : Ev W ta s (.d (.int i)) s1) (hb : Ev W tb s1 (.d (.int j)) s2) (hc : C i j) : Ev W (tOp (rI C fun i j => .int (f i j)) ta tb) s (.d (.int (f i j))) s2 :=
  ev_two ha hb fun xt σ H G u v g Q q => ⟨i, j, rp_int_inv (Slot.inv g.second), rp_int_inv g.topD, hc, finD q g.pop.pop rp_int⟩
theorem ev_unI {f : Int → Int} {i : Int} (ha : Ev W ta s (.d (.int i)) s1) : Ev W (tUn (rU fun i => .int (f i)) ta) s (.d (.int (f i))) s1 :=
  ev_one ha fun xt σ H G u g Q q => ⟨i, rp_int_inv g.topD, finD q g.pop rp_int⟩
/-! ### == and != of plain things -/
def D.flat : D → Option V
  | .non => some .non | .bl b => some (.bl b) | .int i => some (.int i) | .str z => some (.str z)
  | _ => none
theorem flat_rp {K : Frag} {G : Hp} {v u : V} (h : Rp K G x v) (e : x.flat = some u) : v = u := by
  cases x with
  | non => cases e; exact rp_non_inv h
  | bl b => cases e; exact rp_bl_inv h
  | int b => cases e; exact rp_int_inv h
  | str b => cases e; exact rp_str_inv h
  | lst _ => cases e
  | tup _ => cases e
  | scr _ => cases e
  | obj _ _ => cases e
  | xd _ => cases e
theorem ev_eq {u v : V} (ha : Ev W ta s (.d x) s1) (hb : Ev W tb s1 (.d y) s2) (hx : x.flat = some u := by rfl) (hy : y.flat = some v := by rfl) (hs : scal u v = true := by rfl) : Ev W (tOp rEq ta tb) s (.d (.bl (decide (u = v)))) s2 :=
  ev_two ha hb fun xt σ H G a b g Q q => by
    obtain rfl := flat_rp (Slot.inv g.second) hx
    obtain rfl := flat_rp g.topD hy
    exact ⟨hs, finD q g.pop.pop rp_bl⟩
theorem ev_ne {u v : V} (ha : Ev W ta s (.d x) s1) (hb : Ev W tb s1 (.d y) s2) (hx : x.flat = some u := by rfl) (hy : y.flat = some v := by rfl) (hs : scal u v = true := by rfl) : Ev W (tOp rNe ta tb) s (.d (.bl (!decide (u = v)))) s2 :=
  ev_two ha hb fun xt σ H G a b g Q q => by
    obtain rfl := flat_rp (Slot.inv g.second) hx
    obtain rfl := flat_rp g.topD hy
    exact ⟨hs, finD q g.pop.pop rp_bl⟩
theorem dInt {i j : Int} : decide (V.int i = V.int j) = decide (i = j) := by rw [dec_int]; by_cases h : i = j <;> simp [h]
theorem ev_eqI {i j : Int} (ha : Ev W ta s (.d (.int i)) s1) (hb : Ev W tb s1 (.d (.int j)) s2) : Ev W (tOp rEq ta tb) s (.d (.bl (decide (i = j)))) s2 := ev_is (ev_eq ha hb) (by rw [dInt])
theorem ev_neI {i j : Int} (ha : Ev W ta s (.d (.int i)) s1) (hb : Ev W tb s1 (.d (.int j)) s2) : Ev W (tOp rNe ta tb) s (.d (.bl (!decide (i = j)))) s2 := ev_is (ev_ne ha hb) (by rw [dInt])
def D.isNon : D → Bool
  | .non => true
  | _ => false
theorem isNon_rp {K : Frag} {G : Hp} {v : V} (h : Rp K G x v) : decide (v = .non) = x.isNon := by
  cases x with
  | non => rw [rp_non_inv h]; rfl
  | bl b => rw [rp_bl_inv h]; rfl
  | int b => rw [rp_int_inv h]; rfl
  | str b => rw [rp_str_inv h]; rfl
  | lst _ => obtain ⟨_, _, rfl, _⟩ := rp_lst_inv h; rfl
  | tup _ => obtain ⟨_, _, rfl, _⟩ := rp_tup_inv h; rfl
  | scr _ => obtain ⟨_, rfl, _⟩ := rp_scr_inv h; rfl
  | obj _ _ => obtain ⟨_, _, _, rfl, _⟩ := rp_obj_inv h; rfl
  | xd _ => obtain ⟨_, _, rfl, _⟩ := rp_xd_inv h; rfl
theorem ev_isN (ha : Ev W ta s (.d x) s1) : Ev W (tIsN ta) s (.d (.bl x.isNon)) s1 := fun xt σ H g Q q => ha xt σ H g _ fun v H1 ⟨G, g1⟩ => by
  show Q (.bl (decide (v = .non))) H1
  rw [isNon_rp g1.topD]
  exact finD q g1.pop rp_bl
theorem ev_notN (ha : Ev W ta s (.d x) s1) : Ev W (tNotN ta) s (.d (.bl (!x.isNon))) s1 := fun xt σ H g Q q => ha xt σ H g _ fun v H1 ⟨G, g1⟩ => by
  show Q (.bl (!decide (v = .non))) H1
  rw [isNon_rp g1.topD]
  exact finD q g1.pop rp_bl
/-! ### truth -/
theorem ev_if {tt : TT} {b : Bool} (h : EvT W tt s b s0) (h1 : b = true → Ev W ta s0 r s') (h2 : b = false → Ev W tb s0 r s') : Ev W (tIf tt ta tb) s r s' := fun xt σ H g Q q => h xt σ H g _ fun H1 g1 => by
  cases b with
  | true => exact h1 rfl xt σ H1 g1 Q q
  | false => exact h2 rfl xt σ H1 g1 Q q
theorem ev_andV {a b : Bool} (h1 : Ev W ta s (.d (.bl a)) s1) (h2 : a = true → Ev W tb s1 (.d (.bl b)) s1) : Ev W (tAndV ta tb) s (.d (.bl (a && b))) s1 := fun xt σ H g Q q => h1 xt σ H g _ fun v H1 ⟨G, g1⟩ => ⟨a, rp_bl_inv g1.topD, by
  cases a with
  | true => exact h2 rfl xt σ H1 ⟨G, g1.pop⟩ Q q
  | false => exact finD q g1.pop rp_bl⟩
theorem ev_orV {a b : Bool} (h1 : Ev W ta s (.d (.bl a)) s1) (h2 : a = false → Ev W tb s1 (.d (.bl b)) s1) : Ev W (tOrV ta tb) s (.d (.bl (a || b))) s1 := fun xt σ H g Q q => h1 xt σ H g _ fun v H1 ⟨G, g1⟩ => ⟨a, rp_bl_inv g1.topD, by
  cases a with
  | true => exact finD q g1.pop rp_bl
  | false => exact h2 rfl xt σ H1 ⟨G, g1.pop⟩ Q q⟩
theorem ev_notV {a : Bool} (h1 : Ev W ta s (.d (.bl a)) s1) : Ev W (tNotV ta) s (.d (.bl (!a))) s1 := fun xt σ H g Q q => h1 xt σ H g _ fun v H1 ⟨G, g1⟩ => ⟨a, rp_bl_inv g1.topD, finD q g1.pop rp_bl⟩
section
variable {tt uu : TT} {a b : Bool}
theorem et_test (h : Ev W te s (.d (.bl b)) s1) : EvT W (tTest te) s b s1 := fun xt σ H g Q q => h xt σ H g _ fun v H1 ⟨G, g1⟩ => ⟨b, rp_bl_inv g1.topD, q H1 ⟨G, g1.pop⟩⟩
theorem et_B (h : Ev W te s (.d (.bl b)) s1) : EvT W (tB te) s b s1 := fun xt σ H g Q q => h xt σ H g _ fun v H1 ⟨G, g1⟩ => ⟨b, rp_bl_inv g1.topD, q H1 ⟨G, g1.pop⟩⟩
theorem et_yes : EvT W tYes s true s := fun xt σ H g Q q => q H g
theorem et_is (h : EvT W tt s a s1) (e : a = b) : EvT W tt s b s1 := e ▸ h
theorem et_and (h1 : EvT W tt s a s1) (h2 : a = true → EvT W uu s1 b s1) : EvT W (tAnd tt uu) s (a && b) s1 := fun xt σ H g Q q => h1 xt σ H g _ fun H1 g1 => by
  cases a with
  | true => exact h2 rfl xt σ H1 g1 Q q
  | false => exact q H1 g1
theorem et_or (h1 : EvT W tt s a s1) (h2 : a = false → EvT W uu s1 b s1) : EvT W (tOr tt uu) s (a || b) s1 := fun xt σ H g Q q => h1 xt σ H g _ fun H1 g1 => by
  cases a with
  | true => exact q H1 g1
  | false => exact h2 rfl xt σ H1 g1 Q q
/-- where the second test changes the state -/
theorem et_orS (h1 : EvT W tt s a s1) (h2 : a = false → EvT W uu s1 b s2) (h3 : a = true → s2 = s1) : EvT W (tOr tt uu) s (a || b) s2 := fun xt σ H g Q q => h1 xt σ H g _ fun H1 g1 => by
  cases a with
  | true => exact q H1 (by rw [h3 rfl]; exact g1)
  | false => exact h2 rfl xt σ H1 g1 Q q
theorem et_not (h1 : EvT W tt s a s1) : EvT W (tNot tt) s (!a) s1 := fun xt σ H g Q q => h1 xt σ H g _ fun H1 g1 => q H1 g1
end
/-! ### lists and tuples read -/
/-- r, in the state s, is a list of these -/
inductive LstAt (s : S) : Slot → List D → Prop where
  | d {ds : List D} : LstAt s (.d (.lst ds)) ds
  | s {ns : List Int} : LstAt s (.d (.scr ns)) (ns.map D.int)
  | o {k : Nat} {p : Addr} {ds : List D} : s.own[k]? = some (p, .lst ds) → LstAt s (.v (.ref p)) ds
theorem LstAt.at {xt : Tmp} {σ : L2.St} {H G : Hp} {v : V} (h : LstAt s r ds) (g : SatG W s xt σ H G) (hr : r.ok W.K G (some v)) : ∃ p vs, v = .ref p ∧ SqL W.K H p vs ∧ Rps W.K G ds vs := by
  cases h with
  | d =>
    obtain ⟨p, vs, e, h1, h2⟩ := rp_lst_inv (Slot.inv hr)
    exact ⟨p, vs, e, Evl.sq_of (g.gh _ _ h1), h2⟩
  | s =>
    obtain ⟨p, e, h1⟩ := rp_scr_inv (Slot.inv hr)
    exact ⟨p, _, e, Evl.ex_l g.gh h1, Rps.ints⟩
  | o hk =>
    obtain ⟨h1, ⟨vs, h2, h3⟩, _⟩ := g.own _ _ (List.mem_of_getElem? hk)
    exact ⟨_, vs, Slot.vinv hr, Evl.sq_of h2, h3⟩
/-- .. that stands by itself (no locked one) -/
inductive LstOwn (s : S) : Slot → List D → Prop where
  | d {ds : List D} : LstOwn s (.d (.lst ds)) ds
  | o {k : Nat} {p : Addr} {ds : List D} : s.own[k]? = some (p, .lst ds) → LstOwn s (.v (.ref p)) ds
theorem LstOwn.at {xt : Tmp} {σ : L2.St} {H G : Hp} {v : V} (h : LstOwn s r ds) (g : SatG W s xt σ H G) (hr : r.ok W.K G (some v)) : ∃ p vs, v = .ref p ∧ H p = some (.lst vs) ∧ Rps W.K G ds vs := by
  cases h with
  | d =>
    obtain ⟨p, vs, e, h1, h2⟩ := rp_lst_inv (Slot.inv hr)
    exact ⟨p, vs, e, g.gh _ _ h1, h2⟩
  | o hk =>
    obtain ⟨h1, ⟨vs, h2, h3⟩, _⟩ := g.own _ _ (List.mem_of_getElem? hk)
    exact ⟨_, vs, Slot.vinv hr, h2, h3⟩
theorem Tup.at {xt : Tmp} {σ : L2.St} {H G : Hp} {v : V} (g : SatG W s xt σ H G) (hr : (Slot.d (.tup ds)).ok W.K G (some v)) : ∃ p vs, v = .ref p ∧ SqT W.K H p vs ∧ H p = some (.tup vs) ∧ Rps W.K G ds vs := by
  obtain ⟨p, vs, e, h1, h2⟩ := rp_tup_inv (Slot.inv hr)
  exact ⟨p, vs, e, Evl.st_of (g.gh _ _ h1), g.gh _ _ h1, h2⟩
theorem Rps.atI {K : Frag} {G : Hp} {vs : List V} {i : Int} (h : Rps K G ds vs) (e : atI ds i = some x) : ∃ v, L2.atI vs i = some v ∧ Rp K G x v := by
  unfold L2.atI at e ⊢
  rw [h.len]
  cases q : ixN ds.length i with
  | none => rw [q] at e; cases e
  | some j =>
    rw [q] at e
    exact h.get (i := j) e
theorem ev_ixL {i : Int} (ha : Ev W ta s r s1) (hb : Ev W tb s1 (.d (.int i)) s2) (hl : LstAt s2 r ds) (he : atI ds i = some x) : Ev W (tOp (rIxL W.K) ta tb) s (.d x) s2 :=
  ev_two ha hb fun xt σ H G u v g Q q => by
    obtain ⟨p, vs, e1, e2, e3⟩ := hl.at g g.second
    obtain ⟨w, e4, e5⟩ := e3.atI he
    exact ⟨p, vs, i, w, e1, rp_int_inv g.topD, e2, e4, finD q g.pop.pop e5⟩
theorem ev_ixT {i : Int} (ha : Ev W ta s (.d (.tup ds)) s1) (hb : Ev W tb s1 (.d (.int i)) s2) (he : atI ds i = some x) : Ev W (tOp (rIxT W.K) ta tb) s (.d x) s2 :=
  ev_two ha hb fun xt σ H G u v g Q q => by
    obtain ⟨p, vs, e1, e2, _, e3⟩ := Tup.at g g.second
    obtain ⟨w, e4, e5⟩ := e3.atI he
    exact ⟨p, vs, i, w, e1, rp_int_inv g.topD, e2, e4, finD q g.pop.pop e5⟩
end
/-! ### arguments -/
section
variable {W : Wd} {s s0 s' s1 s2 s3 : S} {ta tb te tc : TE} {tr : TA} {r r1 r2 : Slot} {rs : List Slot} {x y : D} {xs ys ds : List D}
theorem ea_nil : EvA W tNil s [] s := fun xt σ H g Q q => q [] H rfl g
theorem ea_cons (h : Ev W te s r s1) (hr : EvA W tr s1 rs s2) : EvA W (tCons te tr) s (r :: rs) s2 := fun xt σ H g Q q =>
  h xt σ H g _ fun v H1 g1 => hr _ σ H1 g1 _ fun vs H2 hl ⟨G, g2⟩ => q (v :: vs) H2 (by simp [hl]) ⟨G, g2.sub fun t ht => by
    rcases List.mem_append.mp ht with ht | ht
    · rcases List.mem_cons.mp (show t ∈ (v, r) :: vs.zip rs from ht) with z | z
      · exact List.mem_append_left _ (List.mem_append_right _ (by rw [z]; exact List.mem_cons_self))
      · exact List.mem_append_left _ (List.mem_append_left _ z)
    · exact List.mem_append_left _ (List.mem_append_right _ (List.mem_cons_of_mem _ ht))⟩
theorem ev_cb1 {rr : List V → Hp → VK → Prop} (ha : Ev W ta s r1 s1)
    (hr : ∀ xt σ H G u, SatG W s1 ((u, r1) :: xt) σ H G → ∀ Q : VK, (∀ v H', Sat W s3 ((v, r) :: xt) σ H' → Q v H') → rr [u] H Q) : Ev W (tCB rr (tCons ta tNil)) s r s3 := fun xt σ H g Q q =>
  ha xt σ H g _ fun u H1 ⟨G, g1⟩ => hr xt σ H1 G u g1 Q q
theorem ev_cb2 {rr : List V → Hp → VK → Prop} (ha : Ev W ta s r1 s1) (hb : Ev W tb s1 r2 s2)
    (hr : ∀ xt σ H G u v, SatG W s2 ((v, r2) :: (u, r1) :: xt) σ H G → ∀ Q : VK, (∀ v H', Sat W s3 ((v, r) :: xt) σ H' → Q v H') → rr [u, v] H Q) : Ev W (tCB rr (tCons ta (tCons tb tNil))) s r s3 := fun xt σ H g Q q =>
  ha xt σ H g _ fun u H1 g1 => hb _ σ H1 g1 _ fun v H2 ⟨G, g2⟩ => hr xt σ H2 G u v g2 Q q
theorem evN_cb1 {rr : List V → Hp → VK → Prop} {c : Cont} (ha : Ev W ta s r1 s1)
    (hr : ∀ xt σ H G u, SatG W s1 ((u, r1) :: xt) σ H G → ∀ Q : VK, (∀ p H', Sat W ⟨s3.sl, s3.own ++ [(p, c)], s3.tmp⟩ ((.ref p, .v (.ref p)) :: xt) σ H' → Q (.ref p) H') → rr [u] H Q) : EvN W (tCB rr (tCons ta tNil)) s c s3 := fun xt σ H g Q q =>
  ha xt σ H g _ fun u H1 ⟨G, g1⟩ => hr xt σ H1 G u g1 Q q
theorem Rps.ints_of {K : Frag} {G : Hp} {vs : List V} {ns : List Int} (h : Rps K G ds vs) (e : ds = ns.map D.int) : vs = ns.map V.int := by
  subst e
  exact h.ints_inv
theorem Rps.bls_of {K : Frag} {G : Hp} {vs : List V} {ns : List Bool} (h : Rps K G ds vs) (e : ds = ns.map D.bl) : vs = ns.map V.bl := by
  subst e
  exact h.bools_inv
/-- len -/
abbrev rLenQ (K : Frag) : List V → Hp → VK → Prop := fun xs H Q => ∃ p ys, xs = [.ref p] ∧ (SqL K H p ys ∨ SqT K H p ys) ∧ Q (.int ys.length) H
theorem ev_lenL (ha : Ev W ta s r s1) (hl : LstAt s1 r ds) : Ev W (tCB (rLenQ W.K) (tCons ta tNil)) s (.d (.int ds.length)) s1 :=
  ev_cb1 ha fun xt σ H G u g Q q => by
    obtain ⟨p, vs, rfl, e2, e3⟩ := hl.at g g.top
    exact ⟨p, vs, rfl, .inl e2, finD q g.pop (by rw [e3.len]; exact rp_int)⟩
theorem ev_lenT (ha : Ev W ta s (.d (.tup ds)) s1) : Ev W (tCB (rLenQ W.K) (tCons ta tNil)) s (.d (.int ds.length)) s1 :=
  ev_cb1 ha fun xt σ H G u g Q q => by
    obtain ⟨p, vs, rfl, e2, _, e3⟩ := Tup.at g g.top
    exact ⟨p, vs, rfl, .inr e2, finD q g.pop (by rw [e3.len]; exact rp_int)⟩
theorem ev_sum {ns : List Int} (ha : Ev W ta s r s1) (hl : LstAt s1 r ds) (e : ds = ns.map D.int) : Ev W (tCB (rSum W.K) (tCons ta tNil)) s (.d (.int ns.sum)) s1 :=
  ev_cb1 ha fun xt σ H G u g Q q => by
    obtain ⟨p, vs, rfl, e2, e3⟩ := hl.at g g.top
    rw [e3.ints_of e] at e2
    exact ⟨p, ns, rfl, e2, finD q g.pop rp_int⟩
theorem ev_max {ns : List Int} {m : Int} (ha : Ev W ta s r s1) (hl : LstAt s1 r ds) (e : ds = ns.map D.int) (h0 : m ∈ ns) (hm : ∀ y, y ∈ ns → y ≤ m) : Ev W (tCB (rMax W.K) (tCons ta tNil)) s (.d (.int m)) s1 :=
  ev_cb1 ha fun xt σ H G u g Q q => by
    obtain ⟨p, vs, rfl, e2, e3⟩ := hl.at g g.top
    rw [e3.ints_of e] at e2
    refine ⟨p, ns, rfl, e2, List.length_pos_of_mem h0, fun m' h1 h2 => ?_⟩
    have em : m' = m := by
      have a := hm m' h1
      have b := h2 m h0
      omega
    rw [em]
    exact finD q g.pop rp_int
theorem ev_all {bs : List Bool} (ha : Ev W ta s r s1) (hl : LstAt s1 r ds) (e : ds = bs.map D.bl) : Ev W (tCB (rAll W.K) (tCons ta tNil)) s (.d (.bl (bs.all id))) s1 :=
  ev_cb1 ha fun xt σ H G u g Q q => by
    obtain ⟨p, vs, rfl, e2, e3⟩ := hl.at g g.top
    rw [e3.bls_of e] at e2
    exact ⟨p, bs, rfl, e2, finD q g.pop rp_bl⟩
abbrev rMax2 : List V → Hp → VK → Prop := fun xs H Q => ∃ i j, xs = [.int i, .int j] ∧ Q (.int (if j > i then j else i)) H
theorem ev_max2 {i j : Int} (ha : Ev W ta s (.d (.int i)) s1) (hb : Ev W tb s1 (.d (.int j)) s2) : Ev W (tCB rMax2 (tCons ta (tCons tb tNil))) s (.d (.int (max i j))) s2 :=
  ev_cb2 ha hb fun xt σ H G u v g Q q => ⟨i, j, by rw [rp_int_inv (Slot.inv g.second), rp_int_inv g.topD], finD q g.pop.pop (by rw [show max i j = if j > i then j else i by split <;> omega]; exact rp_int)⟩
abbrev rMin2 : List V → Hp → VK → Prop := fun xs H Q => ∃ i j, xs = [.int i, .int j] ∧ Q (.int (if j < i then j else i)) H
theorem ev_min2 {i j : Int} (ha : Ev W ta s (.d (.int i)) s1) (hb : Ev W tb s1 (.d (.int j)) s2) : Ev W (tCB rMin2 (tCons ta (tCons tb tNil))) s (.d (.int (min i j))) s2 :=
  ev_cb2 ha hb fun xt σ H G u v g Q q => ⟨i, j, by rw [rp_int_inv (Slot.inv g.second), rp_int_inv g.topD], finD q g.pop.pop (by rw [show min i j = if j < i then j else i by split <;> omega]; exact rp_int)⟩
abbrev rInt1 : List V → Hp → VK → Prop := fun xs H Q => (∃ i, xs = [.int i] ∧ Q (.int i) H) ∨ ∃ k, xs = [.bl k] ∧ Q (.int (if k then 1 else 0)) H
theorem ev_int1 {i : Int} (ha : Ev W ta s (.d (.int i)) s1) : Ev W (tCB rInt1 (tCons ta tNil)) s (.d (.int i)) s1 :=
  ev_cb1 ha fun xt σ H G u g Q q => .inl ⟨i, by rw [rp_int_inv g.topD], finD q g.pop rp_int⟩
/-! ### new lists and tuples -/
theorem Rps.of_zip {K : Frag} {G : Hp} : ∀ {ds : List D} {vs : List V}, vs.length = ds.length → (∀ t, t ∈ vs.zip (ds.map Slot.d) → t.2.ok K G (some t.1)) → Rps K G ds vs
  | [], [], _, _ => Rps.nil
  | [], _ :: _, h, _ => by cases h
  | _ :: _, [], h, _ => by cases h
  | d :: ds, v :: vs, h, k => Rps.cons (Slot.inv (k (v, .d d) List.mem_cons_self)) (Rps.of_zip (by simpa using h) fun t ht => k t (List.mem_cons_of_mem _ ht))
theorem evN_lst (h : EvA W tr s (ds.map Slot.d) s1) (hl : ds.length ≤ 100000) : EvN W (tLst tr) s (.lst ds) s1 := fun xt σ H g Q q =>
  h xt σ H g _ fun vs H1 e ⟨G, g1⟩ => ⟨Evl.sz_of (by rw [e, List.length_map]; exact hl), fun p hp => q p _ ⟨G, (g1.pops.mine (c := .lst ds) hp ⟨vs, upd_same, Rps.of_zip (by rw [e, List.length_map]) fun t ht => g1.tmps t (List.mem_append_left _ (List.mem_append_left _ ht))⟩).push rfl⟩⟩
theorem ev_frz {ds : List D} (h : EvN W te s (.lst ds) s1) : Ev W te s (.d (.lst ds)) s1 := fun xt σ H g Q q =>
  h xt σ H g Q fun p H' ⟨G, g1⟩ => by
    obtain ⟨vs, hp, hr, _, g2⟩ := g1.freeze (k := s1.own.length) (p := p) (xs := ds) (by show (s1.own ++ [(p, Cont.lst ds)])[s1.own.length]? = _; simp)
    have e : (s1.own ++ [(p, Cont.lst ds)]).eraseIdx s1.own.length = s1.own := by
      rw [List.eraseIdx_append_of_length_le (Nat.le_refl _)]
      simp
    refine finD q (G := upd G p (.lst vs)) ?_ (rp_lst upd_same hr)
    have g3 := g2.pop
    rw [show (⟨s1.sl, s1.own ++ [(p, Cont.lst ds)], s1.tmp⟩ : S).own.eraseIdx s1.own.length = s1.own from e] at g3
    exact g3
theorem ev_lst (h : EvA W tr s (ds.map Slot.d) s1) (hl : ds.length ≤ 100000 := by decide) : Ev W (tLst tr) s (.d (.lst ds)) s1 := ev_frz (evN_lst h hl)
theorem ev_tup (h : EvA W tr s (ds.map Slot.d) s1) (hl : ds.length ≤ 100000 := by decide) : Ev W (tTup tr) s (.d (.tup ds)) s1 := fun xt σ H g Q q =>
  h xt σ H g _ fun vs H1 e ⟨G, g1⟩ => ⟨Evl.sz_of (by rw [e, List.length_map]; exact hl), fun p hp => by
    have r : Rps W.K G ds vs := Rps.of_zip (by rw [e, List.length_map]) fun t ht => g1.tmps t (List.mem_append_left _ (List.mem_append_left _ ht))
    exact finD q (g1.pops.laid (o := .tup vs) hp) (rp_tup upd_same (r.mono (Ex.new (g1.gnone hp))))⟩
abbrev rListQ (K : Frag) : List V → Hp → VK → Prop := fun xs H Q => ∃ p ys, xs = [.ref p] ∧ (SqL K H p ys ∨ SqT K H p ys) ∧ ∀ l, H l = none → Q (.ref l) (upd H l (.lst ys))
theorem evN_listL (ha : Ev W ta s r s1) (hl : LstAt s1 r ds) : EvN W (tCB (rListQ W.K) (tCons ta tNil)) s (.lst ds) s1 :=
  evN_cb1 ha fun xt σ H G u g Q q => by
    obtain ⟨p, vs, rfl, e2, e3⟩ := hl.at g g.top
    exact ⟨p, vs, rfl, .inl e2, fun l hl => q l _ ⟨G, (g.pop.mine (c := .lst ds) hl ⟨vs, upd_same, e3⟩).push rfl⟩⟩
theorem evN_listT (ha : Ev W ta s (.d (.tup ds)) s1) : EvN W (tCB (rListQ W.K) (tCons ta tNil)) s (.lst ds) s1 :=
  evN_cb1 ha fun xt σ H G u g Q q => by
    obtain ⟨p, vs, rfl, e2, _, e3⟩ := Tup.at g g.top
    exact ⟨p, vs, rfl, .inr e2, fun l hl => q l _ ⟨G, (g.pop.mine (c := .lst ds) hl ⟨vs, upd_same, e3⟩).push rfl⟩⟩
abbrev rTupQ (K : Frag) : List V → Hp → VK → Prop := fun xs H Q => ∃ p ys, xs = [.ref p] ∧ ((SqL K H p ys ∧ ∀ l, H l = none → Q (.ref l) (upd H l (.tup ys))) ∨ (SqT K H p ys ∧ Q (.ref p) H))
theorem ev_tupL (ha : Ev W ta s r s1) (hl : LstAt s1 r ds) : Ev W (tCB (rTupQ W.K) (tCons ta tNil)) s (.d (.tup ds)) s1 :=
  ev_cb1 ha fun xt σ H G u g Q q => by
    obtain ⟨p, vs, rfl, e2, e3⟩ := hl.at g g.top
    exact ⟨p, vs, rfl, .inl ⟨e2, fun l hl => finD q (g.pop.laid (o := .tup vs) hl) (rp_tup upd_same (e3.mono (Ex.new (g.gnone hl))))⟩⟩
theorem ev_tupT (ha : Ev W ta s (.d (.tup ds)) s1) : Ev W (tCB (rTupQ W.K) (tCons ta tNil)) s (.d (.tup ds)) s1 :=
  ev_cb1 ha fun xt σ H G u g Q q => by
    obtain ⟨p, vs, rfl, e2, _, e3⟩ := Tup.at g g.top
    exact ⟨p, vs, rfl, .inr ⟨e2, finD q g.pop g.topD⟩⟩
theorem evN_cat (ha : Ev W ta s r1 s1) (hb : Ev W tb s1 r2 s2) (h1 : LstOwn s2 r1 xs) (h2 : LstOwn s2 r2 ys) (hl : xs.length + ys.length ≤ 100000) : EvN W (tOp rCat ta tb) s (.lst (xs ++ ys)) s2 := fun xt σ H g Q q =>
  ha xt σ H g _ fun u H1 g1 => hb _ σ H1 g1 _ fun v H2 ⟨G, g2⟩ => by
    obtain ⟨p, vs, rfl, e2, e3⟩ := h1.at g2 g2.second
    obtain ⟨p', vs', rfl, e2', e3'⟩ := h2.at g2 g2.top
    exact ⟨p, p', vs, vs', rfl, rfl, e2, e2', Evl.sz_of (by rw [e3.len, e3'.len]; exact hl), fun l hl => q l _ ⟨G, (g2.pop.pop.mine (c := .lst (xs ++ ys)) hl ⟨_, upd_same, e3.append e3'⟩).push rfl⟩⟩
theorem evN_rep {k : Int} (ha : Ev W ta s r1 s1) (hb : Ev W tb s1 (.d (.int k)) s2) (h1 : LstOwn s2 r1 xs) (hk : -1000000 ≤ k ∧ k ≤ 1000000) (hl : xs.length * k.toNat ≤ 100000) : EvN W (tOp rRep ta tb) s (.lst ((List.replicate k.toNat xs).flatten)) s2 := fun xt σ H g Q q =>
  ha xt σ H g _ fun u H1 g1 => hb _ σ H1 g1 _ fun v H2 ⟨G, g2⟩ => by
    obtain ⟨p, vs, rfl, e2, e3⟩ := h1.at g2 g2.second
    have rr : ∀ n : Nat, Rps W.K G ((List.replicate n xs).flatten) ((List.replicate n vs).flatten) := fun n => by
      induction n with
      | zero => exact Rps.nil
      | succ n ih =>
        rw [List.replicate_succ, List.replicate_succ, List.flatten_cons, List.flatten_cons]
        exact e3.append ih
    exact ⟨p, k, vs, rfl, rp_int_inv g2.topD, e2, by omega, by omega, Evl.sz_of (by rw [e3.len]; exact hl), fun l hl => q l _ ⟨G, (g2.pop.pop.mine (c := .lst _) hl ⟨_, upd_same, rr _⟩).push rfl⟩⟩
end
end Py

/-! ### statements -/
namespace Py
open PySem L2
open PySem.W (Frag)
open Evl (Ex tCut pss_cut)
section
variable {W : Wd} {s s0 s' s1 s2 s3 : S} {ta tb te tc : TE} {tr : TA} {r r1 r2 : Slot} {rs : List Slot} {x y : D} {xs ys ds : List D} {D₀ : Ends} {t u : TS} {b : Bool} {tt : TT}
def NxP (W : Wd) (s : S) : L2.St → Hp → Prop := fun σ H => Sat W s [] σ H
theorem getD_set {σ : L2.St} {i j : Nat} {v : V} (h : i < σ.length) : (σ.set i (some v)).getD j none = if j = i then some v else σ.getD j none := by
  rw [List.getD_eq_getElem?_getD, List.getD_eq_getElem?_getD]
  by_cases e : j = i
  · subst e
    rw [List.getElem?_set_self h, if_pos rfl]
    rfl
  · rw [List.getElem?_set_ne (Ne.symm e), if_neg e]
theorem SatG.set {xt : Tmp} {σ : L2.St} {H G : Hp} {i : Nat} {v : V} (h : SatG W s xt σ H G) (hr : r.ok W.K G (some v)) : SatG W ⟨s.sl.set i r, s.own, s.tmp⟩ xt (σ.set i (some v)) H G := by
  refine ⟨h.g0, h.gh, h.new, h.keep, h.stay, by rw [List.length_set, List.length_set, h.len], fun j y hy => ?_, h.tmps, h.own, h.nd⟩
  by_cases hi : i < s.sl.length
  · rw [getD_set (by rw [h.len]; exact hi)]
    by_cases e : j = i
    · subst e
      rw [List.getElem?_set_self hi] at hy
      cases hy
      rw [if_pos rfl]
      exact hr
    · rw [List.getElem?_set_ne (Ne.symm e)] at hy
      rw [if_neg e]
      exact h.slot j y hy
  · have e1 : s.sl.set i r = s.sl := List.set_eq_of_length_le (by omega)
    have e2 : σ.set i (some v) = σ := List.set_eq_of_length_le (by rw [h.len]; omega)
    rw [e1] at hy
    rw [e2]
    exact h.slot j y hy
theorem Go.weak (w : Weak W s s1) (h : Go W s1 t D₀) : Go W s t D₀ := fun σ H g => h σ H (w _ _ _ g)
theorem go_set {i : Nat} (h : Ev W te s r s') (k : Go W ⟨s'.sl.set i r, s'.own, s'.tmp⟩ u D₀) : Go W s (tCut (tAsg te (gName i)) u) D₀ := fun σ H g =>
  ⟨fun σ' H' => u D₀ σ' H', h [] σ H g _ fun v H1 ⟨G, g1⟩ => k _ _ ⟨G, g1.pop.set g1.top⟩, fun _ _ z => z⟩
theorem go_setN {i : Nat} {c : Cont} (h : EvN W te s c s') (k : ∀ p, Go W ⟨s'.sl.set i (.v (.ref p)), s'.own ++ [(p, c)], s'.tmp⟩ u D₀) : Go W s (tCut (tAsg te (gName i)) u) D₀ := fun σ H g =>
  ⟨fun σ' H' => u D₀ σ' H', h [] σ H g _ fun p H1 ⟨G, g1⟩ => k p _ _ ⟨G, g1.pop.set g1.top⟩, fun _ _ z => z⟩
theorem go_aug {i : Nat} {f : Int → Int → Int} {a c : Int} (hx : s.sl[i]? = some (.d (.int a))) (h : Ev W te s (.d (.int c)) s') (k : Go W ⟨s'.sl.set i (.d (.int (f a c))), s'.own, s'.tmp⟩ u D₀) : Go W s (tCut (tAug i te (ipI f)) u) D₀ := fun σ H ⟨G, g⟩ => by
  refine ⟨fun σ' H' => u D₀ σ' H', ?_, fun _ _ z => z⟩
  have e := g.slot i _ hx
  obtain ⟨w, e1, e2⟩ := e
  rw [rp_int_inv e2] at e1
  have e3 : σ[i]? = some (some (.int a)) := by
    rw [List.getD_eq_getElem?_getD] at e1
    cases q : σ[i]? with
    | none => rw [q] at e1; cases e1
    | some o => rw [q] at e1; rw [show o = _ from e1]
  exact ⟨.int a, e3, h [] σ H ⟨G, g⟩ _ fun v H1 ⟨G1, g1⟩ => ⟨a, c, rfl, rp_int_inv g1.topD, k _ _ ⟨G1, g1.pop.set ⟨_, rfl, rp_int⟩⟩⟩⟩
theorem go_drop (h : Ev W te s r s') (k : Go W s' u D₀) : Go W s (tCut (tDrop te) u) D₀ := fun σ H g =>
  ⟨fun σ' H' => u D₀ σ' H', h [] σ H g _ fun v H1 ⟨G, g1⟩ => k _ _ ⟨G, g1.pop⟩, fun _ _ z => z⟩
def RetOk (W : Wd) (D₀ : Ends) (r : Slot) (s : S) : Prop := ∀ v σ H, Sat W s [(v, r)] σ H → D₀.rt v H
theorem go_ret (h : Ev W te s r s') (k : RetOk W D₀ r s') : Go W s (tCut (tRet te) u) D₀ := fun σ H g =>
  ⟨fun _ _ => False, h [] σ H g _ fun v H1 g1 => k v σ H1 g1, fun _ _ z => z.elim⟩
theorem go_next (h : ∀ σ H, Sat W s [] σ H → D₀.nx σ H) : Go W s tNext D₀ := h
theorem go_nxP {D : Ends} (w : Weak W s s1) (e : D.nx = NxP W s1) : Go W s tNext D := fun σ H g => by
  show D.nx σ H
  rw [e]
  exact w _ _ _ g
theorem go_brk (h : ∀ σ H, Sat W s [] σ H → D₀.bk σ H) : Go W s (tCut tBreak u) D₀ := fun σ H g => ⟨fun _ _ => False, h σ H g, fun _ _ z => z.elim⟩
theorem go_cnt (h : ∀ σ H, Sat W s [] σ H → D₀.ct σ H) : Go W s (tCut tCont u) D₀ := fun σ H g => ⟨fun _ _ => False, h σ H g, fun _ _ z => z.elim⟩
/-- an if, both ways joined in the state s2 -/
theorem go_if {t1 t2 : TS} (s2 : S) (h : EvT W tt s b s1) (h1 : b = true → Go W s1 t1 { D₀ with nx := NxP W s2 }) (h2 : b = false → Go W s1 t2 { D₀ with nx := NxP W s2 }) (k : Go W s2 u D₀) : Go W s (tCut (tIfS tt t1 t2) u) D₀ := fun σ H g =>
  ⟨NxP W s2, h [] σ H g _ fun H1 g1 => by
    cases b with
    | true => exact h1 rfl σ H1 g1
    | false => exact h2 rfl σ H1 g1, fun σ' H' g' => k σ' H' g'⟩
/-- an if whose answer is known -/
theorem go_ifT {t1 t2 : TS} (s2 : S) (h : EvT W tt s true s1) (h1 : Go W s1 t1 { D₀ with nx := NxP W s2 }) (k : Go W s2 u D₀) : Go W s (tCut (tIfS tt t1 t2) u) D₀ := go_if s2 h (fun _ => h1) (fun z => nomatch z) k
theorem go_ifF {t2 : TS} (h : EvT W tt s false s1) (k : Go W s1 u D₀) : Go W s (tCut (tIfS tt t2 tNext) u) D₀ := go_if s1 h (fun z => nomatch z) (fun _ => go_nxP Weak.refl rfl) k
/-- an if without else, the first way ends there (return, raise, continue, break) -/
theorem go_ifR {t1 : TS} (h : EvT W tt s b s1) (h1 : b = true → Go W s1 t1 { D₀ with nx := fun _ _ => False }) (k : b = false → Go W s1 u D₀) : Go W s (tCut (tIfS tt t1 tNext) u) D₀ := fun σ H g => by
  cases b with
  | true => exact ⟨fun _ _ => False, h [] σ H g _ fun H1 g1 => h1 rfl σ H1 g1, fun _ _ z => z.elim⟩
  | false => exact ⟨NxP W s1, h [] σ H g _ fun H1 g1 => g1, fun σ' H' g' => k rfl σ' H' g'⟩
/-- both ways end there -/
theorem go_ifE {t1 t2 : TS} (h : EvT W tt s b s1) (h1 : b = true → Go W s1 t1 { D₀ with nx := fun _ _ => False }) (h2 : b = false → Go W s1 t2 { D₀ with nx := fun _ _ => False }) : Go W s (tCut (tIfS tt t1 t2) u) D₀ := fun σ H g =>
  ⟨fun _ _ => False, h [] σ H g _ fun H1 g1 => by
    cases b with
    | true => exact h1 rfl σ H1 g1
    | false => exact h2 rfl σ H1 g1, fun _ _ z => z.elim⟩
/-! ### one's own list changed -/
theorem tyL {p : Addr} {vs : List V} {K : Frag} {H : Hp} (h : SqL K H p vs) : tyV K "list" (.ref p) H := .inl ⟨rfl, _, h⟩
theorem go_append {k : Nat} {p : Addr} (ha : Ev W ta s (.v (.ref p)) s1) (h : Ev W te s1 (.d x) s2) (hk : s2.own[k]? = some (p, .lst xs)) (h1 : s1.own[k]? = some (p, .lst ys)) (hl : xs.length < 100000)
    (K : Go W ⟨s2.sl, s2.own.set k (p, .lst (xs ++ [x])), s2.tmp⟩ u D₀) : Go W s (tCut (tDrop (tBM W.K "list" rAppend ta (tCons te tNil))) u) D₀ := fun σ H g =>
  ⟨fun σ' H' => u D₀ σ' H', ha [] σ H g _ fun v H1 ⟨G1, g1⟩ => by
    obtain rfl := Slot.vinv g1.top
    obtain ⟨_, ⟨vs1, e1, _⟩, _⟩ := g1.own p _ (List.mem_of_getElem? h1)
    refine ⟨tyL (Evl.sq_of e1), h _ σ H1 ⟨G1, g1⟩ _ fun w H2 ⟨G2, g2⟩ => ?_⟩
    obtain ⟨_, ⟨vs, e2, e3⟩, _⟩ := g2.own p _ (List.mem_of_getElem? hk)
    refine ⟨p, vs, w, rfl, rfl, e2, Evl.sz_lt (by rw [e3.len]; exact hl), K _ _ ⟨G2, ?_⟩⟩
    exact (g2.pop.pop.write hk (c' := .lst (xs ++ [x])) ⟨_, upd_same, e3.append (Rps.one g2.topD)⟩)
  , fun _ _ z => z⟩
/-- l.pop() -/
theorem ev_pop {k : Nat} {p : Addr} (ha : Ev W ta s (.v (.ref p)) s1) (hk : s1.own[k]? = some (p, .lst (xs ++ [x]))) : Ev W (tBM0 W.K "list" rPop ta) s (.d x) ⟨s1.sl, s1.own.set k (p, .lst xs), s1.tmp⟩ := fun xt σ H g Q q =>
  ha xt σ H g _ fun v H1 ⟨G1, g1⟩ => by
    obtain rfl := Slot.vinv g1.top
    obtain ⟨_, ⟨vs, e1, e2⟩, _⟩ := g1.own p _ (List.mem_of_getElem? hk)
    have hl := e2.len
    obtain ⟨w, e3, e4⟩ := e2.get (i := xs.length) (d := x) (by simp)
    refine ⟨tyL (Evl.sq_of e1), p, vs, w, rfl, rfl, e1, by rw [hl]; simpa using e3, q _ _ ⟨G1, ?_⟩⟩
    have r := e2.dropLast
    rw [List.dropLast_concat] at r
    exact (g1.pop.write hk (c' := .lst xs) ⟨_, upd_same, r⟩).push ⟨w, rfl, e4⟩
/-- l.pop(i) -/
theorem ev_popAt {k j : Nat} {p : Addr} {i : Int} (ha : Ev W ta s (.v (.ref p)) s1) (h : Ev W te s1 (.d (.int i)) s2) (h1 : s1.own[k]? = some (p, .lst ys)) (hk : s2.own[k]? = some (p, .lst xs)) (hi : -1000000 ≤ i ∧ i ≤ 1000000)
    (hj : seqIndex? i xs.length = some j) (hx : xs[j]? = some x) : Ev W (tBM W.K "list" rPopAt ta (tCons te tNil)) s (.d x) ⟨s2.sl, s2.own.set k (p, .lst (xs.eraseIdx j)), s2.tmp⟩ := fun xt σ H g Q q =>
  ha xt σ H g _ fun v H1 ⟨G1, g1⟩ => by
    obtain rfl := Slot.vinv g1.top
    obtain ⟨_, ⟨vs1, e1, _⟩, _⟩ := g1.own p _ (List.mem_of_getElem? h1)
    refine ⟨tyL (Evl.sq_of e1), h _ σ H1 ⟨G1, g1⟩ _ fun w H2 ⟨G2, g2⟩ => ?_⟩
    obtain ⟨_, ⟨vs, e2, e3⟩, _⟩ := g2.own p _ (List.mem_of_getElem? hk)
    obtain ⟨w2, e4, e5⟩ := e3.get hx
    refine ⟨p, vs, i, j, w2, rfl, by rw [rp_int_inv g2.topD], e2, by omega, by omega, by rw [e3.len]; exact hj, e4, q _ _ ⟨G2, ?_⟩⟩
    exact (g2.pop.pop.write hk (c' := .lst (xs.eraseIdx j)) ⟨_, upd_same, e3.eraseIdx j⟩).push ⟨w2, rfl, e5⟩
/-- l.reverse() -/
theorem ev_reverse {k : Nat} {p : Addr} (ha : Ev W ta s (.v (.ref p)) s1) (hk : s1.own[k]? = some (p, .lst xs)) : Ev W (tBM0 W.K "list" rReverse ta) s (.d .non) ⟨s1.sl, s1.own.set k (p, .lst xs.reverse), s1.tmp⟩ := fun xt σ H g Q q =>
  ha xt σ H g _ fun v H1 ⟨G1, g1⟩ => by
    obtain rfl := Slot.vinv g1.top
    obtain ⟨_, ⟨vs, e1, e2⟩, _⟩ := g1.own p _ (List.mem_of_getElem? hk)
    refine ⟨tyL (Evl.sq_of e1), p, vs, rfl, rfl, e1, q _ _ ⟨G1, ?_⟩⟩
    exact (g1.pop.write hk (c' := .lst xs.reverse) ⟨_, upd_same, e2.reverse⟩).push ⟨_, rfl, rp_non⟩
/-- l[i] = e -/
theorem go_setL {k j : Nat} {p : Addr} {i : Int} (h : Ev W te s (.d x) s1) (ha : Ev W ta s1 (.v (.ref p)) s2) (hb : Ev W tb s2 (.d (.int i)) s3) (hk : s3.own[k]? = some (p, .lst xs)) (hj : ixN xs.length i = some j)
    (K : Go W ⟨s3.sl, s3.own.set k (p, .lst (xs.set j x)), s3.tmp⟩ u D₀) : Go W s (tCut (tAsg te (gSub ta tb rSetL)) u) D₀ := fun σ H g =>
  ⟨fun σ' H' => u D₀ σ' H', h [] σ H g _ fun v H1 g1 => ha _ σ H1 g1 _ fun w H2 g2 => hb _ σ H2 g2 _ fun z H3 ⟨G3, g3⟩ => by
    obtain rfl := Slot.vinv g3.second
    have hx := Slot.inv g3.pop.second
    obtain ⟨_, ⟨vs, e2, e3⟩, _⟩ := g3.own p _ (List.mem_of_getElem? hk)
    refine ⟨p, vs, i, j, rfl, rp_int_inv g3.topD, e2, by rw [e3.len]; exact hj, K _ _ ⟨G3, ?_⟩⟩
    exact g3.pop.pop.pop.write hk (c' := .lst (xs.set j x)) ⟨_, upd_same, e3.set hx j⟩
  , fun _ _ z => z⟩
/-! ### loops -/
/-- the end of a loop's turn, of the loop by break -/
abbrev TurnE (W : Wd) (D₀ : Ends) (s : S) (v : V) (r : Slot) (u : TS) : Ends :=
  { nx := NxP W ⟨s.sl, s.own, (v, r) :: s.tmp⟩, rt := D₀.rt, bk := fun σ H => u D₀ σ H, ct := NxP W ⟨s.sl, s.own, (v, r) :: s.tmp⟩ }
theorem SatG.pin {xt : Tmp} {σ : L2.St} {H G : Hp} {v : V} (g : SatG W s ((v, r) :: xt) σ H G) : SatG W ⟨s.sl, s.own, (v, r) :: s.tmp⟩ xt σ H G :=
  ⟨g.g0, g.gh, g.new, g.keep, g.stay, g.len, g.slot, fun t ht => g.tmps t (by
    rcases List.mem_append.mp ht with z | z
    · exact List.mem_append_left _ (List.mem_cons_of_mem _ z)
    · rcases List.mem_cons.mp z with z | z
      · rw [z]
        exact List.mem_append_left _ List.mem_cons_self
      · exact List.mem_append_right _ z), g.own, g.nd⟩
theorem SatG.unpin {σ : L2.St} {H G : Hp} {v : V} (g : SatG W ⟨s.sl, s.own, (v, r) :: s.tmp⟩ [] σ H G) : SatG W s [(v, r)] σ H G :=
  ⟨g.g0, g.gh, g.new, g.keep, g.stay, g.len, g.slot, fun t ht => g.tmps t (by simpa using ht), g.own, g.nd⟩
theorem for_core {j n : Nat} {I : Nat → S} {J : It} {v : V} {σ : L2.St} {H : Hp} (dd : Nat → D) (g0 : Sat W (I 0) [(v, r)] σ H)
    (hgo : ∀ i σ H G, i < n → SatG W (I i) [(v, r)] σ H G → J.go i H ∧ ∀ x H', J.yld i H x H' → H' = H ∧ Rp W.K G (dd i) x) (hst : ∀ σ H G, SatG W (I n) [(v, r)] σ H G → J.stop n H)
    (hb : ∀ i, i < n → Go W ⟨(I i).sl.set j (.d (dd i)), (I i).own, (v, r) :: (I i).tmp⟩ t (TurnE W D₀ (I (i + 1)) v r u)) (k : Go W (I n) u D₀) :
    ∃ W2 : Nat → Nat → L2.St → Hp → Prop, (∃ m, W2 0 m σ H) ∧ ∀ i m σ H, W2 i m σ H →
      (J.stop i H ∧ u D₀ σ H) ∨ (J.go i H ∧ ∃ N : L2.St → Hp → Prop, (∀ σ' H', N σ' H' → ∃ m', m' < m ∧ W2 (i + 1) m' σ' H') ∧ ∀ x H', J.yld i H x H' → gName j x σ H' fun σ2 H2 => t { D₀ with nx := N, ct := N, bk := fun σ H => u D₀ σ H } σ2 H2) := by
  refine ⟨fun i m σ H => m = n - i ∧ i ≤ n ∧ Sat W (I i) [(v, r)] σ H, ⟨n, by simp, Nat.zero_le _, g0⟩, ?_⟩
  rintro i m σ2 H2 ⟨rfl, hi, G2, g2⟩
  by_cases hlt : i < n
  · obtain ⟨h1, h2⟩ := hgo i σ2 H2 G2 hlt g2
    refine .inr ⟨h1, NxP W ⟨(I (i + 1)).sl, (I (i + 1)).own, (v, r) :: (I (i + 1)).tmp⟩, fun σ' H' q => ⟨n - (i + 1), by omega, rfl, hlt, ?_⟩, fun w H' hy => ?_⟩
    · obtain ⟨G', g'⟩ := q
      exact ⟨G', g'.unpin⟩
    · obtain ⟨rfl, hr⟩ := h2 w H' hy
      exact hb i hlt _ _ ⟨G2, (g2.pin).set ⟨w, rfl, hr⟩⟩
  · have e : i = n := by omega
    subst e
    exact .inl ⟨hst _ _ _ g2, k _ _ ⟨G2, g2.pop⟩⟩
theorem go_forL {j : Nat} (I : Nat → S) (h : Ev W ta s r s0) (h0 : Weak W s0 (I 0)) (hl : ∀ i, i ≤ ds.length → LstAt (I i) r ds)
    (hb : ∀ v (i : Nat) (x : D), ds[i]? = some x → Go W ⟨(I i).sl.set j (.d x), (I i).own, (v, r) :: (I i).tmp⟩ t (TurnE W D₀ (I (i + 1)) v r u))
    (k : Go W (I ds.length) u D₀) : Go W s (tCut (tFor (iList W.K ta) (gName j) t) u) D₀ := fun σ H gg => by
  refine ⟨fun σ' H' => u D₀ σ' H', ?_, fun _ _ z => z⟩
  refine h [] σ H gg _ fun v H1 g1 => ?_
  obtain ⟨G1, g1⟩ := h0 _ _ _ g1
  obtain ⟨p, vs0, rfl, e2, e3⟩ := (hl 0 (Nat.zero_le _)).at g1 g1.top
  refine ⟨p, rfl, ⟨vs0, e2⟩, ?_⟩
  refine for_core (J := Itl W.K p) (n := ds.length) (v := .ref p) (r := r) (fun i => ds.getD i .non) ⟨G1, g1⟩ (fun i σ H G hi g => ?_) (fun σ H G g => ?_) (fun i hi => ?_) k
  · obtain ⟨p', vs, e4, e5, e6⟩ := (hl i (Nat.le_of_lt hi)).at g g.top
    cases e4
    obtain ⟨w, e7, e8⟩ := e6.get (i := i) (d := ds.getD i .non) (by rw [List.getD_eq_getElem?_getD, List.getElem?_eq_getElem hi]; rfl)
    refine ⟨⟨vs, w, e5, e7⟩, fun x H' ⟨eH, hy⟩ => ⟨eH, ?_⟩⟩
    have e9 := hy vs e5
    rw [e7] at e9
    cases e9
    exact e8
  · obtain ⟨p', vs, e4, e5, e6⟩ := (hl _ (Nat.le_refl _)).at g g.top
    cases e4
    exact ⟨vs, e5, by rw [e6.len]; exact Nat.le_refl _⟩
  · exact hb (.ref p) i _ (by rw [List.getD_eq_getElem?_getD, List.getElem?_eq_getElem hi]; rfl)
theorem go_forT {j : Nat} (I : Nat → S) (h : Ev W ta s (.d (.tup ds)) s0) (h0 : Weak W s0 (I 0))
    (hb : ∀ v (i : Nat) (x : D), ds[i]? = some x → Go W ⟨(I i).sl.set j (.d x), (I i).own, (v, .d (.tup ds)) :: (I i).tmp⟩ t (TurnE W D₀ (I (i + 1)) v (.d (.tup ds)) u))
    (k : Go W (I ds.length) u D₀) : Go W s (tCut (tFor (iTup W.K ta) (gName j) t) u) D₀ := fun σ H gg => by
  refine ⟨fun σ' H' => u D₀ σ' H', ?_, fun _ _ z => z⟩
  refine h [] σ H gg _ fun v H1 g1 => ?_
  obtain ⟨G1, g1⟩ := h0 _ _ _ g1
  obtain ⟨p, vs0, rfl, e2, _, e3⟩ := Tup.at g1 g1.top
  refine ⟨p, rfl, ⟨vs0, e2⟩, ?_⟩
  refine for_core (J := Itt W.K p) (n := ds.length) (v := .ref p) (r := .d (.tup ds)) (fun i => ds.getD i .non) ⟨G1, g1⟩ (fun i σ H G hi g => ?_) (fun σ H G g => ?_) (fun i hi => ?_) k
  · obtain ⟨p', vs, e4, e5, _, e6⟩ := Tup.at g g.top
    cases e4
    obtain ⟨w, e7, e8⟩ := e6.get (i := i) (d := ds.getD i .non) (by rw [List.getD_eq_getElem?_getD, List.getElem?_eq_getElem hi]; rfl)
    refine ⟨⟨vs, w, e5, e7⟩, fun x H' ⟨eH, hy⟩ => ⟨eH, ?_⟩⟩
    have e9 := hy vs e5
    rw [e7] at e9
    cases e9
    exact e8
  · obtain ⟨p', vs, e4, e5, _, e6⟩ := Tup.at g g.top
    cases e4
    exact ⟨vs, e5, by rw [e6.len]; exact Nat.le_refl _⟩
  · exact hb (.ref p) i _ (by rw [List.getD_eq_getElem?_getD, List.getElem?_eq_getElem hi]; rfl)
theorem weak_pin {v : V} {σ : L2.St} {H : Hp} (h : Sat W s [] σ H) : Sat W s [(v, .any)] σ H := by
  obtain ⟨G, g⟩ := h
  exact ⟨G, g.push True.intro⟩
/-- over range(n) -/
theorem go_forR1 {j : Nat} {m : Int} (I : Nat → S) (h : EvA W tr s [.d (.int m)] s0) (hm : m ≤ 1000000000) (h0 : Weak W s0 (I 0))
    (hb : ∀ v (i : Nat), (i : Int) < m → Go W ⟨(I i).sl.set j (.d (.int i)), (I i).own, (v, .any) :: (I i).tmp⟩ t (TurnE W D₀ (I (i + 1)) v .any u))
    (k : Go W (I m.toNat) u D₀) (hm0 : -1000000000 ≤ m := by omega) : Go W s (tCut (tFor (iRng1 tr) (gName j) t) u) D₀ := fun σ H gg => by
  refine ⟨fun σ' H' => u D₀ σ' H', ?_, fun _ _ z => z⟩
  refine h [] σ H gg _ fun vs H1 hl ⟨G1, g1⟩ => ?_
  obtain ⟨v0, rfl⟩ : ∃ v0, vs = [v0] := by
    match vs, hl with
    | [v0], _ => exact ⟨v0, rfl⟩
  have ev : v0 = .int m := rp_int_inv (SatG.topD (xt := []) (by simpa using g1))
  subst ev
  refine ⟨m, rfl, by omega, by omega, ?_⟩
  refine for_core (J := Itr 0 m.toNat) (n := m.toNat) (v := .non) (r := .any) (fun i => .int i) (weak_pin (h0 [] _ _ ⟨G1, g1.pops⟩)) (fun i σ H G hi g => ⟨hi, fun x H' ⟨eH, ex⟩ => ⟨eH, ?_⟩⟩) (fun σ H G g => Nat.le_refl _) (fun i hi => hb _ i (by omega)) k
  rw [ex, Int.zero_add]
  exact rp_int
/-- over range(a, b) -/
theorem go_forR2 {j : Nat} {a m : Int} (I : Nat → S) (h : EvA W tr s [.d (.int a), .d (.int m)] s0) (hm : -1000000000 ≤ a ∧ a ≤ 1000000000 ∧ -1000000000 ≤ m ∧ m ≤ 1000000000) (h0 : Weak W s0 (I 0))
    (hb : ∀ v (i : Nat), a + (i : Int) < m → Go W ⟨(I i).sl.set j (.d (.int (a + i))), (I i).own, (v, .any) :: (I i).tmp⟩ t (TurnE W D₀ (I (i + 1)) v .any u))
    (k : Go W (I (m - a).toNat) u D₀) : Go W s (tCut (tFor (iRng2 tr) (gName j) t) u) D₀ := fun σ H gg => by
  refine ⟨fun σ' H' => u D₀ σ' H', ?_, fun _ _ z => z⟩
  refine h [] σ H gg _ fun vs H1 hl ⟨G1, g1⟩ => ?_
  obtain ⟨v0, v1, rfl⟩ : ∃ v0 v1, vs = [v0, v1] := by
    match vs, hl with
    | [v0, v1], _ => exact ⟨v0, v1, rfl⟩
  have e0 : v0 = .int a := rp_int_inv (Slot.inv (g1.tmps (v0, .d (.int a)) (by simp)))
  have e1 : v1 = .int m := rp_int_inv (Slot.inv (g1.tmps (v1, .d (.int m)) (by simp)))
  subst e0 e1
  refine ⟨a, m, rfl, ⟨by omega, by omega, by omega, by omega⟩, ?_⟩
  refine for_core (J := Itr a (m - a).toNat) (n := (m - a).toNat) (v := .non) (r := .any) (fun i => .int (a + i)) (weak_pin (h0 [] _ _ ⟨G1, g1.pops⟩)) (fun i σ H G hi g => ⟨hi, fun x H' ⟨eH, ex⟩ => ⟨eH, ?_⟩⟩) (fun σ H G g => Nat.le_refl _) (fun i hi => hb _ i (by omega)) k
  rw [ex]
  exact rp_int
/-- while: so many turns -/
theorem go_while (n : Nat) (I J : Nat → S) (h0 : Weak W s (I 0)) (ht : ∀ i, i < n → EvT W tt (I i) true (J i)) (he : EvT W tt (I n) false s1)
    (hb : ∀ i, i < n → Go W (J i) t { D₀ with nx := NxP W (I (i + 1)), ct := NxP W (I (i + 1)), bk := fun σ H => u D₀ σ H }) (k : Go W s1 u D₀) : Go W s (tCut (tWhile tt t) u) D₀ := fun σ H g => by
  refine ⟨fun σ' H' => u D₀ σ' H', ?_, fun _ _ z => z⟩
  refine ⟨fun m σ H => ∃ i, i ≤ n ∧ m = n - i ∧ Sat W (I i) [] σ H, ⟨n, 0, Nat.zero_le _, rfl, h0 _ _ _ g⟩, ?_⟩
  rintro m σ2 H2 ⟨i, hi, rfl, g2⟩
  by_cases hlt : i < n
  · refine ht i hlt [] σ2 H2 g2 _ fun H3 g3 => ?_
    exact ⟨NxP W (I (i + 1)), fun σ' H' q => ⟨n - (i + 1), by omega, i + 1, hlt, rfl, q⟩, hb i hlt _ _ g3⟩
  · have e : i = n := by omega
    subst e
    exact he [] σ2 H2 g2 _ fun H3 g3 => k _ _ g3
/-! ### comprehensions -/
theorem wipe_set {σ : L2.St} {j : Nat} {x : V} : wipe ((wipe σ [j]).set j (some x)) [j] = wipe σ [j] := by
  show ((σ.set j none).set j (some x)).set j none = σ.set j none
  rw [List.set_set, List.set_set]
theorem SatG.blk {xt : Tmp} {σ : L2.St} {H G : Hp} {j : Nat} {x : V} (g : SatG W s xt σ H G) (hr : r.ok W.K G (some x)) : SatG W ⟨s.sl.set j r, s.own, s.tmp⟩ xt ((wipe σ [j]).set j (some x)) H G := by
  show SatG W _ xt ((σ.set j none).set j (some x)) H G
  rw [List.set_set]
  exact g.set hr
theorem SatG.setOwn {xt : Tmp} {σ σ' : L2.St} {H G : Hp} {sl sl' : List Slot} {own : List (Addr × Cont)} {tmp : Tmp} (g : SatG W ⟨sl', own, tmp⟩ xt σ' H G) (hl : σ.length = sl.length) (hs : ∀ (i : Nat) (x : Slot), sl[i]? = some x → Slot.ok W.K G x (σ.getD i none)) : SatG W ⟨sl, own, tmp⟩ xt σ H G :=
  ⟨g.g0, g.gh, g.new, g.keep, g.stay, hl, hs, g.tmps, g.own, g.nd⟩
/-- the slots, kept by values: what the frame holds while a block runs -/
def slT (σ : L2.St) (sl : List Slot) : Tmp := (List.range sl.length).filterMap fun i => (σ.getD i none).bind fun v => (sl[i]?).map fun x => (v, x)
theorem slT_mem {σ : L2.St} {sl : List Slot} {i : Nat} {v : V} {x : Slot} (e1 : σ.getD i none = some v) (e2 : sl[i]? = some x) : (v, x) ∈ slT σ sl := by
  refine List.mem_filterMap.mpr ⟨i, List.mem_range.mpr (List.getElem?_eq_some_iff.mp e2).1, ?_⟩
  rw [e1, e2]
  rfl
theorem slT_ok {K : Frag} {G : Hp} {σ : L2.St} {sl : List Slot} (h : ∀ (i : Nat) (x : Slot), sl[i]? = some x → Slot.ok K G x (σ.getD i none)) : ∀ t, t ∈ slT σ sl → t.2.ok K G (some t.1) := fun t ht => by
  obtain ⟨i, hi, e⟩ := List.mem_filterMap.mp ht
  cases q : σ.getD i none with
  | none => rw [q] at e; cases e
  | some v =>
    cases q2 : sl[i]? with
    | none => rw [q, q2] at e; cases e
    | some x =>
      rw [q, q2] at e
      cases e
      have := h i x q2
      rw [q] at this
      exact this
theorem slT_back {K : Frag} {G G' : Hp} {σ : L2.St} {sl : List Slot} (h0 : ∀ (i : Nat) (x : Slot), sl[i]? = some x → Slot.ok K G x (σ.getD i none)) (h : ∀ t, t ∈ slT σ sl → t.2.ok K G' (some t.1)) (i : Nat) (x : Slot) (hx : sl[i]? = some x) : Slot.ok K G' x (σ.getD i none) := by
  cases q : σ.getD i none with
  | some v => exact h _ (slT_mem q hx)
  | none =>
    have h1 := h0 i x hx
    rw [q] at h1
    cases x with
    | any => exact True.intro
    | d _ => obtain ⟨_, e, _⟩ := h1; cases e
    | v _ => cases h1
/-- what a comprehension does, whatever it walks: own things change by I, the new list by A -/
theorem lc_core {j n : Nat} {te : TE} {J : It} {I : Nat → List (Addr × Cont)} {A : Nat → List D} {v : V} {xt : Tmp} {σ : L2.St} {H : Hp} {Q : VK} (dd : Nat → D) (f : Nat → Bool) (e : Nat → D) (g0 : Sat W ⟨s.sl, I 0, s.tmp⟩ ((v, r) :: xt) σ H) (hn : n ≤ 90000)
    (hgo : ∀ i σ H G xt, i < n → SatG W ⟨s.sl, I i, s.tmp⟩ ((v, r) :: xt) σ H G → J.go i H ∧ ∀ x H', J.yld i H x H' → H' = H ∧ Rp W.K G (dd i) x) (hst : ∀ σ H G xt, SatG W ⟨s.sl, I n, s.tmp⟩ ((v, r) :: xt) σ H G → J.stop n H)
    (hA0 : A 0 = []) (hA : ∀ i, A (i + 1) = if f i = true then A i ++ [e i] else A i)
    (ht : ∀ (p : Addr) (i : Nat), i < n → ∃ s1, EvT W tt ⟨s.sl.set j (.d (dd i)), I i ++ [(p, .lst (A i))], s.tmp⟩ (f i) s1 ∧ (f i = false → Weak W s1 ⟨s.sl.set j (.d (dd i)), I (i + 1) ++ [(p, .lst (A i))], s.tmp⟩) ∧
      (f i = true → ∃ s2, Ev W te s1 (.d (e i)) s2 ∧ Weak W s2 ⟨s.sl.set j (.d (dd i)), I (i + 1) ++ [(p, .lst (A i))], s.tmp⟩))
    (hI : ∀ i, (I (i + 1)).length = (I i).length)
    (q : ∀ p H', Sat W ⟨s.sl, I n ++ [(p, .lst (A n))], s.tmp⟩ ((.ref p, .v (.ref p)) :: xt) σ H' → Q (.ref p) H') (D : Addr) (hD : H D = none) :
    ∃ W2 : Nat → Nat → Hp → Prop, (∃ m, W2 0 m (upd H D (.lst []))) ∧ ∀ i m H, W2 i m H →
      (J.stop i H ∧ Q (.ref D) H) ∨ (J.go i H ∧ ∃ Nx : Hp → Prop, (∀ H', Nx H' → ∃ m', m' < m ∧ W2 (i + 1) m' H') ∧ ∀ x H', J.yld i H x H' → gName j x (wipe σ [j]) H' fun σ2 H2 => wipe σ2 [j] = wipe σ [j] ∧ tt σ2 H2 fun b H3 =>
        if b = true then te σ2 H3 fun y H4 => ∃ acc, H4 D = some (.lst acc) ∧ acc.length < sizeLine ∧ Nx (upd H4 D (.lst (acc ++ [y]))) else Nx H3) := by
  have lenA : ∀ i, (A i).length ≤ i := fun i => by
    induction i with
    | zero => rw [hA0]; exact Nat.le_refl _
    | succ i ih =>
      rw [hA]
      by_cases hf : f i = true
      · rw [if_pos hf, List.length_append]
        simp
        omega
      · rw [if_neg hf]
        omega
  refine ⟨fun i m H => m = n - i ∧ i ≤ n ∧ Sat W ⟨s.sl, I i ++ [(D, .lst (A i))], s.tmp⟩ ((v, r) :: (.ref D, .v (.ref D)) :: xt) σ H, ⟨n, by simp, Nat.zero_le _, ?_⟩, ?_⟩
  · obtain ⟨G, g⟩ := g0
    refine ⟨G, ?_⟩
    have g' := (g.mine (c := .lst (A 0)) (o := .lst []) hD ⟨[], upd_same, by rw [hA0]; exact Rps.nil⟩)
    exact g'.push (v := .ref D) (r := .v (.ref D)) rfl |>.sub fun t ht => by
      simp only [List.mem_cons, List.mem_append] at ht ⊢
      rcases ht with rfl | rfl | ht
      · exact .inl (.inr (.inl rfl))
      · exact .inl (.inl rfl)
      · exact .inl (.inr (.inr ht))
  · rintro i m H2 ⟨rfl, hi, G2, g2⟩
    by_cases hlt : i < n
    · have gI : SatG W ⟨s.sl, I i, s.tmp⟩ ((v, r) :: (.ref D, .v (.ref D)) :: xt) σ H2 G2 := ⟨g2.g0, g2.gh, g2.new, g2.keep, g2.stay, g2.len, g2.slot, g2.tmps, fun p c hp => g2.own p c (List.mem_append_left _ hp), by
        have nd := g2.nd
        rw [show (⟨s.sl, I i ++ [(D, Cont.lst (A i))], s.tmp⟩ : S).own = I i ++ [(D, Cont.lst (A i))] from rfl, List.map_append] at nd
        exact (List.nodup_append.mp nd).1⟩
      obtain ⟨h1, h2⟩ := hgo i σ H2 G2 _ hlt gI
      refine .inr ⟨h1, fun H' => Sat W ⟨s.sl, I (i + 1) ++ [(D, .lst (A (i + 1)))], s.tmp⟩ ((v, r) :: (.ref D, .v (.ref D)) :: xt) σ H', fun H' qq => ⟨n - (i + 1), by omega, rfl, hlt, qq⟩, fun w H' hy => ?_⟩
      obtain ⟨rfl, hr⟩ := h2 w H' hy
      refine ⟨wipe_set, ?_⟩
      obtain ⟨s1, t1, t2, t3⟩ := ht D i hlt
      -- the block's frame: the outer slots are kept as values
      have gB : SatG W ⟨s.sl.set j (.d (dd i)), I i ++ [(D, .lst (A i))], s.tmp⟩ (slT σ s.sl ++ ((v, r) :: (.ref D, .v (.ref D)) :: xt)) ((wipe σ [j]).set j (some w)) H' G2 := by
        have g3 := g2.blk (j := j) (x := w) (r := .d (dd i)) ⟨w, rfl, hr⟩
        refine ⟨g3.g0, g3.gh, g3.new, g3.keep, g3.stay, g3.len, g3.slot, fun t ht => ?_, g3.own, g3.nd⟩
        rw [List.append_assoc] at ht
        rcases List.mem_append.mp ht with z | z
        · exact slT_ok g2.slot t z
        · exact g3.tmps t z
      have back : ∀ {own : List (Addr × Cont)} {H3 : Hp} {sl3 : List Slot}, Sat W ⟨sl3, own, s.tmp⟩ (slT σ s.sl ++ ((v, r) :: (.ref D, .v (.ref D)) :: xt)) ((wipe σ [j]).set j (some w)) H3 → Sat W ⟨s.sl, own, s.tmp⟩ ((v, r) :: (.ref D, .v (.ref D)) :: xt) σ H3 := fun {own H3 sl3} ⟨G3, g3⟩ =>
        ⟨G3, SatG.setOwn g3.pops g2.len (slT_back g2.slot fun t ht => g3.tmps t (List.mem_append_left _ (List.mem_append_left _ ht)))⟩
      refine t1 _ _ _ ⟨G2, gB⟩ _ fun H3 g3 => ?_
      cases hf : f i with
      | false =>
        show Sat W _ _ σ H3
        rw [hA, if_neg (by rw [hf]; decide)]
        exact back (t2 hf _ _ _ g3)
      | true =>
        obtain ⟨s2, t4, t5⟩ := t3 hf
        show te _ H3 _
        refine t4 _ _ _ g3 _ fun y H4 g4 => ?_
        obtain ⟨G4, g4⟩ := t5 _ _ _ g4
        have hm : (I (i + 1) ++ [(D, Cont.lst (A i))])[(I (i + 1)).length]? = some (D, .lst (A i)) := by simp
        obtain ⟨_, ⟨acc, e1, e2⟩, _⟩ := g4.own D (.lst (A i)) (List.mem_of_getElem? hm)
        refine ⟨acc, e1, Evl.sz_lt (by rw [e2.len]; have := lenA i; omega), ?_⟩
        have g5 := g4.pop.write (k := (I (i + 1)).length) (c' := .lst (A i ++ [e i])) hm (o := .lst (acc ++ [y])) ⟨_, upd_same, e2.append (Rps.one g4.topD)⟩
        rw [hA, if_pos hf]
        refine back (sl3 := s.sl.set j (.d (dd i))) ⟨G4, ?_⟩
        have e3 : (I (i + 1) ++ [(D, Cont.lst (A i))]).set (I (i + 1)).length (D, .lst (A i ++ [e i])) = I (i + 1) ++ [(D, Cont.lst (A i ++ [e i]))] := by simp
        rw [show (⟨s.sl.set j (.d (dd i)), I (i + 1) ++ [(D, Cont.lst (A i))], s.tmp⟩ : S).own.set (I (i + 1)).length (D, .lst (A i ++ [e i])) = I (i + 1) ++ [(D, Cont.lst (A i ++ [e i]))] from e3] at g5
        exact g5
    · have e : i = n := by omega
      subst e
      have gI : SatG W ⟨s.sl, I i, s.tmp⟩ ((v, r) :: (.ref D, .v (.ref D)) :: xt) σ H2 G2 := ⟨g2.g0, g2.gh, g2.new, g2.keep, g2.stay, g2.len, g2.slot, g2.tmps, fun p c hp => g2.own p c (List.mem_append_left _ hp), by
        have nd := g2.nd
        rw [show (⟨s.sl, I i ++ [(D, Cont.lst (A i))], s.tmp⟩ : S).own = I i ++ [(D, Cont.lst (A i))] from rfl, List.map_append] at nd
        exact (List.nodup_append.mp nd).1⟩
      exact .inl ⟨hst _ _ _ _ gI, q D H2 ⟨G2, g2.pop⟩⟩
end
end Py

/-! ### comprehensions, slices, calls, errors -/
namespace Py
open PySem L2
open PySem.W (Frag)
open Evl (Ex tCut pss_cut)
section
variable {W : Wd} {s s0 s' s1 s2 s3 : S} {ta tb te tc : TE} {tr : TA} {r r1 r2 : Slot} {rs : List Slot} {x y : D} {xs ys ds : List D} {D₀ : Ends} {t u : TS} {b : Bool} {tt : TT} {j : Nat}
def accF {α : Type} (l : List α) (f : α → Bool) (e : α → D) (i : Nat) : List D := ((l.take i).filter f).map e
theorem accF_succ {α : Type} {l : List α} {f : α → Bool} {e : α → D} {i : Nat} {a : α} (h : l[i]? = some a) : accF l f e (i + 1) = if f a = true then accF l f e i ++ [e a] else accF l f e i := by
  unfold accF
  rw [List.take_add_one, h, List.filter_append, List.map_append]
  by_cases hf : f a = true
  · simp [hf]
  · simp [hf]
theorem accF_end {α : Type} {l : List α} {f : α → Bool} {e : α → D} : accF l f e l.length = (l.filter f).map e := by
  unfold accF
  rw [List.take_length]
/-- [e for x in l if f], nothing changed on the way -/
theorem evN_lcL {α : Type} {l : List α} {enc : α → D} (f : α → Bool) (e : α → D) (h : Ev W ta s r s0) (hl : LstAt s0 r (l.map enc)) (hn : l.length ≤ 90000)
    (ht : ∀ (p : Addr) (acc : List D) (a : α), a ∈ l → EvT W tt ⟨s0.sl.set j (.d (enc a)), s0.own ++ [(p, .lst acc)], s0.tmp⟩ (f a) ⟨s0.sl.set j (.d (enc a)), s0.own ++ [(p, .lst acc)], s0.tmp⟩)
    (he : ∀ (p : Addr) (acc : List D) (a : α), a ∈ l → f a = true → Ev W te ⟨s0.sl.set j (.d (enc a)), s0.own ++ [(p, .lst acc)], s0.tmp⟩ (.d (e a)) ⟨s0.sl.set j (.d (enc a)), s0.own ++ [(p, .lst acc)], s0.tmp⟩) :
    EvN W (tLc (iList W.K ta) (gName j) tt te [j]) s (.lst ((l.filter f).map e)) s0 := fun xt σ H g Q q =>
  h xt σ H g _ fun v H1 ⟨G1, g1⟩ => by
    obtain ⟨p, vs0, rfl, e2, e3⟩ := hl.at g1 g1.top
    refine ⟨p, rfl, ⟨vs0, e2⟩, fun Dl hD => ?_⟩
    match hq : l with
    | [] =>
      refine lc_core (s := s0) (J := Itl W.K p) (I := fun _ => s0.own) (A := accF ([] : List α) f e) (n := 0) (v := .ref p) (r := r) (xt := xt) (tt := tt) (te := te) (fun _ => .non) (fun _ => false) (fun _ => .non) ⟨G1, g1⟩ (by omega) (fun i σ H G xt hi g => absurd hi (by omega)) (fun σ H G xt g => ?_) rfl (fun i => by simp [accF]) (fun p i hi => absurd hi (by omega)) (fun _ => rfl) (fun p' H' g' => q p' H' (by simpa [accF] using g')) Dl hD
      obtain ⟨p', vs, e4, e5, e6⟩ := hl.at g g.top
      cases e4
      exact ⟨vs, e5, by rw [e6.len]; simp⟩
    | a0 :: l0 =>
      rw [← hq] at hl hn ht he q
      have hget : ∀ i, i < l.length → l[i]? = some (l.getD i a0) := fun i hi => by rw [List.getD_eq_getElem?_getD, List.getElem?_eq_getElem hi]; rfl
      have hmem : ∀ i, i < l.length → l.getD i a0 ∈ l := fun i hi => List.mem_of_getElem? (hget i hi)
      let f' : Nat → Bool := fun i => if i < l.length then f (l.getD i a0) else false
      refine lc_core (s := s0) (J := Itl W.K p) (I := fun _ => s0.own) (A := fun i => accF l f e (min i l.length)) (n := l.length) (v := .ref p) (r := r) (xt := xt) (tt := tt) (te := te) (fun i => enc (l.getD i a0)) f' (fun i => e (l.getD i a0)) ⟨G1, g1⟩ hn (fun i σ H G xt hi g => ?_) (fun σ H G xt g => ?_) (by simp [accF]) (fun i => ?_) (fun p i hi => ?_) (fun _ => rfl) (fun p' H' g' => q p' H' (by rw [Nat.min_self, accF_end] at g'; exact g')) Dl hD
      · obtain ⟨p', vs, e4, e5, e6⟩ := hl.at g g.top
        cases e4
        obtain ⟨w, e7, e8⟩ := e6.get (i := i) (d := enc (l.getD i a0)) (by rw [List.getElem?_map, hget i hi]; rfl)
        refine ⟨⟨vs, w, e5, e7⟩, fun x H' ⟨eH, hy⟩ => ⟨eH, ?_⟩⟩
        have e9 := hy vs e5
        rw [e7] at e9
        cases e9
        exact e8
      · obtain ⟨p', vs, e4, e5, e6⟩ := hl.at g g.top
        cases e4
        exact ⟨vs, e5, by rw [e6.len, List.length_map]; exact Nat.le_refl _⟩
      · by_cases hi : i < l.length
        · have e1 : min i l.length = i := by omega
          have e2 : min (i + 1) l.length = i + 1 := by omega
          show accF l f e (min (i + 1) l.length) = if (if i < l.length then f (l.getD i a0) else false) = true then accF l f e (min i l.length) ++ _ else accF l f e (min i l.length)
          rw [e1, e2, if_pos hi, accF_succ (hget i hi)]
        · have e1 : min i l.length = l.length := by omega
          have e2 : min (i + 1) l.length = l.length := by omega
          show accF l f e (min (i + 1) l.length) = if (if i < l.length then f (l.getD i a0) else false) = true then accF l f e (min i l.length) ++ _ else accF l f e (min i l.length)
          rw [e1, e2, if_neg hi, if_neg (by decide)]
      · have ef : f' i = f (l.getD i a0) := by
          show (if i < l.length then f (l.getD i a0) else false) = _
          rw [if_pos hi]
        rw [ef]
        exact ⟨_, ht p _ _ (hmem i hi), fun _ => Weak.refl, fun hf => ⟨_, he p _ _ (hmem i hi) hf, Weak.refl⟩⟩
theorem evN_lcT {α : Type} {l : List α} {enc : α → D} (f : α → Bool) (e : α → D) (h : Ev W ta s (.d (.tup (l.map enc))) s0) (hn : l.length ≤ 90000)
    (ht : ∀ (p : Addr) (acc : List D) (a : α), a ∈ l → EvT W tt ⟨s0.sl.set j (.d (enc a)), s0.own ++ [(p, .lst acc)], s0.tmp⟩ (f a) ⟨s0.sl.set j (.d (enc a)), s0.own ++ [(p, .lst acc)], s0.tmp⟩)
    (he : ∀ (p : Addr) (acc : List D) (a : α), a ∈ l → f a = true → Ev W te ⟨s0.sl.set j (.d (enc a)), s0.own ++ [(p, .lst acc)], s0.tmp⟩ (.d (e a)) ⟨s0.sl.set j (.d (enc a)), s0.own ++ [(p, .lst acc)], s0.tmp⟩) :
    EvN W (tLc (iTup W.K ta) (gName j) tt te [j]) s (.lst ((l.filter f).map e)) s0 := fun xt σ H g Q q =>
  h xt σ H g _ fun v H1 ⟨G1, g1⟩ => by
    obtain ⟨p, vs0, rfl, e2, _, e3⟩ := Tup.at g1 g1.top
    refine ⟨p, rfl, ⟨vs0, e2⟩, fun Dl hD => ?_⟩
    match hq : l with
    | [] =>
      refine lc_core (s := s0) (J := Itt W.K p) (I := fun _ => s0.own) (A := accF ([] : List α) f e) (n := 0) (v := .ref p) (r := .d (.tup (([] : List α).map enc))) (xt := xt) (tt := tt) (te := te) (fun _ => .non) (fun _ => false) (fun _ => .non) ⟨G1, g1⟩ (by omega) (fun i σ H G xt hi g => absurd hi (by omega)) (fun σ H G xt g => ?_) rfl (fun i => by simp [accF]) (fun p i hi => absurd hi (by omega)) (fun _ => rfl) (fun p' H' g' => q p' H' (by simpa [accF] using g')) Dl hD
      obtain ⟨p', vs, e4, e5, _, e6⟩ := Tup.at g g.top
      cases e4
      exact ⟨vs, e5, by rw [e6.len]; simp⟩
    | a0 :: l0 =>
      rw [← hq] at hn ht he q e3 g1
      have hget : ∀ i, i < l.length → l[i]? = some (l.getD i a0) := fun i hi => by rw [List.getD_eq_getElem?_getD, List.getElem?_eq_getElem hi]; rfl
      have hmem : ∀ i, i < l.length → l.getD i a0 ∈ l := fun i hi => List.mem_of_getElem? (hget i hi)
      let f' : Nat → Bool := fun i => if i < l.length then f (l.getD i a0) else false
      refine lc_core (s := s0) (J := Itt W.K p) (I := fun _ => s0.own) (A := fun i => accF l f e (min i l.length)) (n := l.length) (v := .ref p) (r := .d (.tup (l.map enc))) (xt := xt) (tt := tt) (te := te) (fun i => enc (l.getD i a0)) f' (fun i => e (l.getD i a0)) ⟨G1, g1⟩ hn (fun i σ H G xt hi g => ?_) (fun σ H G xt g => ?_) (by simp [accF]) (fun i => ?_) (fun p i hi => ?_) (fun _ => rfl) (fun p' H' g' => q p' H' (by rw [Nat.min_self, accF_end] at g'; exact g')) Dl hD
      · obtain ⟨p', vs, e4, e5, _, e6⟩ := Tup.at g g.top
        cases e4
        obtain ⟨w, e7, e8⟩ := e6.get (i := i) (d := enc (l.getD i a0)) (by rw [List.getElem?_map, hget i hi]; rfl)
        refine ⟨⟨vs, w, e5, e7⟩, fun x H' ⟨eH, hy⟩ => ⟨eH, ?_⟩⟩
        have e9 := hy vs e5
        rw [e7] at e9
        cases e9
        exact e8
      · obtain ⟨p', vs, e4, e5, _, e6⟩ := Tup.at g g.top
        cases e4
        exact ⟨vs, e5, by rw [e6.len, List.length_map]; exact Nat.le_refl _⟩
      · by_cases hi : i < l.length
        · have e1 : min i l.length = i := by omega
          have e2 : min (i + 1) l.length = i + 1 := by omega
          show accF l f e (min (i + 1) l.length) = if (if i < l.length then f (l.getD i a0) else false) = true then accF l f e (min i l.length) ++ _ else accF l f e (min i l.length)
          rw [e1, e2, if_pos hi, accF_succ (hget i hi)]
        · have e1 : min i l.length = l.length := by omega
          have e2 : min (i + 1) l.length = l.length := by omega
          show accF l f e (min (i + 1) l.length) = if (if i < l.length then f (l.getD i a0) else false) = true then accF l f e (min i l.length) ++ _ else accF l f e (min i l.length)
          rw [e1, e2, if_neg hi, if_neg (by decide)]
      · have ef : f' i = f (l.getD i a0) := by
          show (if i < l.length then f (l.getD i a0) else false) = _
          rw [if_pos hi]
        rw [ef]
        exact ⟨_, ht p _ _ (hmem i hi), fun _ => Weak.refl, fun hf => ⟨_, he p _ _ (hmem i hi) hf, Weak.refl⟩⟩
def accR (f : Nat → Bool) (e : Nat → D) (i : Nat) : List D := ((List.range i).filter f).map e
theorem accR_succ {f : Nat → Bool} {e : Nat → D} {i : Nat} : accR f e (i + 1) = if f i = true then accR f e i ++ [e i] else accR f e i := by
  unfold accR
  rw [List.range_succ, List.filter_append, List.map_append]
  by_cases hf : f i = true
  · simp [hf]
  · simp [hf]
/-- [e for x in range(a, b) if f], own things may change -/
theorem evN_lcRS {a m : Int} (I : Nat → List (Addr × Cont)) (f : Nat → Bool) (e : Nat → D) {tr : TA} {wi : TI} (hw : (wi = iRng1 tr ∧ a = 0 ∧ EvA W tr s [.d (.int m)] s0) ∨ (wi = iRng2 tr ∧ EvA W tr s [.d (.int a), .d (.int m)] s0)) (h0 : I 0 = s0.own) (hI : ∀ i, (I (i + 1)).length = (I i).length)
    (hm : -1000000000 ≤ a ∧ a ≤ 1000000000 ∧ -1000000000 ≤ m ∧ m - a ≤ 90000)
    (ht : ∀ (p : Addr) (acc : List D) (i : Nat), a + (i : Int) < m → ∃ s1, EvT W tt ⟨s0.sl.set j (.d (.int (a + i))), I i ++ [(p, .lst acc)], s0.tmp⟩ (f i) s1 ∧ (f i = false → Weak W s1 ⟨s0.sl.set j (.d (.int (a + i))), I (i + 1) ++ [(p, .lst acc)], s0.tmp⟩) ∧
      (f i = true → ∃ s2, Ev W te s1 (.d (e i)) s2 ∧ Weak W s2 ⟨s0.sl.set j (.d (.int (a + i))), I (i + 1) ++ [(p, .lst acc)], s0.tmp⟩)) :
    EvN W (tLc wi (gName j) tt te [j]) s (.lst (((List.range (m - a).toNat).filter f).map e)) ⟨s0.sl, I (m - a).toNat, s0.tmp⟩ := fun xt σ H g Q q => by
  have fin : ∀ {J : It} {H1 : Hp} (n : Nat), n = (m - a).toNat → J = Itr a n → Sat W s0 xt σ H1 → ∀ D, H1 D = none → ∃ W2 : Nat → Nat → Hp → Prop, (∃ m, W2 0 m (upd H1 D (.lst []))) ∧ ∀ i m H, W2 i m H →
      (J.stop i H ∧ Q (.ref D) H) ∨ (J.go i H ∧ ∃ Nx : Hp → Prop, (∀ H', Nx H' → ∃ m', m' < m ∧ W2 (i + 1) m' H') ∧ ∀ x H', J.yld i H x H' → gName j x (wipe σ [j]) H' fun σ2 H2 => wipe σ2 [j] = wipe σ [j] ∧ tt σ2 H2 fun b H3 =>
        if b = true then te σ2 H3 fun y H4 => ∃ acc, H4 D = some (.lst acc) ∧ acc.length < sizeLine ∧ Nx (upd H4 D (.lst (acc ++ [y]))) else Nx H3) := fun {J H1} n hn hJ ⟨G1, g1⟩ D hD => by
    subst hJ
    refine lc_core (s := s0) (J := Itr a n) (I := I) (A := accR f e) (n := n) (v := .non) (r := .any) (xt := xt) (tt := tt) (te := te) (fun i => .int (a + i)) f e ⟨G1, by rw [h0]; exact g1.push True.intro⟩ (by omega) (fun i σ H G xt hi g => ⟨hi, fun x H' ⟨eH, ex⟩ => ⟨eH, ?_⟩⟩) (fun σ H G xt g => Nat.le_refl _) rfl (fun i => accR_succ) (fun p i hi => ht p _ i (by omega)) hI (fun p' H' g' => ?_) D hD
    · rw [ex]
      exact rp_int
    · subst hn
      exact q p' H' g'
  rcases hw with ⟨rfl, rfl, h⟩ | ⟨rfl, h⟩
  · refine h xt σ H g _ fun vs H1 hl ⟨G1, g1⟩ => ?_
    obtain ⟨v0, rfl⟩ : ∃ v0, vs = [v0] := by
      match vs, hl with
      | [v0], _ => exact ⟨v0, rfl⟩
    have ev : v0 = .int m := rp_int_inv (Slot.inv (g1.tmps (v0, .d (.int m)) (by simp)))
    subst ev
    exact ⟨m, rfl, by omega, by omega, fin m.toNat (by simp) rfl ⟨G1, g1.pops⟩⟩
  · refine h xt σ H g _ fun vs H1 hl ⟨G1, g1⟩ => ?_
    obtain ⟨v0, v1, rfl⟩ : ∃ v0 v1, vs = [v0, v1] := by
      match vs, hl with
      | [v0, v1], _ => exact ⟨v0, v1, rfl⟩
    have e0 : v0 = .int a := rp_int_inv (Slot.inv (g1.tmps (v0, .d (.int a)) (by simp)))
    have e1 : v1 = .int m := rp_int_inv (Slot.inv (g1.tmps (v1, .d (.int m)) (by simp)))
    subst e0 e1
    exact ⟨a, m, rfl, ⟨by omega, by omega, by omega, by omega⟩, fin (m - a).toNat rfl rfl ⟨G1, g1.pops⟩⟩
/-- .. nothing changed -/
theorem evN_lcR {a m : Int} (f : Nat → Bool) (e : Nat → D) {tr : TA} {wi : TI} (hw : (wi = iRng1 tr ∧ a = 0 ∧ EvA W tr s [.d (.int m)] s0) ∨ (wi = iRng2 tr ∧ EvA W tr s [.d (.int a), .d (.int m)] s0))
    (hm : -1000000000 ≤ a ∧ a ≤ 1000000000 ∧ -1000000000 ≤ m ∧ m - a ≤ 90000)
    (ht : ∀ (p : Addr) (acc : List D) (i : Nat), a + (i : Int) < m → EvT W tt ⟨s0.sl.set j (.d (.int (a + i))), s0.own ++ [(p, .lst acc)], s0.tmp⟩ (f i) ⟨s0.sl.set j (.d (.int (a + i))), s0.own ++ [(p, .lst acc)], s0.tmp⟩)
    (he : ∀ (p : Addr) (acc : List D) (i : Nat), a + (i : Int) < m → f i = true → Ev W te ⟨s0.sl.set j (.d (.int (a + i))), s0.own ++ [(p, .lst acc)], s0.tmp⟩ (.d (e i)) ⟨s0.sl.set j (.d (.int (a + i))), s0.own ++ [(p, .lst acc)], s0.tmp⟩) :
    EvN W (tLc wi (gName j) tt te [j]) s (.lst (((List.range (m - a).toNat).filter f).map e)) s0 :=
  evN_lcRS (I := fun _ => s0.own) f e hw rfl (fun _ => rfl) hm fun p acc i hi => ⟨_, ht p acc i hi, fun _ => Weak.refl, fun hf => ⟨_, he p acc i hi hf, Weak.refl⟩⟩
/-! ### slices -/
def EvO (W : Wd) (to : TO) (s : S) (o : Option Int) (s' : S) : Prop := ∀ (xt : Tmp) σ H, Sat W s xt σ H → ∀ Q : Option Int → Hp → Prop, (∀ H', Sat W s' xt σ H' → Q o H') → to σ H Q
theorem eo_none : EvO W tNoPart s none s := fun xt σ H g Q q => q H g
theorem eo_some {i : Int} (h : Ev W te s (.d (.int i)) s') : EvO W (tPart te) s (some i) s' := fun xt σ H g Q q => h xt σ H g _ fun v H1 ⟨G, g1⟩ => ⟨i, rp_int_inv g1.topD, q H1 ⟨G, g1.pop⟩⟩
def cut {α : Type} (xs : List α) (lo hi : Option Int) : List α := (xs.drop (HT.sIx xs.length 0 lo)).take (HT.sIx xs.length xs.length hi - HT.sIx xs.length 0 lo)
theorem Rps.cut {K : Frag} {G : Hp} {vs : List V} {lo hi : Option Int} (h : Rps K G ds vs) : Rps K G (Py.cut ds lo hi) (cutV vs lo hi) := by
  unfold Py.cut L2.cutV
  rw [h.len]
  exact (h.drop _).take _
theorem evN_slL {tl th : TO} {lo hi : Option Int} (h : Ev W ta s r s1) (h1 : EvO W tl s1 lo s2) (h2 : EvO W th s2 hi s3) (hl : LstAt s3 r ds) : EvN W (tSl (rSlL W.K) ta tl th) s (.lst (cut ds lo hi)) s3 := fun xt σ H g Q q =>
  h xt σ H g _ fun v H1 g1 => h1 _ σ H1 g1 _ fun H2 g2 => h2 _ σ H2 g2 _ fun H3 ⟨G3, g3⟩ => by
    obtain ⟨p, vs, rfl, e2, e3⟩ := hl.at g3 g3.top
    exact ⟨p, vs, rfl, e2, fun l hl' => q l _ ⟨G3, (g3.pop.mine (c := .lst (cut ds lo hi)) hl' ⟨_, upd_same, e3.cut⟩).push rfl⟩⟩
/-! ### membership among plain things -/
def D.eqF (d e : D) : Bool := match d.flat, e.flat with
  | some u, some v => eqV u v
  | _, _ => false
theorem flat_flatV : ∀ {x : D} {u : V}, x.flat = some u → flatV u = true
  | .non, _, e => by cases e; rfl
  | .bl _, _, e => by cases e; rfl
  | .int _, _, e => by cases e; rfl
  | .str _, _, e => by cases e; rfl
  | .lst _, _, e => by cases e
  | .tup _, _, e => by cases e
  | .scr _, _, e => by cases e
  | .obj _ _, _, e => by cases e
  | .xd _, _, e => by cases e
theorem flats_of {K : Frag} {G : Hp} : ∀ {ds : List D} {vs us : List V}, Rps K G ds vs → ds.map D.flat = us.map some → vs = us
  | [], _, [], h, _ => by unfold Rps at h; exact h
  | [], _, _ :: _, _, e => by cases e
  | _ :: _, _, [], _, e => by cases e
  | d :: ds, vs, u :: us, h, e => by
    unfold Rps at h
    obtain ⟨v, r, rfl, h1, h2⟩ := h
    simp only [List.map_cons, List.cons.injEq] at e
    rw [flat_rp h1 e.1, flats_of h2 e.2]
theorem ints_flat (ns : List Int) : (ns.map D.int).map D.flat = (ns.map V.int).map some := by
  rw [List.map_map, List.map_map]
  rfl
theorem inV_ints {i : Int} {ns : List Int} : inV (.int i) (ns.map V.int) = decide (i ∈ ns) := by
  unfold inV
  rw [List.any_map]
  induction ns with
  | nil => rfl
  | cons n ns ih =>
    rw [List.any_cons, ih]
    have e : ((fun y => eqV y (V.int i)) ∘ V.int) n = decide (n = i) := rfl
    rw [e]
    by_cases h : n = i
    · subst h; simp
    · have h' : ¬ i = n := fun z => h z.symm
      simp [h, h']
theorem all_flat_ints {ns : List Int} : (ns.map V.int).all flatV = true := by
  rw [List.all_map]
  exact List.all_eq_true.mpr fun _ _ => rfl
theorem ev_inL {neg : Bool} {i : Int} {ns : List Int} (ha : Ev W ta s (.d (.int i)) s1) (hb : Ev W tb s1 r s2) (hl : LstAt s2 r ds) (e : ds = ns.map D.int) : Ev W (tOp (rIn W.K neg) ta tb) s (.d (.bl (if neg then !decide (i ∈ ns) else decide (i ∈ ns)))) s2 :=
  ev_two ha hb fun xt σ H G u v g Q q => by
    obtain ⟨p, vs, rfl, e2, e3⟩ := hl.at g g.top
    obtain rfl := rp_int_inv (Slot.inv g.second)
    rw [e3.ints_of e] at e2
    exact ⟨p, _, rfl, .inl e2, rfl, all_flat_ints, by rw [inV_ints]; exact finD q g.pop.pop rp_bl⟩
theorem ev_inT {neg : Bool} {i : Int} {ns : List Int} (ha : Ev W ta s (.d (.int i)) s1) (hb : Ev W tb s1 (.d (.tup ds)) s2) (e : ds = ns.map D.int) : Ev W (tOp (rIn W.K neg) ta tb) s (.d (.bl (if neg then !decide (i ∈ ns) else decide (i ∈ ns)))) s2 :=
  ev_two ha hb fun xt σ H G u v g Q q => by
    obtain ⟨p, vs, rfl, e2, _, e3⟩ := Tup.at g g.top
    obtain rfl := rp_int_inv (Slot.inv g.second)
    rw [e3.ints_of e] at e2
    exact ⟨p, _, rfl, .inr e2, rfl, all_flat_ints, by rw [inV_ints]; exact finD q g.pop.pop rp_bl⟩
/-! ### sums and order of ints -/
def ins (a : Int) : List Int → List Int
  | [] => [a]
  | b :: l => if a ≤ b then a :: b :: l else b :: ins a l
def srt : List Int → List Int
  | [] => []
  | a :: l => ins a (srt l)
theorem ins_perm (a : Int) : ∀ l, (ins a l).Perm (a :: l)
  | [] => .refl _
  | b :: l => by
    unfold ins
    split
    · exact .refl _
    · exact ((ins_perm a l).cons b).trans (List.Perm.swap a b l)
theorem srt_perm : ∀ l : List Int, (srt l).Perm l
  | [] => .refl _
  | a :: l => (ins_perm a (srt l)).trans ((srt_perm l).cons a)
theorem ins_sorted {a : Int} : ∀ {l : List Int}, l.Pairwise (· ≤ ·) → (ins a l).Pairwise (· ≤ ·)
  | [], _ => by simp [ins]
  | b :: l, h => by
    unfold ins
    split
    · rename_i hab
      refine List.pairwise_cons.mpr ⟨fun c hc => ?_, h⟩
      rcases List.mem_cons.mp hc with rfl | hc
      · exact hab
      · exact Int.le_trans hab ((List.pairwise_cons.mp h).1 c hc)
    · rename_i hab
      refine List.pairwise_cons.mpr ⟨fun c hc => ?_, ins_sorted (List.pairwise_cons.mp h).2⟩
      rcases List.mem_cons.mp ((ins_perm a l).mem_iff.mp hc) with rfl | hc
      · omega
      · exact (List.pairwise_cons.mp h).1 c hc
theorem srt_sorted : ∀ l : List Int, (srt l).Pairwise (· ≤ ·)
  | [] => List.Pairwise.nil
  | a :: l => ins_sorted (srt_sorted l)
theorem sorted_unique : ∀ {l m : List Int}, l.Perm m → l.Pairwise (· ≤ ·) → m.Pairwise (· ≤ ·) → l = m
  | [], m, p, _, _ => (List.nil_perm.mp p).symm
  | a :: l, [], p, _, _ => absurd p.length_eq (by simp)
  | a :: l, b :: m, p, h1, h2 => by
    have ha : a = b := by
      have m1 : a ∈ b :: m := p.mem_iff.mp List.mem_cons_self
      have m2 : b ∈ a :: l := p.mem_iff.mpr List.mem_cons_self
      rcases List.mem_cons.mp m1 with e | e
      · exact e
      · rcases List.mem_cons.mp m2 with e' | e'
        · exact e'.symm
        · have := (List.pairwise_cons.mp h1).1 b e'
          have := (List.pairwise_cons.mp h2).1 a e
          omega
    subst ha
    rw [sorted_unique (List.perm_cons a |>.mp p) (List.pairwise_cons.mp h1).2 (List.pairwise_cons.mp h2).2]
theorem evN_sorted {ns : List Int} (ha : Ev W ta s r s1) (hl : LstAt s1 r ds) (e : ds = ns.map D.int) : EvN W (tCB (rSortedI W.K) (tCons ta tNil)) s (.lst ((srt ns).map D.int)) s1 :=
  evN_cb1 ha fun xt σ H G u g Q q => by
    obtain ⟨p, vs, rfl, e2, e3⟩ := hl.at g g.top
    rw [e3.ints_of e] at e2
    refine ⟨p, ns, rfl, e2, fun ns' l hp hs hl' => ?_⟩
    have en : ns' = srt ns := sorted_unique (hp.trans (srt_perm ns).symm) hs (srt_sorted ns)
    subst en
    exact q l _ ⟨G, (g.pop.mine (c := .lst ((srt ns).map D.int)) hl' ⟨_, upd_same, Rps.ints⟩).push rfl⟩
end
end Py

/-! ### promises, calls, errors -/
namespace Py
open PySem L2
open PySem.W (Frag)
open Evl (Ex tCut pss_cut)
/-- the end of a call: what it hands back, what it left of what it was given to change -/
structure FinG (W : Wd) (r : Slot) (os : List (Addr × Cont)) (v : V) (H G : Hp) : Prop where
  g0 : Ex W.G0 G
  gh : Ex G H
  new : ∀ a o, G a = some o → W.G0 a = none → (W.H0 a = none ∨ a ∈ W.O) ∨ ∃ xs, o = HO.tup xs
  keep : ∀ a o, a ∉ W.O → W.H0 a = some o → H a = some o
  stay : ∀ a, H a = none → W.H0 a = none
  val : r.ok W.K G (some v)
  own : ∀ (p : Addr) (c : Cont), (p, c) ∈ os → G p = none ∧ c.ok W.K G H p
def Fin (W : Wd) (r : Slot) (os : List (Addr × Cont)) (v : V) (H : Hp) : Prop := ∃ G, FinG W r os v H G
/-- how a call ends: with a value, with an error of the class at C and these fields -/
inductive Res where
  | ret (r : Slot) (os : List (Addr × Cont))
  | retN (c : Cont) (os : List (Addr × Cont))
  | exc (C : Addr) (fs : List (Str × D)) (os : List (Addr × Cont))
/-- the end of a call that hands back a new object, to be changed further -/
def FinN (W : Wd) (c : Cont) (os : List (Addr × Cont)) (q : Addr) (H : Hp) : Prop := ∃ G, FinG W (.v (.ref q)) os (.ref q) H G ∧ G q = none ∧ c.ok W.K G H q ∧ W.H0 q = none
def PostR (W : Wd) (Q : VK) (E : XK) : Res → Prop
  | .ret r os => ∀ v H', Fin W r os v H' → Q v H'
  | .retN c os => ∀ q H', FinN W c os q H' → Q (.ref q) H'
  | .exc C fs os => ∀ d H', Fin W (.d (.xd fs)) os (.ref d) H' → E (.ref C) (some d) H'
structure ArgG (K : Frag) (G H : Hp) (rs : List Slot) (vs : List V) (os : List (Addr × Cont)) : Prop where
  gh : Ex G H
  len : vs.length = rs.length
  ok : ∀ t : V × Slot, t ∈ vs.zip rs → t.2.ok K G (some t.1)
  own : ∀ (p : Addr) (c : Cont), (p, c) ∈ os → G p = none ∧ c.ok K G H p
  nd : (os.map (·.1)).Nodup
/-- a promise: what is told of the arguments, what of the end -/
def Prm (K : Frag) (R : List Slot → List (Addr × Cont) → Res → Prop) : Sp := fun vs H Q E =>
  ∃ G rs os res, ArgG K G H rs vs os ∧ R rs os res ∧ PostR ⟨K, G, H, os.map (·.1)⟩ Q E res
section
variable {W : Wd} {s s0 s' s1 s2 s3 : S} {ta tb te tc : TE} {tr : TA} {r r1 r2 : Slot} {rs : List Slot} {x y : D} {xs ys ds : List D} {D₀ : Ends} {t u : TS} {b : Bool} {tt : TT} {j : Nat} {R : List Slot → List (Addr × Cont) → Res → Prop}
theorem Fin.sat {xt : Tmp} {σ : L2.St} {H G H' : Hp} {v : V} {os : List (Addr × Cont)} {own' : List (Addr × Cont)} (g : SatG W s xt σ H G) (oa : List Addr) (ho : ∀ a, a ∈ oa → ∃ c, (a, c) ∈ s.own) (f : Fin ⟨W.K, G, H, oa⟩ r os v H')
    (hos : ∀ a, a ∈ oa → ∃ c, (a, c) ∈ os) (hown : ∀ p c, (p, c) ∈ own' → (p, c) ∈ os ∨ ((p, c) ∈ s.own ∧ p ∉ oa)) (hos2 : ∀ p c, (p, c) ∈ os → p ∈ oa) (nd : (own'.map (·.1)).Nodup) : Sat W ⟨s.sl, own', s.tmp⟩ ((v, r) :: xt) σ H' := by
  obtain ⟨G', f⟩ := f
  have key : ∀ a, a ∈ oa → a ∈ W.O ∨ W.H0 a = none := fun a ha => by
    obtain ⟨c, hc⟩ := ho a ha
    exact (g.own a c hc).2.2
  refine ⟨G', g.g0.trans f.g0, f.gh, fun a o e e0 => ?_, fun a o ha e => ?_, fun a e => g.stay a (f.stay a e), g.len, fun i y hy => Slot.mono f.g0 (g.slot i y hy), fun z hz => ?_, fun p c hp => ?_, nd⟩
  · cases q : G a with
    | some o' =>
      have eo : o' = o := Option.some.inj ((f.g0 a o' q).symm.trans e)
      exact eo ▸ g.new a o' q e0
    | none =>
      rcases f.new a o e q with (z | z) | z
      · exact .inl (.inl (g.stay a z))
      · obtain ⟨c, hc⟩ := hos a z
        have := (f.own a c hc).1
        rw [this] at e
        cases e
      · exact .inr z
  · by_cases hoa : a ∈ oa
    · rcases key a hoa with z | z
      · exact absurd z ha
      · rw [z] at e
        cases e
    · exact f.keep a o hoa (g.keep a o ha e)
  · rcases List.mem_cons.mp hz with rfl | hz
    · exact f.val
    · exact Slot.mono f.g0 (g.tmps z hz)
  · rcases hown p c hp with z | ⟨z, hn⟩
    · obtain ⟨h1, h2⟩ := f.own p c z
      exact ⟨h1, h2, key p (hos2 p c z)⟩
    · obtain ⟨h1, h2, h3⟩ := g.own p c z
      obtain ⟨o, e⟩ := Cont.some h2
      have e' := f.keep p o hn e
      refine ⟨?_, Cont.mono f.g0 (e'.trans e.symm) h2, h3⟩
      cases q : G' p with
      | none => rfl
      | some o' =>
        rcases f.new p o' q h1 with (w | w) | ⟨xs, w⟩
        · have w' : H p = none := w
          rw [w'] at e
          cases e
        · exact absurd w hn
        · have e2 := f.gh p o' q
          rw [e', w] at e2
          exact (Cont.notup h2 (e.trans e2)).elim
theorem zip_mem {xt : Tmp} {vs : List V} {t : V × Slot} (h : t ∈ vs.zip rs) : t ∈ vs.zip rs ++ xt := List.mem_append_left _ h
/-- a call that changes nothing -/
theorem ev_call {E : XK} (h : EvA W tr s rs s1) (hR : R rs [] (.ret r [])) : Ev W (tCall (Prm W.K R) [] E tr) s r s1 := fun xt σ H g Q q =>
  h xt σ H g _ fun vs H1 hl ⟨G1, g1⟩ => by
    show Prm W.K R (vs ++ []) H1 Q E
    rw [List.append_nil]
    refine ⟨G1, rs, [], .ret r [], ⟨g1.gh, hl, fun t ht => g1.tmps t (List.mem_append_left _ (zip_mem ht)), fun _ _ z => (by cases z), List.nodup_nil⟩, hR, fun v H' f => ?_⟩
    exact q v H' (Fin.sat (own' := s1.own) g1.pops [] (fun _ z => by cases z) f (fun _ z => by cases z) (fun p c hp => .inr ⟨hp, by simp⟩) (fun _ _ z => by cases z) g1.nd)
/-- a call that hands back a new object of the caller's own -/
theorem evN_call {E : XK} {c : Cont} (h : EvA W tr s rs s1) (hR : R rs [] (.retN c [])) : EvN W (tCall (Prm W.K R) [] E tr) s c s1 := fun xt σ H g Q q =>
  h xt σ H g _ fun vs H1 hl ⟨G1, g1⟩ => by
    show Prm W.K R (vs ++ []) H1 Q E
    rw [List.append_nil]
    refine ⟨G1, rs, [], .retN c [], ⟨g1.gh, hl, fun t ht => g1.tmps t (List.mem_append_left _ (zip_mem ht)), fun _ _ z => (by cases z), List.nodup_nil⟩, hR, fun p H' ⟨G', f, f1, f2, f3⟩ => ?_⟩
    have f3' : H1 p = none := f3
    obtain ⟨o, e⟩ := Cont.some f2
    have hk : ∀ a o, H1 a = some o → H' a = some o := fun a o e => f.keep a o (by simp) e
    refine q p H' ⟨G', g1.g0.trans f.g0, f.gh, fun a o e e0 => ?_, fun a o ha e => hk a o (g1.keep a o ha e), fun a e => g1.stay a (f.stay a e), g1.len, fun i y hy => Slot.mono f.g0 (g1.slot i y hy), fun z hz => ?_, fun p' c' hp => ?_, ?_⟩
    · cases q : G1 a with
      | some o' =>
        have eo : o' = o := Option.some.inj ((f.g0 a o' q).symm.trans e)
        exact eo ▸ g1.new a o' q e0
      | none =>
        rcases f.new a o e q with (z | z) | z
        · exact .inl (.inl (g1.stay a z))
        · cases z
        · exact .inr z
    · rcases List.mem_cons.mp hz with rfl | hz
      · exact f.val
      · exact Slot.mono f.g0 (g1.pops.tmps z hz)
    · rcases List.mem_append.mp hp with z | z
      · obtain ⟨h1, h2, h3⟩ := g1.own p' c' z
        obtain ⟨o', e'⟩ := Cont.some h2
        refine ⟨?_, Cont.mono f.g0 ((hk p' o' e').trans e'.symm) h2, h3⟩
        cases q : G' p' with
        | none => rfl
        | some o'' =>
          rcases f.new p' o'' q h1 with (w | w) | ⟨xs, w⟩
          · have w' : H1 p' = none := w
            rw [w'] at e'
            cases e'
          · cases w
          · have e2 := f.gh p' o'' q
            rw [hk p' o' e', w] at e2
            exact (Cont.notup h2 (e'.trans e2)).elim
      · cases List.mem_singleton.mp z
        exact ⟨f1, f2, .inr (g1.stay _ f3')⟩
    · show ((s1.own ++ [(p, c)]).map (·.1)).Nodup
      rw [List.map_append, List.nodup_append]
      refine ⟨g1.nd, by simp, fun a ha b hb => ?_⟩
      obtain ⟨q', hq, eq⟩ := List.mem_map.mp ha
      obtain ⟨h1, h2, h3⟩ := g1.own q'.1 q'.2 hq
      obtain ⟨o', e'⟩ := Cont.some h2
      have eb : b = p := by simpa using hb
      rw [eb, ← eq]
      exact ne_of_none e' f3'
/-- a call that may change one thing -/
theorem ev_call1 {E : XK} {k : Nat} {p : Addr} {c c' : Cont} (h : EvA W tr s rs s1) (hk : s1.own[k]? = some (p, c)) (hR : R rs [(p, c)] (.ret r [(p, c')])) : Ev W (tCall (Prm W.K R) [] E tr) s r ⟨s1.sl, s1.own.set k (p, c'), s1.tmp⟩ := fun xt σ H g Q q =>
  h xt σ H g _ fun vs H1 hl ⟨G1, g1⟩ => by
    show Prm W.K R (vs ++ []) H1 Q E
    rw [List.append_nil]
    obtain ⟨o1, o2, o3⟩ := g1.own p c (List.mem_of_getElem? hk)
    refine ⟨G1, rs, [(p, c)], .ret r [(p, c')], ⟨g1.gh, hl, fun t ht => g1.tmps t (List.mem_append_left _ (zip_mem ht)), fun p' c'' z => ?_, by simp⟩, hR, fun v H' f => ?_⟩
    · cases List.mem_singleton.mp z
      exact ⟨o1, o2⟩
    · refine q v H' (Fin.sat (own' := s1.own.set k (p, c')) g1.pops [p] (fun a z => ⟨c, ?_⟩) f (fun a z => ⟨c', ?_⟩) (fun p' c'' hp => ?_) (fun p' c'' z => ?_) (by rw [set_fst hk]; exact g1.nd))
      · cases List.mem_singleton.mp z
        exact List.mem_of_getElem? hk
      · cases List.mem_singleton.mp z
        exact List.mem_singleton.mpr rfl
      · rcases mem_set g1.nd hk hp with ⟨rfl, rfl⟩ | ⟨hne, hm⟩
        · exact .inl (List.mem_singleton.mpr rfl)
        · exact .inr ⟨hm, fun z => hne (List.mem_singleton.mp z)⟩
      · cases List.mem_singleton.mp z
        exact List.mem_singleton.mpr rfl
/-- the same among a try's calls, a raising def's calls -/
theorem ev_callS {E : L2.St → XK} (h : EvA W tr s rs s1) (hR : R rs [] (.ret r [])) : Ev W (tCallS (Prm W.K R) E tr) s r s1 := fun xt σ H g Q q =>
  h xt σ H g _ fun vs H1 hl ⟨G1, g1⟩ => by
    show Prm W.K R vs H1 Q (E σ)
    refine ⟨G1, rs, [], .ret r [], ⟨g1.gh, hl, fun t ht => g1.tmps t (List.mem_append_left _ (zip_mem ht)), fun _ _ z => (by cases z), List.nodup_nil⟩, hR, fun v H' f => ?_⟩
    exact q v H' (Fin.sat (own' := s1.own) g1.pops [] (fun _ z => by cases z) f (fun _ z => by cases z) (fun p c hp => .inr ⟨hp, by simp⟩) (fun _ _ z => by cases z) g1.nd)
/-- an expression that ends in an error: its class, its fields, the state then; X what is wished of it -/
def EvX (W : Wd) (te : TE) (X : WX) (s : S) (C : Addr) (fs : List (Str × D)) (s' : S) : Prop := ∀ (xt : Tmp) σ H, Sat W s xt σ H → (∀ d H', Sat W s' ((.ref d, .d (.xd fs)) :: xt) σ H' → X (.ref C) (some d) σ H') → ∀ Q : VK, te σ H Q
theorem ex_callS {X : WX} {C : Addr} {fs : List (Str × D)} (h : EvA W tr s rs s1) (hR : R rs [] (.exc C fs [])) : EvX W (tCallS (Prm W.K R) (WE X) tr) X s C fs s1 := fun xt σ H g k Q =>
  h xt σ H g _ fun vs H1 hl ⟨G1, g1⟩ => by
    show Prm W.K R vs H1 Q (WE X σ)
    refine ⟨G1, rs, [], .exc C fs [], ⟨g1.gh, hl, fun t ht => g1.tmps t (List.mem_append_left _ (zip_mem ht)), fun _ _ z => (by cases z), List.nodup_nil⟩, hR, fun d H' f => ?_⟩
    exact k d H' (Fin.sat (own' := s1.own) g1.pops [] (fun _ z => by cases z) f (fun _ z => by cases z) (fun p c hp => .inr ⟨hp, by simp⟩) (fun _ _ z => by cases z) g1.nd)
/-- what is wished of an error that comes in the state s -/
def XOk (W : Wd) (X : WX) (C : Addr) (fs : List (Str × D)) (s : S) : Prop := ∀ d σ H, Sat W s [(.ref d, .d (.xd fs))] σ H → X (.ref C) (some d) σ H
theorem go_dropX {X : WX} {C : Addr} {fs : List (Str × D)} (h : EvX W te X s C fs s') (k : XOk W X C fs s') : Go W s (tCut (tDrop te) u) D₀ := fun σ H g => ⟨fun _ _ => False, h [] σ H g (fun d H' g' => k d σ H' g') _, fun _ _ z => z.elim⟩
theorem go_setX {i : Nat} {X : WX} {C : Addr} {fs : List (Str × D)} (h : EvX W te X s C fs s') (k : XOk W X C fs s') : Go W s (tCut (tAsg te (gName i)) u) D₀ := fun σ H g => ⟨fun _ _ => False, h [] σ H g (fun d H' g' => k d σ H' g') _, fun _ _ z => z.elim⟩
/-! ### an error's making -/
def spI (f : Str) (K : Frag) : Sp := fun vs H Q E => ∃ (a C : Addr) (v : V), vs = [.ref a, v] ∧ H a = some (exo a C none) ∧ OexC K C ∧ PySem.W.findIn K (.ref C) f = some none ∧
  ∀ dx, H dx = none → dx ≠ a → Q .non (upd (upd H dx (exd dx [(f, v)])) a (exo a C (some dx)))
theorem go_raise {X : WX} {C : Addr} {f : Str} (T : OexC W.K C) (hno : PySem.W.findIn W.K (.ref C) f = some none) (h : Ev W te s (.d x) s') (k : XOk W X C [(f, x)] s') :
    Go W s (tCut (fun _ σ H => tMkO C (spI f W.K) [] (tCons te tNil) σ H fun cls d H' => X cls d σ H') u) D₀ := fun σ H g => by
  refine ⟨fun _ _ => False, ?_, fun _ _ z => z.elim⟩
  refine h [] σ H g _ fun v H1 ⟨G1, g1⟩ => ?_
  refine ⟨by simp, fun a ha => ⟨a, C, v, rfl, upd_same, T, hno, fun dx hdx hne => ⟨rfl, dx, [(f, v)], upd_same, ?_, ?_, ?_⟩⟩⟩
  · rw [upd_ne hne, upd_same]
  · rw [upd_ne hne] at hdx
    exact hdx
  · rw [upd_ne hne] at hdx
    have e : upd (del (upd (upd (upd H1 a (exo a C none)) dx (exd dx [(f, v)])) a (exo a C (some dx))) a) dx (.xd [(f, v)]) = upd H1 dx (.xd [(f, v)]) := by
      funext b
      by_cases hb : b = dx
      · subst hb
        rw [upd_same, upd_same]
      · rw [upd_ne hb, upd_ne hb]
        by_cases hba : b = a
        · subst hba
          rw [del_same, ha]
        · rw [del_ne hba, upd_ne hba, upd_ne hb, upd_ne hba]
    rw [e]
    refine k dx σ _ ⟨upd G1 dx (.xd [(f, v)]), ?_⟩
    exact (g1.pop.laid (o := .xd [(f, v)]) hdx).push ⟨_, rfl, rp_xd upd_same (rpf_one ((g1.topD).mono (Ex.new (g1.gnone hdx))))⟩
/-- an error without fields -/
theorem go_raise0 {X : WX} {C : Addr} (k : ∀ σ H, Sat W s [] σ H → X (.ref C) none σ H) : Go W s (tCut (fun _ σ H => (fun (_ : L2.St) H (Q : XK) => Q (.ref C) none H) σ H fun cls d H' => X cls d σ H') u) D₀ := fun σ H g =>
  ⟨fun _ _ => False, k σ H g, fun _ _ z => z.elim⟩
/-! ### a def's start and end -/
theorem prm_len {K : Frag} {n : Nat} (h : ∀ rs os res, R rs os res → rs.length = n) : ∀ vs H Q E, Prm K R vs H Q E → vs.length = n := fun vs H Q E ⟨G, rs, os, res, a, hr, _⟩ => by rw [a.len]; exact h _ _ _ hr
theorem getD_start {N : List Str} {vs : List V} {i : Nat} : (L2.start N vs).getD i none = vs[i]? := by
  unfold L2.start
  rw [List.getD_eq_getElem?_getD]
  by_cases h : i < vs.length
  · rw [List.getElem?_append_left (by simpa using h), List.getElem?_map, List.getElem?_eq_getElem h]
    rfl
  · rw [List.getElem?_append_right (by simp; omega), List.getElem?_replicate, List.getElem?_eq_none (by omega)]
    split <;> rfl
theorem prm_open {K : Frag} {vs : List V} {H : Hp} {Q : VK} {E : XK} {N : List Str} (h : Prm K R vs H Q E) :
    ∃ G rs os res, R rs os res ∧ PostR ⟨K, G, H, os.map (·.1)⟩ Q E res ∧ (rs.length ≤ N.length → Sat ⟨K, G, H, os.map (·.1)⟩ ⟨rs ++ List.replicate (N.length - rs.length) .any, os, []⟩ [] (L2.start N vs) H) := by
  obtain ⟨G, rs, os, res, a, hR, hP⟩ := h
  refine ⟨G, rs, os, res, hR, hP, fun hn => ⟨G, Ex.refl G, a.gh, fun b o e e0 => ?_, fun b o _ e => e, fun b e => e, ?_, fun i y hy => ?_, fun t ht => ?_, fun p c hp => ?_, a.nd⟩⟩
  · have e0' : G b = none := e0
    rw [e] at e0'
    cases e0'
  · unfold L2.start
    have := a.len
    simp
    omega
  · rw [getD_start]
    by_cases hi : i < rs.length
    · have hy' : rs[i]? = some y := by
        rw [← hy]
        exact (List.getElem?_append_left hi).symm
      obtain ⟨v, hv⟩ : ∃ v, vs[i]? = some v := ⟨vs[i]'(by rw [a.len]; exact hi), List.getElem?_eq_getElem _⟩
      rw [hv]
      refine a.ok (v, y) (List.mem_of_getElem? (i := i) ?_)
      rw [List.getElem?_zip_eq_some]
      exact ⟨hv, hy'⟩
    · have hy' : (List.replicate (N.length - rs.length) Slot.any)[i - rs.length]? = some y := by
        rw [← hy]
        exact (List.getElem?_append_right (by omega)).symm
      rw [List.getElem?_replicate] at hy'
      split at hy'
      · cases hy'
        exact True.intro
      · cases hy'
  · simp at ht
  · obtain ⟨h1, h2⟩ := a.own p c hp
    exact ⟨h1, h2, .inl (List.mem_map.mpr ⟨_, hp, rfl⟩)⟩
theorem Sat.fin {σ : L2.St} {H : Hp} {v : V} {os : List (Addr × Cont)} (g : Sat W s [(v, r)] σ H) (ho : ∀ q, q ∈ os → q ∈ s.own) : Fin W r os v H := by
  obtain ⟨G, g⟩ := g
  exact ⟨G, g.g0, g.gh, g.new, g.keep, g.stay, g.top, fun p c hp => ⟨(g.own p c (ho _ hp)).1, (g.own p c (ho _ hp)).2.1⟩⟩
theorem ret_of {Q : VK} {E : XK} {os : List (Addr × Cont)} (k : PostR W Q E (.ret r os)) (ho : ∀ q, q ∈ os → q ∈ s.own) (e : D₀.rt = Q) : RetOk W D₀ r s := fun v σ H g => by
  rw [e]
  exact k v H (g.fin ho)
theorem retN_of {Q : VK} {E : XK} {os : List (Addr × Cont)} {q : Addr} {c : Cont} (k : PostR W Q E (.retN c os)) (hq : (q, c) ∈ s.own) (hO : q ∉ W.O) (ho : ∀ q, q ∈ os → q ∈ s.own) (e : D₀.rt = Q) : RetOk W D₀ (.v (.ref q)) s := fun v σ H g => by
  rw [e]
  obtain ⟨G, g⟩ := g
  obtain rfl := Slot.vinv g.top
  obtain ⟨h1, h2, h3⟩ := g.own q c hq
  exact k q H ⟨G, ⟨g.g0, g.gh, g.new, g.keep, g.stay, g.top, fun p c hp => ⟨(g.own p c (ho _ hp)).1, (g.own p c (ho _ hp)).2.1⟩⟩, h1, h2, h3.resolve_left hO⟩
theorem exc_of {Q : VK} {E : XK} {C : Addr} {fs : List (Str × D)} {os : List (Addr × Cont)} (k : PostR W Q E (.exc C fs os)) (ho : ∀ q, q ∈ os → q ∈ s.own) : XOk W (fun cls d _ H => E cls d H) C fs s := fun d σ H g => k d H (g.fin ho)
end
end Py

/-! ### what the top has left; a def that keeps its promise, ready to be called -/
namespace Py
open PySem L2
open PySem.W (Frag)
open Evl (Ex tCut pss_cut)
structure Top (fa : List He.Fa) (fn : List He5.DefA) (ex : List (Frag → Bool)) (K : Frag) (mg : Str → Option Value) : Prop where
  glo : ∀ (i : Nat) (x : Str), fa[i]? = some (.glo x) → mg x = some (.ref (He.ga K x))
  free : ∀ (i : Nat) (x : Str), fa[i]? = some (.free x) → mg x = none
  fn : ∀ (i : Nat) (d : He5.DefA), fn[i]? = some d → ∃ fd, FunD K d.name d.qual d.params d.body d.scope (d.dvs K) (d.kws K) (d.at_ K) fd
  ex : ∀ (i : Nat) (f : Frag → Bool), ex[i]? = some f → f K = true
theorem top_of {fa : List He.Fa} {fn : List He5.DefA} {ex : List (Frag → Bool)} {K : Frag} {h : Heap} {mg : Str → Option Value} (X : K.In h) (G : h.Ns mainGlobals mg) (c : SaysL fa fn ex K) : Top fa fn ex K mg :=
  ⟨fun i x e => He.glo_ok X G (c.a.fact i e), fun i x e => He.free_ok X G (c.a.fact i e), fun i d e => c.a.def_ i e, fun i f e => c.ex i e⟩
structure Cal (P : Program) (w : World) (K : Frag) (mg : Str → Option Value) (base : Heap) (CX : CXT) (k : Nat) (x : Str) (ps : List Str) (sp : Sp) (f : Addr) (fd : FuncData) : Prop where
  ok : FnOk P w K mg base CX k f fd ps sp
  mg : mg x = some (.ref f)
  kp : PySem.W.keepIn K (.ref f) = true
  bd : Binds K fd ps []
/-- an __init__ of an error -/
structure CalI (P : Program) (w : World) (K : Frag) (mg : Str → Option Value) (base : Heap) (k : Nat) (ps : List Str) (sp : Sp) (f : Addr) (fd : FuncData) : Prop where
  ok : FnOk P w K mg base CX0 k f fd ps sp
  bd : Binds K fd ps []
section
variable {W : Wd} {s s0 s' s1 s2 s3 : S} {r : Slot} {t u : TS} {D₀ : Ends} {sl sl' : List Slot} {own own' : List (Addr × Cont)} {tmp : Tmp} {xs : List D}
theorem weak_frz {k : Nat} {p : Addr} (hk : own[k]? = some (p, .lst xs)) (h : SlF p (.lst xs) sl sl') (e : own' = own.eraseIdx k := by rfl) : Weak W ⟨sl, own, tmp⟩ ⟨sl', own', tmp⟩ := by
  rintro xt σ H ⟨G, g⟩
  subst e
  obtain ⟨vs, h1, h2, _, g2⟩ := g.freeze hk
  refine ⟨_, g2.g0, g2.gh, g2.new, g2.keep, g2.stay, by rw [g2.len]; exact h.len, fun i y hy => ?_, g2.tmps, g2.own, g2.nd⟩
  rcases h.get hy with z | ⟨z, rfl⟩
  · exact g2.slot i y z
  · have q := g2.slot i _ z
    exact ⟨_, q, rp_lst upd_same h2⟩
theorem start_go {σ : L2.St} {H : Hp} {N : List Str} {rs : List Slot} {os : List (Addr × Cont)} (hS : rs.length ≤ N.length → Sat W ⟨rs ++ List.replicate (N.length - rs.length) .any, os, []⟩ [] σ H) (hn : rs.length ≤ N.length) (h : Go W ⟨rs ++ List.replicate (N.length - rs.length) .any, os, []⟩ t D₀) : t D₀ σ H := h σ H (hS hn)
end
theorem weak_eq {W : Wd} {s s' : S} (e : s = s') : Weak W s s' := e ▸ Weak.refl
theorem atI_nat' {α : Type} {xs : List α} {i : Nat} : L2.atI xs (i : Int) = xs[i]? := by
  unfold L2.atI ixN
  rw [if_pos (by omega)]
  by_cases h : (i : Int) < xs.length
  · rw [if_pos h]
    simp
  · rw [if_neg h, List.getElem?_eq_none (by omega)]
    rfl
/-! ### displays, by their size -/
theorem evN_l0 {W : Wd} {s : S}  : EvN W (tLst tNil) s (.lst []) s := evN_lst (ds := []) ea_nil (by show 0 ≤ 100000; decide)
theorem ev_l0 {W : Wd} {s : S}  : Ev W (tLst tNil) s (.d (.lst [])) s := ev_frz (evN_l0 )
theorem ev_t0 {W : Wd} {s : S}  : Ev W (tTup tNil) s (.d (.tup [])) s := ev_tup (ds := []) ea_nil (by show 0 ≤ 100000; decide)
theorem evN_l1 {W : Wd} {s s1 : S} {t0 : TE} {x0 : D} (h0 : Ev W t0 s (.d x0) s1) : EvN W (tLst (tCons t0 tNil)) s (.lst [x0]) s1 := evN_lst (ds := [x0]) (ea_cons h0 ea_nil) (by show 1 ≤ 100000; decide)
theorem ev_l1 {W : Wd} {s s1 : S} {t0 : TE} {x0 : D} (h0 : Ev W t0 s (.d x0) s1) : Ev W (tLst (tCons t0 tNil)) s (.d (.lst [x0])) s1 := ev_frz (evN_l1 h0)
theorem ev_t1 {W : Wd} {s s1 : S} {t0 : TE} {x0 : D} (h0 : Ev W t0 s (.d x0) s1) : Ev W (tTup (tCons t0 tNil)) s (.d (.tup [x0])) s1 := ev_tup (ds := [x0]) (ea_cons h0 ea_nil) (by show 1 ≤ 100000; decide)
theorem evN_l2 {W : Wd} {s s1 s2 : S} {t0 t1 : TE} {x0 x1 : D} (h0 : Ev W t0 s (.d x0) s1) (h1 : Ev W t1 s1 (.d x1) s2) : EvN W (tLst (tCons t0 (tCons t1 tNil))) s (.lst [x0, x1]) s2 := evN_lst (ds := [x0, x1]) (ea_cons h0 (ea_cons h1 ea_nil)) (by show 2 ≤ 100000; decide)
theorem ev_l2 {W : Wd} {s s1 s2 : S} {t0 t1 : TE} {x0 x1 : D} (h0 : Ev W t0 s (.d x0) s1) (h1 : Ev W t1 s1 (.d x1) s2) : Ev W (tLst (tCons t0 (tCons t1 tNil))) s (.d (.lst [x0, x1])) s2 := ev_frz (evN_l2 h0 h1)
theorem ev_t2 {W : Wd} {s s1 s2 : S} {t0 t1 : TE} {x0 x1 : D} (h0 : Ev W t0 s (.d x0) s1) (h1 : Ev W t1 s1 (.d x1) s2) : Ev W (tTup (tCons t0 (tCons t1 tNil))) s (.d (.tup [x0, x1])) s2 := ev_tup (ds := [x0, x1]) (ea_cons h0 (ea_cons h1 ea_nil)) (by show 2 ≤ 100000; decide)
theorem evN_l3 {W : Wd} {s s1 s2 s3 : S} {t0 t1 t2 : TE} {x0 x1 x2 : D} (h0 : Ev W t0 s (.d x0) s1) (h1 : Ev W t1 s1 (.d x1) s2) (h2 : Ev W t2 s2 (.d x2) s3) : EvN W (tLst (tCons t0 (tCons t1 (tCons t2 tNil)))) s (.lst [x0, x1, x2]) s3 := evN_lst (ds := [x0, x1, x2]) (ea_cons h0 (ea_cons h1 (ea_cons h2 ea_nil))) (by show 3 ≤ 100000; decide)
theorem ev_l3 {W : Wd} {s s1 s2 s3 : S} {t0 t1 t2 : TE} {x0 x1 x2 : D} (h0 : Ev W t0 s (.d x0) s1) (h1 : Ev W t1 s1 (.d x1) s2) (h2 : Ev W t2 s2 (.d x2) s3) : Ev W (tLst (tCons t0 (tCons t1 (tCons t2 tNil)))) s (.d (.lst [x0, x1, x2])) s3 := ev_frz (evN_l3 h0 h1 h2)
theorem ev_t3 {W : Wd} {s s1 s2 s3 : S} {t0 t1 t2 : TE} {x0 x1 x2 : D} (h0 : Ev W t0 s (.d x0) s1) (h1 : Ev W t1 s1 (.d x1) s2) (h2 : Ev W t2 s2 (.d x2) s3) : Ev W (tTup (tCons t0 (tCons t1 (tCons t2 tNil)))) s (.d (.tup [x0, x1, x2])) s3 := ev_tup (ds := [x0, x1, x2]) (ea_cons h0 (ea_cons h1 (ea_cons h2 ea_nil))) (by show 3 ≤ 100000; decide)
theorem evN_l4 {W : Wd} {s s1 s2 s3 s4 : S} {t0 t1 t2 t3 : TE} {x0 x1 x2 x3 : D} (h0 : Ev W t0 s (.d x0) s1) (h1 : Ev W t1 s1 (.d x1) s2) (h2 : Ev W t2 s2 (.d x2) s3) (h3 : Ev W t3 s3 (.d x3) s4) : EvN W (tLst (tCons t0 (tCons t1 (tCons t2 (tCons t3 tNil))))) s (.lst [x0, x1, x2, x3]) s4 := evN_lst (ds := [x0, x1, x2, x3]) (ea_cons h0 (ea_cons h1 (ea_cons h2 (ea_cons h3 ea_nil)))) (by show 4 ≤ 100000; decide)
theorem ev_l4 {W : Wd} {s s1 s2 s3 s4 : S} {t0 t1 t2 t3 : TE} {x0 x1 x2 x3 : D} (h0 : Ev W t0 s (.d x0) s1) (h1 : Ev W t1 s1 (.d x1) s2) (h2 : Ev W t2 s2 (.d x2) s3) (h3 : Ev W t3 s3 (.d x3) s4) : Ev W (tLst (tCons t0 (tCons t1 (tCons t2 (tCons t3 tNil))))) s (.d (.lst [x0, x1, x2, x3])) s4 := ev_frz (evN_l4 h0 h1 h2 h3)
theorem ev_t4 {W : Wd} {s s1 s2 s3 s4 : S} {t0 t1 t2 t3 : TE} {x0 x1 x2 x3 : D} (h0 : Ev W t0 s (.d x0) s1) (h1 : Ev W t1 s1 (.d x1) s2) (h2 : Ev W t2 s2 (.d x2) s3) (h3 : Ev W t3 s3 (.d x3) s4) : Ev W (tTup (tCons t0 (tCons t1 (tCons t2 (tCons t3 tNil))))) s (.d (.tup [x0, x1, x2, x3])) s4 := ev_tup (ds := [x0, x1, x2, x3]) (ea_cons h0 (ea_cons h1 (ea_cons h2 (ea_cons h3 ea_nil)))) (by show 4 ≤ 100000; decide)
theorem evN_l5 {W : Wd} {s s1 s2 s3 s4 s5 : S} {t0 t1 t2 t3 t4 : TE} {x0 x1 x2 x3 x4 : D} (h0 : Ev W t0 s (.d x0) s1) (h1 : Ev W t1 s1 (.d x1) s2) (h2 : Ev W t2 s2 (.d x2) s3) (h3 : Ev W t3 s3 (.d x3) s4) (h4 : Ev W t4 s4 (.d x4) s5) : EvN W (tLst (tCons t0 (tCons t1 (tCons t2 (tCons t3 (tCons t4 tNil)))))) s (.lst [x0, x1, x2, x3, x4]) s5 := evN_lst (ds := [x0, x1, x2, x3, x4]) (ea_cons h0 (ea_cons h1 (ea_cons h2 (ea_cons h3 (ea_cons h4 ea_nil))))) (by show 5 ≤ 100000; decide)
theorem ev_l5 {W : Wd} {s s1 s2 s3 s4 s5 : S} {t0 t1 t2 t3 t4 : TE} {x0 x1 x2 x3 x4 : D} (h0 : Ev W t0 s (.d x0) s1) (h1 : Ev W t1 s1 (.d x1) s2) (h2 : Ev W t2 s2 (.d x2) s3) (h3 : Ev W t3 s3 (.d x3) s4) (h4 : Ev W t4 s4 (.d x4) s5) : Ev W (tLst (tCons t0 (tCons t1 (tCons t2 (tCons t3 (tCons t4 tNil)))))) s (.d (.lst [x0, x1, x2, x3, x4])) s5 := ev_frz (evN_l5 h0 h1 h2 h3 h4)
theorem ev_t5 {W : Wd} {s s1 s2 s3 s4 s5 : S} {t0 t1 t2 t3 t4 : TE} {x0 x1 x2 x3 x4 : D} (h0 : Ev W t0 s (.d x0) s1) (h1 : Ev W t1 s1 (.d x1) s2) (h2 : Ev W t2 s2 (.d x2) s3) (h3 : Ev W t3 s3 (.d x3) s4) (h4 : Ev W t4 s4 (.d x4) s5) : Ev W (tTup (tCons t0 (tCons t1 (tCons t2 (tCons t3 (tCons t4 tNil)))))) s (.d (.tup [x0, x1, x2, x3, x4])) s5 := ev_tup (ds := [x0, x1, x2, x3, x4]) (ea_cons h0 (ea_cons h1 (ea_cons h2 (ea_cons h3 (ea_cons h4 ea_nil))))) (by show 5 ≤ 100000; decide)
theorem evN_l6 {W : Wd} {s s1 s2 s3 s4 s5 s6 : S} {t0 t1 t2 t3 t4 t5 : TE} {x0 x1 x2 x3 x4 x5 : D} (h0 : Ev W t0 s (.d x0) s1) (h1 : Ev W t1 s1 (.d x1) s2) (h2 : Ev W t2 s2 (.d x2) s3) (h3 : Ev W t3 s3 (.d x3) s4) (h4 : Ev W t4 s4 (.d x4) s5) (h5 : Ev W t5 s5 (.d x5) s6) : EvN W (tLst (tCons t0 (tCons t1 (tCons t2 (tCons t3 (tCons t4 (tCons t5 tNil))))))) s (.lst [x0, x1, x2, x3, x4, x5]) s6 := evN_lst (ds := [x0, x1, x2, x3, x4, x5]) (ea_cons h0 (ea_cons h1 (ea_cons h2 (ea_cons h3 (ea_cons h4 (ea_cons h5 ea_nil)))))) (by show 6 ≤ 100000; decide)
theorem ev_l6 {W : Wd} {s s1 s2 s3 s4 s5 s6 : S} {t0 t1 t2 t3 t4 t5 : TE} {x0 x1 x2 x3 x4 x5 : D} (h0 : Ev W t0 s (.d x0) s1) (h1 : Ev W t1 s1 (.d x1) s2) (h2 : Ev W t2 s2 (.d x2) s3) (h3 : Ev W t3 s3 (.d x3) s4) (h4 : Ev W t4 s4 (.d x4) s5) (h5 : Ev W t5 s5 (.d x5) s6) : Ev W (tLst (tCons t0 (tCons t1 (tCons t2 (tCons t3 (tCons t4 (tCons t5 tNil))))))) s (.d (.lst [x0, x1, x2, x3, x4, x5])) s6 := ev_frz (evN_l6 h0 h1 h2 h3 h4 h5)
theorem ev_t6 {W : Wd} {s s1 s2 s3 s4 s5 s6 : S} {t0 t1 t2 t3 t4 t5 : TE} {x0 x1 x2 x3 x4 x5 : D} (h0 : Ev W t0 s (.d x0) s1) (h1 : Ev W t1 s1 (.d x1) s2) (h2 : Ev W t2 s2 (.d x2) s3) (h3 : Ev W t3 s3 (.d x3) s4) (h4 : Ev W t4 s4 (.d x4) s5) (h5 : Ev W t5 s5 (.d x5) s6) : Ev W (tTup (tCons t0 (tCons t1 (tCons t2 (tCons t3 (tCons t4 (tCons t5 tNil))))))) s (.d (.tup [x0, x1, x2, x3, x4, x5])) s6 := ev_tup (ds := [x0, x1, x2, x3, x4, x5]) (ea_cons h0 (ea_cons h1 (ea_cons h2 (ea_cons h3 (ea_cons h4 (ea_cons h5 ea_nil)))))) (by show 6 ≤ 100000; decide)
theorem evN_l7 {W : Wd} {s s1 s2 s3 s4 s5 s6 s7 : S} {t0 t1 t2 t3 t4 t5 t6 : TE} {x0 x1 x2 x3 x4 x5 x6 : D} (h0 : Ev W t0 s (.d x0) s1) (h1 : Ev W t1 s1 (.d x1) s2) (h2 : Ev W t2 s2 (.d x2) s3) (h3 : Ev W t3 s3 (.d x3) s4) (h4 : Ev W t4 s4 (.d x4) s5) (h5 : Ev W t5 s5 (.d x5) s6) (h6 : Ev W t6 s6 (.d x6) s7) : EvN W (tLst (tCons t0 (tCons t1 (tCons t2 (tCons t3 (tCons t4 (tCons t5 (tCons t6 tNil)))))))) s (.lst [x0, x1, x2, x3, x4, x5, x6]) s7 := evN_lst (ds := [x0, x1, x2, x3, x4, x5, x6]) (ea_cons h0 (ea_cons h1 (ea_cons h2 (ea_cons h3 (ea_cons h4 (ea_cons h5 (ea_cons h6 ea_nil))))))) (by show 7 ≤ 100000; decide)
theorem ev_l7 {W : Wd} {s s1 s2 s3 s4 s5 s6 s7 : S} {t0 t1 t2 t3 t4 t5 t6 : TE} {x0 x1 x2 x3 x4 x5 x6 : D} (h0 : Ev W t0 s (.d x0) s1) (h1 : Ev W t1 s1 (.d x1) s2) (h2 : Ev W t2 s2 (.d x2) s3) (h3 : Ev W t3 s3 (.d x3) s4) (h4 : Ev W t4 s4 (.d x4) s5) (h5 : Ev W t5 s5 (.d x5) s6) (h6 : Ev W t6 s6 (.d x6) s7) : Ev W (tLst (tCons t0 (tCons t1 (tCons t2 (tCons t3 (tCons t4 (tCons t5 (tCons t6 tNil)))))))) s (.d (.lst [x0, x1, x2, x3, x4, x5, x6])) s7 := ev_frz (evN_l7 h0 h1 h2 h3 h4 h5 h6)
theorem ev_t7 {W : Wd} {s s1 s2 s3 s4 s5 s6 s7 : S} {t0 t1 t2 t3 t4 t5 t6 : TE} {x0 x1 x2 x3 x4 x5 x6 : D} (h0 : Ev W t0 s (.d x0) s1) (h1 : Ev W t1 s1 (.d x1) s2) (h2 : Ev W t2 s2 (.d x2) s3) (h3 : Ev W t3 s3 (.d x3) s4) (h4 : Ev W t4 s4 (.d x4) s5) (h5 : Ev W t5 s5 (.d x5) s6) (h6 : Ev W t6 s6 (.d x6) s7) : Ev W (tTup (tCons t0 (tCons t1 (tCons t2 (tCons t3 (tCons t4 (tCons t5 (tCons t6 tNil)))))))) s (.d (.tup [x0, x1, x2, x3, x4, x5, x6])) s7 := ev_tup (ds := [x0, x1, x2, x3, x4, x5, x6]) (ea_cons h0 (ea_cons h1 (ea_cons h2 (ea_cons h3 (ea_cons h4 (ea_cons h5 (ea_cons h6 ea_nil))))))) (by show 7 ≤ 100000; decide)
/-! ### the draws of a law: what is taken next stands first -/
def drw (ds : List Int) : List D := ds.reverse.map D.int
def tk (ds : List Int) (n : Int) : Int := match ds with
  | [] => 0
  | d :: _ => d % n
theorem tk_nn (ds : List Int) {n : Int} (h : 0 < n) : 0 ≤ tk ds n := by
  cases ds with
  | nil => exact Int.le_refl _
  | cons d r => exact Int.emod_nonneg _ (by omega)
theorem tk_lt (ds : List Int) {n : Int} (h : 0 < n) : tk ds n < n := by
  cases ds with
  | nil => exact h
  | cons d r => exact Int.emod_lt_of_pos _ h
theorem drw_cons (d : Int) (r : List Int) : drw (d :: r) = drw r ++ [.int d] := by
  unfold drw
  rw [List.reverse_cons, List.map_append]
  rfl
theorem drw_len (ds : List Int) : (drw ds).length = ds.length := by
  unfold drw
  rw [List.length_map, List.length_reverse]
end Py

/-! ### further calls by values: sum and sorted of tuples, sorted of a dict with tuple keys -/
namespace Py
open PySem PySem.Spec PyProof.Rows L2 SrtO
section
variable {prog : Program} {w : World} {A : Around} {E : Value → Shared → Prop} {s : Shared}
theorem sumT_raw {l : Addr} {its : List Value} {ns : List Int} {Q : Value → Shared → Prop} (hh : A.handled = none) (hl : IsTup s.heap l its.toArray) (hi : IntsAre its ns)
    (h : ∀ h' tk t', (∀ b o, s.heap.get? b = some o → h'.get? b = some o) → Q (.int ns.sum t') { s with heap := h', toks := tk }) : wpAny (model prog w) A (call (.builtin "sum") [.ref l]) Q E s := by
  obtain ⟨xs, e⟩ := hi.allInts.items
  have hn : numsOf (intItems xs).toList = ns := by rw [← e]; exact hi.numsOf
  rw [nums_intItems] at hn
  rw [e] at hl
  obtain ⟨o, ho, hc, n, hd⟩ := hl
  have hl : s.heap.IsTuple l (intItems xs) := ⟨o, ho, hc, n, hd⟩
  have hlt : l < s.heap.objs.size := Heap.lt_size ho
  refine call_sum_walkG (wpAny_pyIter_tuple hl ?_)
  refine ⟨_, _, _, _, _, _, numAt xs, rfl, Walks.tuple (A := A.in1) hh s.heap.objs.size l (Nat.ne_of_lt hlt) (intItems xs), ⟨⟨_, Heap.get?_push_size _ rfl, rfl, rfl⟩, ⟨o, Heap.get?_push_of_some _ ho, hc, n, hd⟩⟩, fun b hb => ?_, (fun _ _ => intItems_at), fun h' tk t' hk => ?_⟩
  · show b < (s.heap.push _).objs.size
    rw [Heap.size_push]
    rcases List.mem_cons.mp hb with rfl | hb
    · exact Nat.lt_succ_self _
    · rcases List.mem_cons.mp hb with rfl | hb
      · exact Nat.lt_succ_of_lt hlt
      · cases hb
  · have q := h h' tk t' fun b o' e' => hk b o' (fun z => absurd (Heap.lt_size e') (by rw [List.mem_singleton.mp z]; exact Nat.lt_irrefl _)) (Heap.get?_push_of_some _ e')
    have e2 : preSum (numAt xs) (intItems xs).size = ns.sum := by
      rw [preSum_eq, List.take_of_length_le (by simp [intItems]), hn]
    rw [e2]
    exact q
/-- sorted(v), whatever v is collected from -/
theorem sorted_any {v : Value} {vs : List Value} {ltv : Value → Value → Bool} {Q : Value → Shared → Prop} (O : Swo ltv) (hz : vs.length ≤ sizeLine)
    (hc : ∀ (R : List Value → Shared → Prop) (E' : Value → Shared → Prop), (∀ h' tk, (∀ b o, s.heap.get? b = some o → h'.get? b = some o) → R vs { s with heap := h', toks := tk }) → wpAny (model prog w) A.in1 (collect v) R E' s)
    (hS : 2 ≤ vs.length → ∀ (h₁ : Heap) (a : Addr) (tk : Nat), h₁.get? a = some (seqObj "list" vs.toArray 0) → (∀ b o, s.heap.get? b = some o → b ≠ a ∧ h₁.get? b = some o) → SortableO prog w A.in1.in1 { s with heap := h₁, toks := tk } a vs ltv)
    (h : ∀ (out : List Value) (h1 h2 : Heap) (d : Addr) (tk : Nat), Srtd ltv out → Stb ltv out vs → (∀ b o, s.heap.get? b = some o → h1.get? b = some o) → (∀ b o, h1.get? b = some o → h2.get? b = some o) → h1.objs.size ≤ d → (∃ n, h2.get? d = some (seqObj "list" out.toArray n)) → Q (.ref d) { s with heap := h2, toks := tk }) :
    wpAny (model prog w) A (call (.builtin "sorted") [v]) Q E s := by
  refine Calls.call_function_entry kind_sorted plain_sorted entry_sorted (args_sorted1 _) ?_
  unfold Builtin.«sorted»
  refine wpAny_bind (m := checkCount "sorted" 1 1 _) (wpAny_pure ?_)
  refine wpAny_bind (hc _ _ fun h' tk kp => ?_)
  refine wpAny_bind (wpAny_newList ?_ hz)
  have hoL : (h'.push (seqObj "list" vs.toArray 0)).get? h'.objs.size = some (seqObj "list" vs.toArray 0) := Heap.get?_push_size _ rfl
  have keep : ∀ b o, s.heap.get? b = some o → b ≠ h'.objs.size ∧ (h'.push (seqObj "list" vs.toArray 0)).get? b = some o := fun b o q =>
    ⟨Nat.ne_of_lt (Heap.lt_size (kp b o q)), Heap.get?_push_of_some _ (kp b o q)⟩
  show wpAny _ _ _ _ _ { s with heap := h'.push (seqObj "list" vs.toArray 0), toks := tk }
  refine wpAny_bind (wpAny_holding (wpAny_call_entry slot_list_sort ⟨_, hoL, rfl⟩ entry_list_sort (list_sort_ord (s := { s with heap := h'.push (seqObj "list" vs.toArray 0), toks := tk }) O hoL hz (fun h2 => hS h2 _ _ tk hoL keep) fun out hs hb => ⟨_, rfl, ?_⟩) (args_list_sort _)))
  obtain ⟨ep, he'⟩ := sortedHeap_at (vs := vs) (out := out.toArray) hoL
  refine wpAny_pure ⟨_, rfl, h out h' _ _ tk hs hb kp (fun b o q => ?_) (Nat.le_refl _) ⟨ep, he'⟩⟩
  have hb' : b < h'.objs.size := Heap.lt_size q
  rw [sortedHeap_old (Nat.ne_of_lt hb') (by rw [size_push']; exact Nat.lt_succ_of_lt hb')]
  exact Heap.get?_push_of_some _ q
/-- a tuple, collected -/
theorem collect_tup {l : Addr} {vs : List Value} {R : List Value → Shared → Prop} (hl : IsTup s.heap l vs.toArray) (hsz : vs.length ≤ sizeLine)
    (h : R vs { s with heap := (s.heap.push (seqObj "list" #[] 0)).update s.heap.objs.size (Obj.mapSeq (· ++ vs.toArray)) }) : wpAny (model prog w) A (collect (.ref l)) R E s := by
  obtain ⟨ob, hob, hcl, m, hdat⟩ := id hl
  have hob2 : (s.heap.push (seqObj "list" #[] 0)).get? l = some ob := Heap.get?_push_of_some _ hob
  have hnew : (s.heap.push (seqObj "list" #[] 0)).get? s.heap.objs.size = some (seqObj "list" #[] 0) := Heap.get?_push_size _ rfl
  unfold collect
  refine wpAny_bind (wpAny_runValue (codeAny_builtin entry_proto_collect' ?_))
  show wpAny _ _ (newList [] >>= fun z => again (.builtin "list.__iadd__" ⟨[z, .ref l], []⟩)) _ _ s
  refine wpAny_bind (wpAny_newList (wpAny_pure ⟨Code.quiet_builtin _ (by decide +kernel), codeAny_builtin entry_list_iadd' ?_⟩))
  show wpAny _ _ (Builtin.List.listExtendWith (.ref s.heap.objs.size) (.ref l) (.ref s.heap.objs.size)) _ _ { s with heap := s.heap.push (seqObj "list" #[] 0) }
  unfold Builtin.List.listExtendWith
  refine wpAny_bind (wpAny_typeOf (T := "tuple") ⟨ob, hob2, hcl⟩ ?_)
  have hself : (Value.type "tuple" == Value.type "tuple") = true := by rfl
  rw [if_pos (by simp only [hself, Bool.or_true])]
  refine wpAny_bind (listItems_at hob2 hdat ?_)
  refine wpAny_bind (listItems_at (xs := #[]) (n := 0) hnew rfl ?_)
  rw [if_neg (by simp)]
  refine wpAny_bind (listUpdate_at (xs := #[]) (n := 0) hnew rfl ?_ (Nat.zero_le _) ?_)
  · refine wpAny_pure ?_
    show wpAny (model prog w) A (load s.heap.objs.size >>= fun q => match q.data with
      | .seq zs _ => pure zs.toList
      | _ => unsupported "internal:collect") R E { s with heap := (s.heap.push (seqObj "list" #[] 0)).update s.heap.objs.size (Obj.mapSeq (· ++ vs.toArray)) }
    refine wpAny_bind (wpAny_load (get?_update_seq hnew _) ?_)
    show wpAny _ _ (pure ((#[] : Array Value) ++ vs.toArray).toList) R E _
    have e : ((#[] : Array Value) ++ vs.toArray).toList = vs := by simp
    rw [e]
    exact wpAny_pure h
  · show (#[] ++ vs.toArray).size ≤ sizeLine + 1
    have e : (#[] ++ vs.toArray).size = vs.length := by simp
    omega
theorem collected_kept {h : Heap} {vs : List Value} : (∀ b o, h.get? b = some o → ((h.push (seqObj "list" #[] 0)).update h.objs.size (Obj.mapSeq (· ++ vs.toArray))).get? b = some o) ∧ h.objs.size ≤ ((h.push (seqObj "list" #[] 0)).update h.objs.size (Obj.mapSeq (· ++ vs.toArray))).objs.size := by
  refine ⟨fun b o e => ?_, ?_⟩
  · have hb := Heap.lt_size e
    rw [Heap.get?_update_ne _ _ _ _ (Nat.ne_of_lt hb)]
    exact Heap.get?_push_of_some _ e
  · rw [Heap.size_update, size_push']
    exact Nat.le_succ _
/-! ### tuples of ints, compared -/
def lx : List Int → List Int → Bool
  | [], [] => false
  | [], _ :: _ => true
  | _ :: _, [] => false
  | a :: l, b :: m => if a = b then lx l m else decide (a < b)
theorem lx_self : ∀ l : List Int, lx l l = false
  | [] => rfl
  | a :: l => by
    show (if a = a then lx l l else decide (a < a)) = false
    rw [if_pos rfl]
    exact lx_self l
theorem lx_asym : ∀ l m : List Int, lx l m = true → lx m l = false
  | [], [], h => rfl
  | [], _ :: _, _ => rfl
  | _ :: _, [], h => by cases h
  | a :: l, b :: m, h => by
    have h' : (if a = b then lx l m else decide (a < b)) = true := h
    show (if b = a then lx m l else decide (b < a)) = false
    by_cases e : a = b
    · rw [if_pos e] at h'
      rw [if_pos e.symm]
      exact lx_asym l m h'
    · rw [if_neg e] at h'
      rw [if_neg (fun z => e z.symm)]
      have := of_decide_eq_true h'
      exact decide_eq_false (by omega)
theorem lx_total : ∀ l m : List Int, lx l m = false → lx m l = false → l = m
  | [], [], _, _ => rfl
  | [], _ :: _, h, _ => by cases h
  | _ :: _, [], _, h => by cases h
  | a :: l, b :: m, h, h2 => by
    have h' : (if a = b then lx l m else decide (a < b)) = false := h
    have h2' : (if b = a then lx m l else decide (b < a)) = false := h2
    by_cases e : a = b
    · rw [if_pos e] at h'
      rw [if_pos e.symm] at h2'
      rw [e, lx_total l m h' h2']
    · rw [if_neg e] at h'
      rw [if_neg (fun z => e z.symm)] at h2'
      have := of_decide_eq_false h'
      have := of_decide_eq_false h2'
      omega
theorem lx_tr : ∀ l m n : List Int, lx m l = false → lx n m = false → lx n l = false
  | l, m, [], h1, h2 => by
    cases m with
    | nil => exact h1
    | cons b m => cases h2
  | [], m, _ :: _, _, _ => rfl
  | a :: l, [], c :: n, h1, _ => by cases h1
  | a :: l, b :: m, c :: n, h1, h2 => by
    have h1' : (if b = a then lx m l else decide (b < a)) = false := h1
    have h2' : (if c = b then lx n m else decide (c < b)) = false := h2
    show (if c = a then lx n l else decide (c < a)) = false
    by_cases e1 : b = a
    · rw [if_pos e1] at h1'
      by_cases e2 : c = b
      · rw [if_pos e2] at h2'
        rw [if_pos (e2.trans e1)]
        exact lx_tr l m n h1' h2'
      · rw [if_neg e2] at h2'
        rw [if_neg (by omega)]
        have := of_decide_eq_false h2'
        exact decide_eq_false (by omega)
    · rw [if_neg e1] at h1'
      have := of_decide_eq_false h1'
      by_cases e2 : c = b
      · rw [if_neg (by omega)]
        exact decide_eq_false (by omega)
      · rw [if_neg e2] at h2'
        have := of_decide_eq_false h2'
        rw [if_neg (by omega)]
        exact decide_eq_false (by omega)
theorem lex_kat {b : Bool} {Q : Bool → Shared → Prop} : ∀ {xs ys : List Value} {ns ms : List Int} {i : Nat}, IntsAre xs ns → IntsAre ys ms → Q (lx ns ms) s → PySem.W.KatLex prog w A b (decide (xs.length < ys.length)) Q (xs.zip ys) i s
  | _, _, _, _, _, .nil, .nil, h => PySem.W.kat_nil h
  | _, _, _, _, _, .nil, .cons (vs := ys) m t r, h => PySem.W.kat_nil (by
      have e : decide (([] : List Value).length < (Value.int m t :: ys).length) = true := decide_eq_true (by simp)
      rw [e]
      exact h)
  | _, _, _, _, _, .cons (vs := xs) n t r, .nil, h => PySem.W.kat_nil (by
      have e : decide ((Value.int n t :: xs).length < ([] : List Value).length) = false := decide_eq_false (by simp)
      rw [e]
      exact h)
  | _, _, _, _, i, .cons (vs := xs) (ns := ns) n t r, .cons (vs := ys) (ns := ms) m u q, h => by
    have h' : Q (if n = m then lx ns ms else decide (n < m)) s := h
    refine PySem.W.kat_cons (SeqAt.EqAt.int_int n t m u prog w _ _ ?_)
    refine PySem.W.kat_go (fun e => ?_) (fun e => ?_)
    · have e : n = m := by simpa using e
      rw [if_pos e] at h'
      have el : decide ((Value.int n t :: xs).length < (Value.int m u :: ys).length) = decide (xs.length < ys.length) := by simp
      rw [el]
      exact PySem.W.kat_yes (lex_kat r q h')
    · have e : ¬ n = m := by simpa using e
      rw [if_neg e] at h'
      exact PySem.W.kat_no (TS.oneLt_ints _ h')
/-- v is a tuple of the ints ns -/
def IsIT (h : Heap) (v : Value) (ns : List Int) : Prop := ∃ a its, v = .ref a ∧ IsTup h a its.toArray ∧ IntsAre its ns
theorem IsIT.keeps {h h' : Heap} {v : Value} {ns : List Int} (x : IsIT h v ns) (k : ∀ b o, h.get? b = some o → o.cls = .type "tuple" → h'.get? b = some o) : IsIT h' v ns := by
  obtain ⟨a, its, e, ⟨o, h1, h2, h3⟩, i⟩ := x
  exact ⟨a, its, e, ⟨o, k a o h1 h2, h2, h3⟩, i⟩
theorem tups_cmp {vs : List Value} {k : Value → List Int} (hp : ∀ v ∈ vs, IsIT s.heap v (k v)) : Cmp prog w A s (tuples' true) (fun p => p.1 ∈ vs) (lt2 fun v u => lx (k v) (k u)) := by
  intro p q hm hm'
  obtain ⟨a, its, e, ⟨o, h1, h2, n, h3⟩, i⟩ := hp _ hm
  obtain ⟨a', its', e', ⟨o', h1', h2', n', h3'⟩, i'⟩ := hp _ hm'
  show wpAny (model prog w) A (keyLt' (tuples' true) p.1 q.1) (fun r s' => s' = s ∧ r = lx (k p.1) (k q.1)) (fun _ _ => False) s
  generalize k p.1 = ns at i ⊢
  generalize k q.1 = ms at i' ⊢
  rw [e, e']
  refine PySem.W.kat_lt h1 h3 h1' h3' ?_
  have el : decide (its.toArray.size < its'.toArray.size) = decide (its.length < its'.length) := by simp
  rw [el]
  exact lex_kat i i' ⟨rfl, rfl⟩
theorem tups_firsts {h : Heap} {k : Value → List Int} : ∀ {vs : List Value}, (∀ v ∈ vs, IsIT h v (k v) ∧ k v ≠ []) → ∃ fs : List Value, PySem.W.KatTups h vs fs ∧ fs.length = vs.length ∧ ∀ f ∈ fs, ∃ x t, f = Value.int x t
  | [], _ => ⟨[], PySem.W.KatTups.nil, rfl, fun _ hm => by simp at hm⟩
  | v :: vs, hp => by
    obtain ⟨fs, f1, f2, f3⟩ := tups_firsts (vs := vs) fun u hu => hp u (List.mem_cons_of_mem _ hu)
    obtain ⟨⟨a, its, e, ⟨o, h1, h2, n, h3⟩, i⟩, hne⟩ := hp v List.mem_cons_self
    generalize k v = ns at i hne
    cases i with
    | nil => exact absurd rfl hne
    | cons x t r =>
      subst e
      refine ⟨.int x t :: fs, PySem.W.KatTups.cons h1 h2 h3 rfl f1, by rw [List.length_cons, List.length_cons, f2], fun f hf => ?_⟩
      rcases List.mem_cons.mp hf with rfl | hf
      · exact ⟨x, t, rfl⟩
      · exact f3 f hf
theorem tups_sortable {a : Addr} {vs : List Value} {k : Value → List Int} (h0 : 0 < vs.length) (hp : ∀ v ∈ vs, IsIT s.heap v (k v) ∧ k v ≠ []) (ha : ∀ o, s.heap.get? a = some o → o.cls ≠ .type "tuple") : SortableO prog w A s a vs fun v u => lx (k v) (k u) := by
  intro h' keep
  have hp' : ∀ v ∈ vs, IsIT h' v (k v) ∧ k v ≠ [] := fun v hm => ⟨(hp v hm).1.keeps fun b o e c => keep b o (fun z => by subst z; exact ha o e c) e, (hp v hm).2⟩
  obtain ⟨fs, h1, h2, h3⟩ := tups_firsts hp'
  refine ⟨tuples' true, fun Q E hq => ?_, tups_cmp fun v hm => (hp' v hm).1⟩
  refine PySem.W.kat_kind (T := .type "int") h1 (by omega) (fun f hm => ?_) (by rfl) ?_
  · obtain ⟨x, t, rfl⟩ := h3 f hm
    exact PySem.W.Looks.now
  · have e : (Value.type "int" != Value.type "tuple") = true := by first | rfl | decide +kernel
    rw [e]
    exact hq
theorem swo_lx (k : Value → List Int) : Swo fun v u => lx (k v) (k u) := ⟨fun _ _ h => lx_asym _ _ h, fun _ _ _ h1 h2 => lx_tr _ _ _ h1 h2⟩
end
/-! ### rows of ints in their order -/
def insL (a : List Int) : List (List Int) → List (List Int)
  | [] => [a]
  | b :: l => if lx b a = false then a :: b :: l else b :: insL a l
def srtL : List (List Int) → List (List Int)
  | [] => []
  | a :: l => insL a (srtL l)
theorem insL_perm (a : List Int) : ∀ l, (insL a l).Perm (a :: l)
  | [] => .refl _
  | b :: l => by
    unfold insL
    split
    · exact .refl _
    · exact ((insL_perm a l).cons b).trans (List.Perm.swap a b l)
theorem srtL_perm : ∀ l : List (List Int), (srtL l).Perm l
  | [] => .refl _
  | a :: l => (insL_perm a (srtL l)).trans ((srtL_perm l).cons a)
abbrev SrtdL (l : List (List Int)) : Prop := l.Pairwise fun x y => lx y x = false
theorem insL_sorted {a : List Int} : ∀ {l : List (List Int)}, SrtdL l → SrtdL (insL a l)
  | [], _ => by simp [insL]
  | b :: l, h => by
    unfold insL
    split
    · rename_i hab
      refine List.pairwise_cons.mpr ⟨fun c hc => ?_, h⟩
      rcases List.mem_cons.mp hc with rfl | hc
      · exact hab
      · exact lx_tr _ _ _ hab ((List.pairwise_cons.mp h).1 c hc)
    · rename_i hab
      have hab : lx b a = true := by simpa using hab
      refine List.pairwise_cons.mpr ⟨fun c hc => ?_, insL_sorted (List.pairwise_cons.mp h).2⟩
      rcases List.mem_cons.mp ((insL_perm a l).mem_iff.mp hc) with rfl | hc
      · exact lx_asym _ _ hab
      · exact (List.pairwise_cons.mp h).1 c hc
theorem srtL_sorted : ∀ l : List (List Int), SrtdL (srtL l)
  | [] => List.Pairwise.nil
  | a :: l => insL_sorted (srtL_sorted l)
theorem srtL_unique : ∀ {l m : List (List Int)}, l.Perm m → SrtdL l → SrtdL m → l = m
  | [], m, p, _, _ => (List.nil_perm.mp p).symm
  | a :: l, [], p, _, _ => absurd p.length_eq (by simp)
  | a :: l, b :: m, p, h1, h2 => by
    have ha : a = b := by
      have m1 : a ∈ b :: m := p.mem_iff.mp List.mem_cons_self
      have m2 : b ∈ a :: l := p.mem_iff.mpr List.mem_cons_self
      rcases List.mem_cons.mp m1 with e | e
      · exact e
      · rcases List.mem_cons.mp m2 with e' | e'
        · exact e'.symm
        · exact lx_total _ _ ((List.pairwise_cons.mp h2).1 a e) ((List.pairwise_cons.mp h1).1 b e')
    subst ha
    rw [srtL_unique (List.perm_cons a |>.mp p) (List.pairwise_cons.mp h1).2 (List.pairwise_cons.mp h2).2]
/-! ### the calls -/
section
variable {X : Cx}
/-- sum of a list or a tuple of ints -/
def rSumA (K : PySem.W.Frag) : List V → Hp → VK → Prop := fun vs H Q => ∃ (a : Addr) (ns : List Int), vs = [V.ref a] ∧ (SqL K H a (ns.map V.int) ∨ SqT K H a (ns.map V.int)) ∧ Q (.int ns.sum) H
theorem cr_sumA (hc : X.calm = true) : CallR X (.builtin "sum") (rSumA X.K) := by
  intro pins s σ H vs us Q I r h
  obtain ⟨a, ns, rfl, hs | hs, q⟩ := h
  · exact cr_sum hc pins s σ H _ us Q I r ⟨a, ns, rfl, hs, q⟩
  · obtain ⟨its, rv, hl, _⟩ := I.tuple hs
    rw [Vals.ref1 r]
    exact sumT_raw (I.ok.hd hc) hl rv.ints fun h' tk t' hk => ⟨.int _, H, I.kept hk, ⟨_, rfl⟩, q⟩
/-- sorted of a list or a tuple of ints -/
def rSortedA (K : PySem.W.Frag) : List V → Hp → VK → Prop := fun vs H Q => ∃ (a : Addr) (ns : List Int), vs = [V.ref a] ∧ (SqL K H a (ns.map V.int) ∨ SqT K H a (ns.map V.int)) ∧
  ∀ (ns' : List Int) (p : Addr), ns'.Perm ns → ns'.Pairwise (· ≤ ·) → H p = none → Q (.ref p) (upd H p (.lst (ns'.map V.int)))
theorem cr_sortedA : CallR X (.builtin "sorted") (rSortedA X.K) := by
  intro pins s σ H vs us Q I r h
  obtain ⟨a, ns, rfl, hs | hs, q⟩ := h
  · exact cr_sortedI pins s σ H _ us Q I r ⟨a, ns, rfl, hs, q⟩
  · obtain ⟨its, rv, hl, hz⟩ := I.tuple hs
    rw [Vals.ref1 r]
    have hi := rv.ints
    have hlen : its.length ≤ sizeLine := by rw [← rv.length]; exact hz
    refine sorted_any swo_int hlen (fun R E' k => collect_tup hl hlen (k _ s.toks collected_kept.1)) (fun h2 h₁ a' tk _ _ => ints_sortable hi h2) fun out h1 h2 d tk hsr hst kp0 kp hd ⟨n, e⟩ => ?_
    obtain ⟨k1, k2, k3⟩ := ints_out hi hsr hst
    have hl2 : ((out.map iv).map V.int).length ≤ sizeLine := by
      rw [List.length_map, k2.length_eq]
      rw [List.length_map] at hz
      exact hz
    exact ⟨.ref d, upd H d (.lst ((out.map iv).map V.int)), (I.kept (t' := tk) kp0).laid (t' := tk) kp hd ⟨hl2, out, n, vals_of_ints k1, e⟩, rfl, q _ _ k2 k3 ((I.kept (t' := tk) kp0).hok.fresh hd)⟩
def vInt : V → Option Int
  | .int i => some i
  | _ => none
theorem vInt_map : ∀ k : List Int, (k.map V.int).filterMap vInt = k
  | [] => rfl
  | a :: k => by
    rw [List.map_cons]
    show a :: (k.map V.int).filterMap vInt = a :: k
    rw [vInt_map k]
/-- rows at addresses -/
def RowsAt (H : Hp) (bs : List Addr) (ks : List (List Int)) : Prop := Paired (fun b (k : List Int) => H b = some (.tup (k.map V.int))) bs ks
/-- sorted of a dict whose keys are tuples of ints, none of them empty if there are two -/
def rSortedD : List V → Hp → VK → Prop := fun vs H Q => ∃ (d : Addr) (kvs : List (List Key × V)) (ks : List (List Int)), vs = [V.ref d] ∧ Rd H d (.dT kvs) ∧ kvs.map (·.1) = ks.map (·.map Sum.inl) ∧ (2 ≤ ks.length → [] ∉ ks) ∧
  ∀ (bs : List Addr) (p : Addr), RowsAt H bs (srtL ks) → H p = none → Q (.ref p) (upd H p (.lst (bs.map V.ref)))
theorem paired_map_eq {α β γ : Type} {F : α → β → Prop} {f : α → γ} {g : β → γ} (hf : ∀ a b, F a b → f a = g b) : ∀ {l : List α} {m : List β}, Paired F l m → l.map f = m.map g
  | _, _, .nil => rfl
  | _, _, .cons h t => by rw [List.map_cons, List.map_cons, hf _ _ h, paired_map_eq hf t]
theorem ints_keys : ∀ {k : List Int}, (k.map (Sum.inl : Int → Key)).map kV = k.map V.int
  | [] => rfl
  | a :: k => by rw [List.map_cons, List.map_cons, List.map_cons, ints_keys]; rfl
theorem cr_sortedD (hc : X.calm = true) : CallR X (.builtin "sorted") rSortedD := by
  intro pins s σ H vs us Q I r h
  obtain ⟨d, kvs, ks, rfl, hd, hks, hne, q⟩ := h
  rw [Vals.ref1 r]
  obtain ⟨z, hs, xs, pr, o, es, ep, ho, hx, hdt, he, hn⟩ := (show ObjOk X.prog X.w H s.heap d (.dT kvs) from hd.ok I.hok)
  have l1 : es.size = xs.length := size_of_entries he
  have l2 : kvs.length = xs.length := Paired.length pr
  have l3 : kvs.length = ks.length := by
    have e := congrArg List.length hks
    rw [List.length_map, List.length_map] at e
    exact e
  -- the keys, as values
  have key : ∀ (acc : Array Value), ItemsOf (fun i v => ∃ en : DictEntry, es[i]? = some en ∧ v = en.key) acc es.size → acc.toList = xs.map fun x => Value.ref x.2.1 := fun acc it => by
    have hl : acc.toList.length = xs.length := by rw [Array.length_toList, it.1]; exact l1
    apply List.ext_getElem?
    intro j
    rw [List.getElem?_map]
    cases hj : acc.toList[j]? with
    | none =>
      have h1 := List.getElem?_eq_none_iff.mp hj
      rw [List.getElem?_eq_none (by omega)]
      rfl
    | some v =>
      obtain ⟨en, hen, hv⟩ := it.2 j v (by rw [← Array.getElem?_toList]; exact hj)
      have qe := entry_at he j
      rw [hen] at qe
      cases hb : xs[j]? with
      | none => rw [hb] at qe; cases qe
      | some b =>
        rw [hb] at qe
        have e2 : en = entryOfKey (tupleKind (mixKind X.prog X.w)) b := Option.some.inj qe
        rw [hv, e2]
        rfl
  -- each key's address holds its row
  have rows : ∀ x ∈ xs, ∃ k : List Int, x.1 = k.map Sum.inl ∧ k ∈ ks ∧ H x.2.1 = some (.tup (k.map V.int)) := fun x hx' => by
    obtain ⟨i, hi⟩ := List.mem_iff_getElem?.mp hx'
    have ex : (kvs.map (·.1)) = xs.map (·.1) := paired_map_eq (fun a b h => h.1) pr
    have e1 : (ks.map (·.map Sum.inl))[i]? = some x.1 := by rw [← hks, ex, List.getElem?_map, hi]; rfl
    rw [List.getElem?_map] at e1
    cases e2 : ks[i]? with
    | none => rw [e2] at e1; cases e1
    | some k =>
      rw [e2] at e1
      have e3 : k.map Sum.inl = x.1 := Option.some.inj e1
      have hat : H x.2.1 = some (.tup (x.1.map kV)) := by
        have all : ∀ {l : List (List Key × V)} {m : List (List Key × Addr × Value)}, KT H l m → ∀ y ∈ m, H y.2.1 = some (.tup (y.1.map kV)) := by
          intro l m qq
          induction qq with
          | nil => intro y hy; cases hy
          | cons hq t ih =>
            intro y hy
            rcases List.mem_cons.mp hy with rfl | hy
            · rw [← hq.1]; exact hq.2.1
            · exact ih y hy
        exact all pr x hx'
      refine ⟨k, e3.symm, List.mem_of_getElem? e2, ?_⟩
      rw [hat, ← e3, ints_keys]
  have exks : xs.map (·.1) = ks.map (·.map Sum.inl) := by
    rw [← hks]
    exact (paired_map_eq (fun a b h => h.1) pr).symm
  -- the row of a value
  let kf : Value → List Int := fun v => match v with
    | .ref a => (match H a with
      | some (.tup us) => us.filterMap vInt
      | _ => [])
    | _ => []
  have kfe : ∀ (b : Addr) (k : List Int), H b = some (.tup (k.map V.int)) → kf (.ref b) = k := fun b k e => by
    show (match H b with
      | some (.tup us) => us.filterMap vInt
      | _ => []) = k
    rw [e]
    exact vInt_map k
  have isit : ∀ (b : Addr) (k : List Int), H b = some (.tup (k.map V.int)) → IsIT s.heap (.ref b) k := fun b k e => by
    obtain ⟨_, its, rv, hT⟩ := (show ObjOk X.prog X.w H s.heap b (.tup (k.map V.int)) from I.hok b _ e)
    exact ⟨b, its, rfl, hT, rv.ints⟩
  have hvs : ∀ v ∈ xs.map (fun x => Value.ref x.2.1), ∃ (b : Addr) (k : List Int), v = .ref b ∧ k ∈ ks ∧ H b = some (.tup (k.map V.int)) := fun v hv => by
    obtain ⟨x, hx', e⟩ := List.mem_map.mp hv
    obtain ⟨k, _, h2, h3⟩ := rows x hx'
    exact ⟨x.2.1, k, e.symm, h2, h3⟩
  refine sorted_any (vs := xs.map fun x => Value.ref x.2.1) (swo_lx kf) (by rw [List.length_map, ← l2]; exact z) (fun R E' k => ?_) (fun h2 h₁ a' tk hla kp => ?_) fun out h1 h2 dd tk hsr hst kp0 kp hdd ⟨n, e⟩ => ?_
  · refine PySem.W.kdu_collect (A := X.A.in1) (kdl_raw hs hx hdt) (I.ok.hd hc) ho (by omega) fun h' tk acc kp it => ?_
    rw [key acc it]
    exact k h' tk kp
  · refine tups_sortable (by rw [List.length_map] at h2 ⊢; omega) (fun v hv => ?_) (fun o' e' c => ?_)
    · obtain ⟨b, k, rfl, hk, hb⟩ := hvs v hv
      rw [kfe b k hb]
      refine ⟨(isit b k hb).keeps fun b' o' e' _ => (kp b' o' e').2, fun z => ?_⟩
      rw [List.length_map] at h2
      exact hne (by omega) (z ▸ hk)
    · have e'' : h₁.get? a' = some o' := e'
      rw [hla] at e''
      cases e''
      have c' : Value.type "list" = Value.type "tuple" := c
      injection c' with c'
      exact absurd c' (by decide)
  · -- the rows come in their order
    have hperm := hst.perm
    have hout : ∀ v ∈ out, ∃ (b : Addr) (k : List Int), v = .ref b ∧ k ∈ ks ∧ H b = some (.tup (k.map V.int)) := fun v hv => hvs v (hperm.mem_iff.mp hv)
    have ek : out.map kf = srtL ks := by
      refine srtL_unique ?_ ?_ (srtL_sorted ks)
      · refine (hperm.map kf).trans ?_
        have e1 : (xs.map fun x => Value.ref x.2.1).map kf = ks := by
          rw [List.map_map]
          have e2 : (xs.map fun x => ((kf (Value.ref x.2.1)).map Sum.inl : List Key)) = ks.map (·.map Sum.inl) := by
            rw [← exks]
            apply List.map_congr_left
            intro x hx'
            obtain ⟨k, h1, _, h3⟩ := rows x hx'
            rw [kfe _ _ h3, h1]
          have inj : ∀ {l m : List (List Int)}, l.map (fun k => (k.map Sum.inl : List Key)) = m.map (fun k => k.map Sum.inl) → l = m := by
            intro l
            induction l with
            | nil => intro m h; cases m with
              | nil => rfl
              | cons _ _ => cases h
            | cons a l ih => intro m h; cases m with
              | nil => cases h
              | cons b m =>
                simp only [List.map_cons, List.cons.injEq] at h
                have hab : a = b := by
                  have := h.1
                  exact List.map_inj_right (f := (Sum.inl : Int → Key)) (fun x y hxy => Sum.inl.inj hxy) |>.mp this
                rw [hab, ih h.2]
          refine inj ?_
          rw [List.map_map]
          exact e2
        rw [e1]
        exact (srtL_perm ks).symm
      · exact List.pairwise_map.mpr hsr
    have ebs : ∃ bs : List Addr, out = bs.map Value.ref ∧ RowsAt H bs (out.map kf) := by
      have gen : ∀ l : List Value, (∀ v ∈ l, ∃ (b : Addr) (k : List Int), v = .ref b ∧ k ∈ ks ∧ H b = some (.tup (k.map V.int))) → ∃ bs : List Addr, l = bs.map Value.ref ∧ RowsAt H bs (l.map kf) := by
        intro l
        induction l with
        | nil => intro _; exact ⟨[], rfl, .nil⟩
        | cons v l ih =>
          intro hh
          obtain ⟨b, k, rfl, _, hb⟩ := hh v List.mem_cons_self
          obtain ⟨bs, e1, e2⟩ := ih fun u hu => hh u (List.mem_cons_of_mem _ hu)
          refine ⟨b :: bs, by rw [List.map_cons, ← e1], ?_⟩
          rw [List.map_cons, kfe b k hb]
          exact .cons hb e2
      exact gen out hout
    obtain ⟨bs, e1, e2⟩ := ebs
    rw [ek] at e2
    have hlen : (bs.map V.ref).length ≤ sizeLine := by
      have := hperm.length_eq
      rw [e1, List.length_map, List.length_map] at this
      rw [List.length_map, this, ← l2]
      exact z
    exact ⟨.ref dd, upd H dd (.lst (bs.map V.ref)), (I.kept (t' := tk) kp0).laid (t' := tk) kp hdd ⟨hlen, out, n, by rw [e1]; exact vals_refs bs, e⟩, rfl, q bs dd e2 ((I.kept (t' := tk) kp0).hok.fresh hdd)⟩
end
end Py

/-! ### lists or tuples, dicts, deep ==, kinds -/
namespace Py
open PySem L2
open PySem.W (Frag)
open Evl (Ex tCut pss_cut)
section
variable {W : Wd} {s s0 s' s1 s2 s3 s4 : S} {ta tb te tc : TE} {tr : TA} {r r1 r2 : Slot} {rs : List Slot} {x y : D} {xs ys ds : List D} {D₀ : Ends} {t u : TS} {b : Bool} {tt : TT} {j : Nat}
/-! list or tuple -/
/-- x is a list or a tuple of these -/
def Sq (x : D) (ds : List D) : Prop := x = .lst ds ∨ x = .tup ds
theorem sq_l : Sq (.lst ds) ds := .inl rfl
theorem sq_t : Sq (.tup ds) ds := .inr rfl
theorem Sq.at {xt : Tmp} {σ : L2.St} {H G : Hp} {v : V} (h : Sq x ds) (g : SatG W s xt σ H G) (hr : (Slot.d x).ok W.K G (some v)) : ∃ p vs, v = .ref p ∧ (SqL W.K H p vs ∨ SqT W.K H p vs) ∧ Rps W.K G ds vs := by
  rcases h with rfl | rfl
  · obtain ⟨p, vs, e, h1, h2⟩ := LstAt.d.at g hr
    exact ⟨p, vs, e, .inl h1, h2⟩
  · obtain ⟨p, vs, e, h1, _, h2⟩ := Tup.at g hr
    exact ⟨p, vs, e, .inr h1, h2⟩
theorem ev_lenS (hx : Sq x ds) (ha : Ev W ta s (.d x) s1) : Ev W (tCB (rLenQ W.K) (tCons ta tNil)) s (.d (.int ds.length)) s1 := by
  rcases hx with rfl | rfl
  · exact ev_lenL ha .d
  · exact ev_lenT ha
theorem ev_sumSL {ns : List Int} (ha : Ev W ta s r s1) (hl : LstAt s1 r ds) (e : ds = ns.map D.int) : Ev W (tCB (rSumA W.K) (tCons ta tNil)) s (.d (.int ns.sum)) s1 :=
  ev_cb1 ha fun xt σ H G u g Q q => by
    obtain ⟨p, vs, rfl, e2, e3⟩ := hl.at g g.top
    rw [e3.ints_of e] at e2
    exact ⟨p, ns, rfl, .inl e2, finD q g.pop rp_int⟩
theorem ev_sumS {ns : List Int} (hx : Sq x ds) (ha : Ev W ta s (.d x) s1) (e : ds = ns.map D.int) : Ev W (tCB (rSumA W.K) (tCons ta tNil)) s (.d (.int ns.sum)) s1 :=
  ev_cb1 ha fun xt σ H G u g Q q => by
    obtain ⟨p, vs, rfl, e2, e3⟩ := hx.at g g.top
    rw [e3.ints_of e] at e2
    exact ⟨p, ns, rfl, e2, finD q g.pop rp_int⟩
theorem sortA_end {xt : Tmp} {σ : L2.St} {H G : Hp} {v : V} {Q : VK} {p : Addr} {ns : List Int} (g : SatG W s1 ((v, r) :: xt) σ H G) (hs : SqL W.K H p (ns.map V.int) ∨ SqT W.K H p (ns.map V.int))
    (q : ∀ p H', Sat W ⟨s1.sl, s1.own ++ [(p, .lst ((srt ns).map D.int))], s1.tmp⟩ ((.ref p, .v (.ref p)) :: xt) σ H' → Q (.ref p) H') : rSortedA W.K [.ref p] H Q := by
  refine ⟨p, ns, rfl, hs, fun ns' l hp hs hl' => ?_⟩
  have en : ns' = srt ns := sorted_unique (hp.trans (srt_perm ns).symm) hs (srt_sorted ns)
  subst en
  exact q l _ ⟨G, (g.pop.mine (c := .lst ((srt ns).map D.int)) hl' ⟨_, upd_same, Rps.ints⟩).push rfl⟩
theorem evN_sortSL {ns : List Int} (ha : Ev W ta s r s1) (hl : LstAt s1 r ds) (e : ds = ns.map D.int) : EvN W (tCB (rSortedA W.K) (tCons ta tNil)) s (.lst ((srt ns).map D.int)) s1 :=
  evN_cb1 ha fun xt σ H G u g Q q => by
    obtain ⟨p, vs, rfl, e2, e3⟩ := hl.at g g.top
    rw [e3.ints_of e] at e2
    exact sortA_end g (.inl e2) q
theorem evN_sortS {ns : List Int} (hx : Sq x ds) (ha : Ev W ta s (.d x) s1) (e : ds = ns.map D.int) : EvN W (tCB (rSortedA W.K) (tCons ta tNil)) s (.lst ((srt ns).map D.int)) s1 :=
  evN_cb1 ha fun xt σ H G u g Q q => by
    obtain ⟨p, vs, rfl, e2, e3⟩ := hx.at g g.top
    rw [e3.ints_of e] at e2
    exact sortA_end g e2 q
theorem ev_ixS {i : Int} (hx : Sq y ds) (ha : Ev W ta s (.d y) s1) (hb : Ev W tb s1 (.d (.int i)) s2) (he : atI ds i = some x) : Ev W (tOp (rIx W.K) ta tb) s (.d x) s2 := fun xt σ H g Q q => by
  rcases hx with rfl | rfl
  · exact ha xt σ H g _ fun u H1 g1 => hb _ σ H1 g1 _ fun v H2 ⟨G, g2⟩ => .inl (by
      obtain ⟨p, vs, e1, e2, e3⟩ := LstAt.d.at g2 g2.second
      obtain ⟨w, e4, e5⟩ := e3.atI he
      exact ⟨p, vs, i, w, e1, rp_int_inv g2.topD, e2, e4, finD q g2.pop.pop e5⟩)
  · exact ha xt σ H g _ fun u H1 g1 => hb _ σ H1 g1 _ fun v H2 ⟨G, g2⟩ => .inr (.inl (by
      obtain ⟨p, vs, e1, e2, _, e3⟩ := Tup.at g2 g2.second
      obtain ⟨w, e4, e5⟩ := e3.atI he
      exact ⟨p, vs, i, w, e1, rp_int_inv g2.topD, e2, e4, finD q g2.pop.pop e5⟩))
theorem evN_listS (hx : Sq x ds) (ha : Ev W ta s (.d x) s1) : EvN W (tCB (rListQ W.K) (tCons ta tNil)) s (.lst ds) s1 := by
  rcases hx with rfl | rfl
  · exact evN_listL ha .d
  · exact evN_listT ha
theorem ev_tupS (hx : Sq x ds) (ha : Ev W ta s (.d x) s1) : Ev W (tCB (rTupQ W.K) (tCons ta tNil)) s (.d (.tup ds)) s1 := by
  rcases hx with rfl | rfl
  · exact ev_tupL ha .d
  · exact ev_tupT ha
/-- an iteration by one of two rules -/
def iOr (a b : TI) : TI := fun σ H R => a σ H R ∨ b σ H R
theorem pi_or {X : Cx} {tg e : Expr} {a b : TI} (h1 : PI X tg e a) (h2 : PI X tg e b) : PI X tg e (iOr a b) :=
  ⟨fun pins s σ H R I h => h.elim (h1.run pins s σ H R I) (h2.run pins s σ H R I)⟩
theorem go_forOl {a c : TI} {g : TG} (h : Go W s (tCut (tFor a g t) u) D₀) : Go W s (tCut (tFor (iOr a c) g t) u) D₀ := fun σ H gg => by
  obtain ⟨M, h1, h2⟩ := h σ H gg
  exact ⟨M, .inl h1, h2⟩
theorem go_forOr {a c : TI} {g : TG} (h : Go W s (tCut (tFor c g t) u) D₀) : Go W s (tCut (tFor (iOr a c) g t) u) D₀ := fun σ H gg => by
  obtain ⟨M, h1, h2⟩ := h σ H gg
  exact ⟨M, .inr h1, h2⟩
theorem go_forS {x : D} (I : Nat → S) (hx : Sq x ds) (h : Ev W ta s (.d x) s0) (h0 : Weak W s0 (I 0))
    (hb : ∀ v (i : Nat) (y : D), ds[i]? = some y → Go W ⟨(I i).sl.set j (.d y), (I i).own, (v, .d x) :: (I i).tmp⟩ t (TurnE W D₀ (I (i + 1)) v (.d x) u))
    (k : Go W (I ds.length) u D₀) : Go W s (tCut (tFor (iOr (iList W.K ta) (iTup W.K ta)) (gName j) t) u) D₀ := by
  rcases hx with rfl | rfl
  · exact go_forOl (go_forL I h h0 (fun _ _ => .d) hb k)
  · exact go_forOr (go_forT I h h0 hb k)
/-- from the end -/
theorem go_revL (I : Nat → S) (h : Ev W ta s r s0) (h0 : Weak W s0 (I 0)) (hl : ∀ i, i ≤ ds.length → LstAt (I i) r ds)
    (hb : ∀ v (i : Nat) (x : D), ds.reverse[i]? = some x → Go W ⟨(I i).sl.set j (.d x), (I i).own, (v, r) :: (I i).tmp⟩ t (TurnE W D₀ (I (i + 1)) v r u))
    (k : Go W (I ds.length) u D₀) : Go W s (tCut (tFor (RT.iRevA W.K ta) (gName j) t) u) D₀ := fun σ H gg => by
  refine ⟨fun σ' H' => u D₀ σ' H', ?_, fun _ _ z => z⟩
  refine h [] σ H gg _ fun v H1 g1 => ?_
  obtain ⟨G1, g1⟩ := h0 _ _ _ g1
  obtain ⟨p, vs0, rfl, e2, e3⟩ := (hl 0 (Nat.zero_le _)).at g1 g1.top
  refine ⟨p, vs0, rfl, .inl ⟨e2, ?_⟩⟩
  rw [e3.len]
  refine for_core (J := Itv W.K p ds.length) (n := ds.length) (v := .ref p) (r := r) (fun i => ds.reverse.getD i .non) ⟨G1, g1⟩ (fun i σ H G hi g => ?_) (fun σ H G g => Nat.le_refl _) (fun i hi => ?_) k
  · obtain ⟨p', vs, e4, e5, e6⟩ := (hl i (Nat.le_of_lt hi)).at g g.top
    cases e4
    have hj : ds.length - 1 - i < ds.length := by omega
    have er : ds.reverse.getD i .non = ds[ds.length - 1 - i] := by
      rw [List.getD_eq_getElem?_getD, List.getElem?_reverse hi, List.getElem?_eq_getElem hj]
      rfl
    obtain ⟨w, e7, e8⟩ := e6.get (i := ds.length - 1 - i) (d := ds[ds.length - 1 - i]) (List.getElem?_eq_getElem hj)
    refine ⟨⟨hi, vs, w, e5, e7⟩, fun x H' ⟨eH, hy⟩ => ⟨eH, ?_⟩⟩
    have e9 := hy vs e5
    rw [e7] at e9
    cases e9
    rw [er]
    exact e8
  · exact hb (.ref p) i _ (by rw [List.getD_eq_getElem?_getD, List.getElem?_eq_getElem (by rw [List.length_reverse]; exact hi)]; rfl)
theorem go_revT (I : Nat → S) (h : Ev W ta s (.d (.tup ds)) s0) (h0 : Weak W s0 (I 0))
    (hb : ∀ v (i : Nat) (x : D), ds.reverse[i]? = some x → Go W ⟨(I i).sl.set j (.d x), (I i).own, (v, .d (.tup ds)) :: (I i).tmp⟩ t (TurnE W D₀ (I (i + 1)) v (.d (.tup ds)) u))
    (k : Go W (I ds.length) u D₀) : Go W s (tCut (tFor (RT.iRevA W.K ta) (gName j) t) u) D₀ := fun σ H gg => by
  refine ⟨fun σ' H' => u D₀ σ' H', ?_, fun _ _ z => z⟩
  refine h [] σ H gg _ fun v H1 g1 => ?_
  obtain ⟨G1, g1⟩ := h0 _ _ _ g1
  obtain ⟨p, vs0, rfl, e2, _, e3⟩ := Tup.at g1 g1.top
  refine ⟨p, vs0, rfl, .inr ⟨e2, ?_⟩⟩
  rw [e3.len]
  refine for_core (J := RT.ItvT W.K p ds.length) (n := ds.length) (v := .ref p) (r := .d (.tup ds)) (fun i => ds.reverse.getD i .non) ⟨G1, g1⟩ (fun i σ H G hi g => ?_) (fun σ H G g => Nat.le_refl _) (fun i hi => ?_) k
  · obtain ⟨p', vs, e4, e5, _, e6⟩ := Tup.at g g.top
    cases e4
    have hj : ds.length - 1 - i < ds.length := by omega
    have er : ds.reverse.getD i .non = ds[ds.length - 1 - i] := by
      rw [List.getD_eq_getElem?_getD, List.getElem?_reverse hi, List.getElem?_eq_getElem hj]
      rfl
    obtain ⟨w, e7, e8⟩ := e6.get (i := ds.length - 1 - i) (d := ds[ds.length - 1 - i]) (List.getElem?_eq_getElem hj)
    refine ⟨⟨hi, vs, w, e5, e7⟩, fun x H' ⟨eH, hy⟩ => ⟨eH, ?_⟩⟩
    have e9 := hy vs e5
    rw [e7] at e9
    cases e9
    rw [er]
    exact e8
  · exact hb (.ref p) i _ (by rw [List.getD_eq_getElem?_getD, List.getElem?_eq_getElem (by rw [List.length_reverse]; exact hi)]; rfl)
theorem ev_tupRev (ha : Ev W ta s r s1) (hl : LstAt s1 r ds) : Ev W (RT.tTupRev W.K ta) s (.d (.tup ds.reverse)) s1 := fun xt σ H g Q q =>
  ha xt σ H g _ fun v H1 ⟨G, g1⟩ => by
    obtain ⟨p, vs, rfl, e2, e3⟩ := hl.at g1 g1.top
    exact ⟨p, vs, rfl, e2, fun l hl => finD q (g1.pop.laid (o := .tup vs.reverse) hl) (rp_tup upd_same (e3.reverse.mono (Ex.new (g1.gnone hl))))⟩
theorem ev_catT (ha : Ev W ta s (.d (.tup xs)) s1) (hb : Ev W tb s1 (.d (.tup ys)) s2) (hz : xs.length + ys.length ≤ 100000) : Ev W (tOp (rCatA W.K) ta tb) s (.d (.tup (xs ++ ys))) s2 :=
  ev_two ha hb fun xt σ H G u v g Q q => by
    obtain ⟨p, vs, rfl, e2, e3, e4⟩ := Tup.at g g.second
    obtain ⟨p', vs', rfl, e2', e3', e4'⟩ := Tup.at g g.top
    refine ⟨p, p', vs, vs', rfl, rfl, e2, e2', Evl.sz_of (by rw [e4.len, e4'.len]; exact hz), fun e => ?_, fun _ e => ?_, fun _ _ l hl => ?_⟩
    · have : xs = [] := List.eq_nil_of_length_eq_zero (by rw [← e4.len, e]; rfl)
      subst this
      exact finD q g.pop.pop g.topD
    · have : ys = [] := List.eq_nil_of_length_eq_zero (by rw [← e4'.len, e]; rfl)
      subst this
      rw [List.append_nil] at q
      exact finD q g.pop.pop (Slot.inv g.second)
    · exact finD q (g.pop.pop.laid (o := .tup (vs ++ vs')) hl) (rp_tup upd_same ((e4.append e4').mono (Ex.new (g.gnone hl))))
theorem cut_whole {α : Type} {zs : List α} {lo hi : Option Int} (h1 : HT.sIx zs.length 0 lo = 0) (h2 : HT.sIx zs.length zs.length hi = zs.length) : cut zs lo hi = zs := by
  unfold cut
  rw [h1, h2]
  simp
theorem ev_slT {tl th : TO} {lo hi : Option Int} (h : Ev W ta s (.d (.tup ds)) s1) (h1 : EvO W tl s1 lo s2) (h2 : EvO W th s2 hi s3) : Ev W (tSl (rSlA W.K) ta tl th) s (.d (.tup (cut ds lo hi))) s3 := fun xt σ H g Q q =>
  h xt σ H g _ fun v H1 g1 => h1 _ σ H1 g1 _ fun H2 g2 => h2 _ σ H2 g2 _ fun H3 ⟨G3, g3⟩ => by
    obtain ⟨p, vs, rfl, e2, _, e3⟩ := Tup.at g3 g3.top
    refine ⟨p, vs, rfl, e2, fun ⟨w1, w2⟩ => ?_, fun _ l hl' => ?_⟩
    · rw [e3.len] at w1 w2
      refine finD q g3.pop ?_
      rw [cut_whole w1 w2]
      exact g3.topD
    · exact finD q (g3.pop.laid (o := .tup (cutV vs lo hi)) hl') (rp_tup upd_same ((e3.cut (lo := lo) (hi := hi)).mono (Ex.new (g3.gnone hl'))))
theorem rgV_rp {K : Frag} {G : Hp} {a m : Int} : Rps K G ((List.range (m - a).toNat).map fun (i : Nat) => D.int (a + i)) (rgV a m) := by
  unfold rgV
  induction (List.range (m - a).toNat) with
  | nil => exact Rps.nil
  | cons i l ih => exact Rps.cons rp_int ih
theorem evN_rg1 {m : Int} (ha : Ev W ta s (.d (.int m)) s1) (hm : -1000000000 ≤ m ∧ m ≤ 90000) : EvN W (tLstRg (tRg1 ta)) s (.lst ((List.range m.toNat).map fun (i : Nat) => D.int i)) s1 := fun xt σ H g Q q =>
  ha xt σ H g _ fun v H1 ⟨G, g1⟩ => by
    refine ⟨m, rp_int_inv g1.topD, ⟨by omega, by omega, by omega, by omega, by omega⟩, fun l hl => q l _ ⟨G, (g1.pop.mine (c := .lst _) hl ⟨_, upd_same, ?_⟩).push rfl⟩⟩
    have := rgV_rp (K := W.K) (G := G) (a := 0) (m := m)
    simpa using this
theorem evN_rg2 {a m : Int} (ha : Ev W ta s (.d (.int a)) s1) (hb : Ev W tb s1 (.d (.int m)) s2) (hm : -1000000000 ≤ a ∧ a ≤ 1000000000 ∧ -1000000000 ≤ m ∧ m ≤ 1000000000 ∧ m - a ≤ 90000) : EvN W (tLstRg (tRg2 ta tb)) s (.lst ((List.range (m - a).toNat).map fun (i : Nat) => D.int (a + i))) s2 := fun xt σ H g Q q =>
  ha xt σ H g _ fun v H1 g1 => hb _ σ H1 g1 _ fun w H2 ⟨G, g2⟩ => by
    exact ⟨a, m, rp_int_inv (Slot.inv g2.second), rp_int_inv g2.topD, ⟨by omega, by omega, by omega, by omega, by omega⟩, fun l hl => q l _ ⟨G, (g2.pop.pop.mine (c := .lst _) hl ⟨_, upd_same, rgV_rp⟩).push rfl⟩⟩
/-! ### dicts -/
section
variable {κ : Type} [DecidableEq κ] {α : Type}
def valD : List (κ × α) → κ → Option α
  | [], _ => none
  | p :: l, k => if p.1 = k then some p.2 else valD l k
def putD (kvs : List (κ × α)) (k : κ) (v : α) : List (κ × α) := if (valD kvs k).isSome = true then kvs.map fun kv => if kv.1 = k then (kv.1, v) else kv else kvs ++ [(k, v)]
theorem valD_cons {p : κ × α} {l : List (κ × α)} {k : κ} : valD (p :: l) k = if p.1 = k then some p.2 else valD l k := rfl
theorem valD_map {k j : κ} {y : α} : ∀ {l : List (κ × α)}, valD (l.map fun kv => if kv.1 = k then (kv.1, y) else kv) j = (valD l j).map fun x => if j = k then y else x
  | [] => rfl
  | p :: l => by
    rw [List.map_cons, valD_cons, valD_cons, valD_map (l := l)]
    by_cases h1 : p.1 = k
    · rw [if_pos h1]
      dsimp only
      by_cases h2 : p.1 = j
      · rw [if_pos h2, if_pos h2]
        have : j = k := h2 ▸ h1
        simp [this]
      · rw [if_neg h2, if_neg h2]
    · rw [if_neg h1]
      by_cases h2 : p.1 = j
      · rw [if_pos h2, if_pos h2]
        have : ¬ j = k := fun z => h1 (h2.trans z)
        simp [this]
      · rw [if_neg h2, if_neg h2]
theorem valD_app {j : κ} {m : List (κ × α)} : ∀ {l : List (κ × α)}, valD (l ++ m) j = (valD l j).or (valD m j)
  | [] => rfl
  | p :: l => by
    rw [List.cons_append, valD_cons, valD_cons, valD_app (l := l)]
    by_cases h : p.1 = j
    · rw [if_pos h, if_pos h]; rfl
    · rw [if_neg h, if_neg h]
theorem valD_put (kvs : List (κ × α)) (k j : κ) (y : α) : valD (putD kvs k y) j = if j = k then some y else valD kvs j := by
  unfold putD
  by_cases h : (valD kvs k).isSome = true
  · rw [if_pos h, valD_map]
    by_cases e : j = k
    · subst e
      rw [if_pos rfl]
      cases q : valD kvs j with
      | none => rw [q] at h; cases h
      | some z => simp
    · rw [if_neg e]
      cases valD kvs j <;> simp [e]
  · rw [if_neg h, valD_app]
    have h' : valD kvs k = none := by
      cases q : valD kvs k with
      | none => rfl
      | some z => rw [q] at h; exact absurd rfl h
    by_cases e : j = k
    · subst e
      rw [if_pos rfl, h', valD_cons, if_pos rfl]
      rfl
    · have e' : ¬ k = j := fun z => e z.symm
      rw [if_neg e, valD_cons, if_neg e']
      cases valD kvs j <;> rfl
theorem putD_keys (kvs : List (κ × α)) (k : κ) (y : α) : (putD kvs k y).map (·.1) = if k ∈ kvs.map (·.1) then kvs.map (·.1) else kvs.map (·.1) ++ [k] := by
  have key : (valD kvs k).isSome = true ↔ k ∈ kvs.map (·.1) := by
    induction kvs with
    | nil => simp [valD]
    | cons p l ih =>
      rw [valD_cons]
      by_cases h : p.1 = k
      · rw [if_pos h]; simp [h]
      · have h' : ¬ k = p.1 := fun z => h z.symm
        rw [if_neg h, ih]; simp [h']
  unfold putD
  by_cases h : (valD kvs k).isSome = true
  · rw [if_pos h, if_pos (key.mp h), List.map_map]
    apply List.map_congr_left
    intro p _
    show (if p.1 = k then (p.1, y) else p).1 = p.1
    split <;> rfl
  · rw [if_neg h, if_neg (fun z => h (key.mpr z)), List.map_append]
    rfl
theorem putD_len (kvs : List (κ × α)) (k : κ) (y : α) : (putD kvs k y).length ≤ kvs.length + 1 := by
  have e := congrArg List.length (putD_keys kvs k y)
  rw [List.length_map] at e
  rw [e]
  split
  · rw [List.length_map]; omega
  · rw [List.length_append, List.length_map]; exact Nat.le_refl _
end
section
variable {κ : Type} [DecidableEq κ] {K : Frag} {G : Hp}
theorem KvOk.nil : KvOk (κ := κ) K G [] [] := ⟨rfl, Rps.nil⟩
theorem KvOk.cons_inv {p : κ × D} {kvs : List (κ × D)} {ws : List (κ × V)} (h : KvOk K G (p :: kvs) ws) : ∃ v r, ws = (p.1, v) :: r ∧ Rp K G p.2 v ∧ KvOk K G kvs r := by
  obtain ⟨h1, h2⟩ := h
  cases ws with
  | nil => cases h1
  | cons q r =>
    rw [List.map_cons, List.map_cons] at h1
    rw [List.map_cons, List.map_cons] at h2
    injection h1 with e1 e2
    obtain ⟨h3, h4⟩ := h2.inv
    obtain ⟨qa, qb⟩ := q
    obtain rfl : qa = p.1 := e1
    exact ⟨qb, r, rfl, h3, e2, h4⟩
theorem KvOk.cons {p : κ × D} {v : V} {kvs : List (κ × D)} {ws : List (κ × V)} (h : Rp K G p.2 v) (r : KvOk K G kvs ws) : KvOk K G (p :: kvs) ((p.1, v) :: ws) :=
  ⟨by rw [List.map_cons, List.map_cons, r.1], by rw [List.map_cons, List.map_cons]; exact Rps.cons h r.2⟩
theorem KvOk.len {kvs : List (κ × D)} {ws : List (κ × V)} (h : KvOk K G kvs ws) : ws.length = kvs.length := by
  have := congrArg List.length h.1
  rwa [List.length_map, List.length_map] at this
theorem KvOk.val {k : κ} : ∀ {kvs : List (κ × D)} {ws : List (κ × V)}, KvOk K G kvs ws → (valD kvs k = none ∧ valV ws k = none) ∨ ∃ x v, valD kvs k = some x ∧ valV ws k = some v ∧ Rp K G x v
  | [], ws, h => by
    have : ws = [] := List.eq_nil_of_length_eq_zero (by rw [h.len]; rfl)
    subst this
    exact .inl ⟨rfl, rfl⟩
  | p :: kvs, ws, h => by
    obtain ⟨v, r, rfl, h1, h2⟩ := h.cons_inv
    rw [valD_cons]
    by_cases e : p.1 = k
    · rw [if_pos e, valV_pos (p := (p.1, v)) e]
      exact .inr ⟨_, _, rfl, rfl, h1⟩
    · rw [if_neg e, valV_neg (p := (p.1, v)) e]
      exact KvOk.val h2
theorem KvOk.app {kvs kvs' : List (κ × D)} {ws ws' : List (κ × V)} (h : KvOk K G kvs ws) (h' : KvOk K G kvs' ws') : KvOk K G (kvs ++ kvs') (ws ++ ws') := by
  refine ⟨by rw [List.map_append, List.map_append, h.1, h'.1], ?_⟩
  rw [List.map_append, List.map_append]
  exact h.2.append h'.2
theorem KvOk.upd {k : κ} {x : D} {v : V} (hr : Rp K G x v) : ∀ {kvs : List (κ × D)} {ws : List (κ × V)}, KvOk K G kvs ws → KvOk K G (kvs.map fun kv => if kv.1 = k then (kv.1, x) else kv) (ws.map fun kv => if kv.1 = k then (kv.1, v) else kv)
  | [], ws, h => by
    have : ws = [] := List.eq_nil_of_length_eq_zero (by rw [h.len]; rfl)
    subst this
    exact KvOk.nil
  | p :: kvs, ws, h => by
    obtain ⟨w, r, rfl, h1, h2⟩ := h.cons_inv
    rw [List.map_cons, List.map_cons]
    by_cases e : p.1 = k
    · rw [if_pos e, if_pos e]
      exact KvOk.cons (p := (p.1, x)) hr (KvOk.upd hr h2)
    · rw [if_neg e, if_neg e]
      exact KvOk.cons h1 (KvOk.upd hr h2)
theorem KvOk.put {k : κ} {x : D} {v : V} {kvs : List (κ × D)} {ws : List (κ × V)} (h : KvOk K G kvs ws) (hr : Rp K G x v) : KvOk K G (putD kvs k x) (putK ws k v) := by
  rcases h.val (k := k) with ⟨e1, e2⟩ | ⟨y, w, e1, e2, _⟩
  · rw [putK_new v e2]
    unfold putD
    rw [e1, if_neg (show ¬ (none : Option D).isSome = true from fun z => nomatch z)]
    exact h.app (KvOk.cons (p := (k, x)) hr KvOk.nil)
  · have hh : (some y).isSome = true := rfl
    unfold putD
    rw [e1, if_pos hh]
    have e3 : putK ws k v = ws.map fun kv => if kv.1 = k then (kv.1, v) else kv := by
      unfold putK
      rw [if_pos (by rw [valV_any, e2]; rfl)]
    rw [e3]
    exact h.upd hr
end
/-- a key that is a row of ints -/
def kI (k : List Int) : List Key := k.map Sum.inl
theorem kI_inj {a c : List Int} (h : kI a = kI c) : a = c := List.map_inj_right (f := (Sum.inl : Int → Key)) (fun x y hxy => Sum.inl.inj hxy) |>.mp h
theorem kI_vals {k : List Int} : (kI k).map kV = k.map V.int := ints_keys
theorem evN_dT : EvN W tDNewT s (.dT []) s := fun xt σ H ⟨G, g⟩ Q q p hp => q p _ ⟨G, (g.mine (c := .dT []) hp ⟨[], upd_same, KvOk.nil⟩).push rfl⟩
theorem tup_key {xt : Tmp} {σ : L2.St} {H G : Hp} {v : V} {k : List Int} (g : SatG W s xt σ H G) (hr : (Slot.d (.tup (k.map D.int))).ok W.K G (some v)) : ∃ c, v = .ref c ∧ H c = some (.tup ((kI k).map kV)) := by
  obtain ⟨c, vs, e, _, h, r⟩ := Tup.at g hr
  rw [r.ints_inv] at h
  exact ⟨c, e, by rw [kI_vals]; exact h⟩
/-- d[k] = e -/
theorem go_putT {n : Nat} {p : Addr} {k : List Int} {kvs : List (List Key × D)} (h : Ev W te s (.d x) s1) (ha : Ev W ta s1 (.v (.ref p)) s2) (hb : Ev W tb s2 (.d (.tup (k.map D.int))) s3) (hk : s3.own[n]? = some (p, .dT kvs)) (hl : kvs.length < 100000)
    (K : Go W ⟨s3.sl, s3.own.set n (p, .dT (putD kvs (kI k) x)), s3.tmp⟩ u D₀) : Go W s (tCut (sDPut ta tb te) u) D₀ := fun σ H g =>
  ⟨fun σ' H' => u D₀ σ' H', h [] σ H g _ fun v H1 g1 => ha _ σ H1 g1 _ fun w H2 g2 => hb _ σ H2 g2 _ fun z H3 ⟨G3, g3⟩ => by
    obtain rfl := Slot.vinv g3.second
    obtain ⟨c, rfl, hc⟩ := tup_key g3 g3.top
    have hx := Slot.inv g3.pop.second
    obtain ⟨_, ⟨ws, e2, e3⟩, _⟩ := g3.own p _ (List.mem_of_getElem? hk)
    refine ⟨p, _, rfl, DPut.t e2 hc (Evl.sz_lt (by rw [e3.len]; exact hl)), K _ _ ⟨G3, ?_⟩⟩
    exact g3.pop.pop.pop.write hk (c' := .dT _) ⟨_, upd_same, e3.put hx⟩
  , fun _ _ z => z⟩
/-- d[k] -/
theorem ev_getT {n : Nat} {p : Addr} {k : List Int} {kvs : List (List Key × D)} (ha : Ev W ta s (.v (.ref p)) s1) (hb : Ev W tb s1 (.d (.tup (k.map D.int))) s2) (hk : s2.own[n]? = some (p, .dT kvs)) (hv : valD kvs (kI k) = some x) : Ev W (tDGet ta tb) s (.d x) s2 := fun xt σ H g Q q =>
  ha xt σ H g _ fun w H1 g1 => hb _ σ H1 g1 _ fun z H2 ⟨G, g2⟩ => by
    obtain rfl := Slot.vinv g2.second
    obtain ⟨c, rfl, hc⟩ := tup_key g2 g2.top
    obtain ⟨_, ⟨ws, e2, e3⟩, _⟩ := g2.own p _ (List.mem_of_getElem? hk)
    rcases e3.val (k := kI k) with ⟨e4, _⟩ | ⟨y, v, e4, e5, e6⟩
    · rw [hv] at e4; cases e4
    · rw [hv] at e4
      cases e4
      refine ⟨p, v, rfl, ?_, finD q g2.pop.pop e6⟩
      rw [← e5]
      exact DGet.t e2 hc
/-- d.get(k, e) -/
theorem ev_get2T {n : Nat} {p : Addr} {k : List Int} {kvs kvs' : List (List Key × D)} (ha : Ev W ta s (.v (.ref p)) s1) (h1 : s1.own[n]? = some (p, .dT kvs')) (hb : Ev W tb s1 (.d (.tup (k.map D.int))) s2) (hc : Ev W tc s2 (.d x) s3) (hk : s3.own[n]? = some (p, .dT kvs)) : Ev W (tDGet2 ta tb tc) s (.d ((valD kvs (kI k)).getD x)) s3 := fun xt σ H g Q q =>
  ha xt σ H g _ fun w H1 ⟨G1, g1⟩ => by
    obtain rfl := Slot.vinv g1.top
    obtain ⟨_, ⟨ws1, e1, _⟩, _⟩ := g1.own p _ (List.mem_of_getElem? h1)
    refine ⟨p, rfl, .inr ⟨ws1, .inl e1⟩, hb _ σ H1 ⟨G1, g1⟩ _ fun z H2 g2 => hc _ σ H2 g2 _ fun z2 H3 ⟨G, g3⟩ => ?_⟩
    obtain ⟨c, rfl, hc⟩ := tup_key g3 g3.second
    obtain ⟨_, ⟨ws, e2, e3⟩, _⟩ := g3.own p _ (List.mem_of_getElem? hk)
    refine ⟨_, DGet.t e2 hc, ?_⟩
    rcases e3.val (k := kI k) with ⟨e4, e5⟩ | ⟨y, v, e4, e5, e6⟩
    · rw [e4] at q
      rw [e5]
      exact finD q g3.pop.pop.pop g3.topD
    · rw [e4] at q
      rw [e5]
      exact finD q g3.pop.pop.pop e6
/-- rows that stand are data -/
theorem SatG.addRows {xt : Tmp} {σ : L2.St} {H : Hp} : ∀ {bs : List Addr} {ks : List (List Int)} {G : Hp}, RowsAt H bs ks → SatG W s xt σ H G → ∃ G', Ex G G' ∧ SatG W s xt σ H G' ∧ Rps W.K G' (ks.map fun k => D.tup (k.map D.int)) (bs.map V.ref)
  | _, _, G, .nil, g => ⟨G, Ex.refl G, g, Rps.nil⟩
  | c :: bs, k :: ks, G, .cons h t, g => by
    have g1 := g.addTup h
    have e1 : Ex G (upd G c (.tup (k.map V.int))) := fun a o e => by
      by_cases ha : a = c
      · subst ha
        have := g.gh _ _ e
        rw [h] at this
        rw [upd_same, this]
      · rw [upd_ne ha]
        exact e
    obtain ⟨G', e2, g2, r⟩ := SatG.addRows t g1
    refine ⟨G', e1.trans e2, g2, ?_⟩
    rw [List.map_cons, List.map_cons]
    exact Rps.cons ((rp_tup upd_same Rps.ints).mono e2) r
theorem evN_sortD {n : Nat} {p : Addr} {kvs : List (List Key × D)} {ks : List (List Int)} (ha : Ev W ta s (.v (.ref p)) s1) (hk : s1.own[n]? = some (p, .dT kvs)) (e : kvs.map (·.1) = ks.map kI) (hne : 2 ≤ ks.length → [] ∉ ks) :
    EvN W (tCB rSortedD (tCons ta tNil)) s (.lst ((srtL ks).map fun k => D.tup (k.map D.int))) s1 :=
  evN_cb1 ha fun xt σ H G u g Q q => by
    obtain rfl := Slot.vinv g.top
    obtain ⟨_, ⟨ws, e2, e3⟩, _⟩ := g.own p _ (List.mem_of_getElem? hk)
    refine ⟨p, ws, ks, rfl, .inl e2, by rw [e3.1, e]; rfl, hne, fun bs l hb hl => ?_⟩
    obtain ⟨G', ex, g', r⟩ := g.pop.addRows hb
    exact q l _ ⟨G', (g'.mine (c := .lst _) hl ⟨_, upd_same, r⟩).push rfl⟩
/-! ### == at any depth -/
mutual
def D.pd : D → PyData
  | .non => .none | .bl b => .bool b | .int i => .int i | .str z => .str z
  | .lst l => .list (D.pds l) | .tup l => .tuple (D.pds l)
  | .scr ns => .list (ns.map PyData.int)
  | .obj _ _ => .none | .xd _ => .none
def D.pds : List D → List PyData
  | [] => []
  | d :: l => D.pd d :: D.pds l
end
/-- plain data, no deeper than n -/
inductive Pd : Nat → D → Prop where
  | non {n : Nat} : Pd n .non
  | bl {n : Nat} {b : Bool} : Pd n (.bl b)
  | int {n : Nat} {i : Int} : Pd n (.int i)
  | str {n : Nat} {z : Str} : PyData.strOk z = true → Pd n (.str z)
  | scr {n : Nat} {ns : List Int} : Pd (n + 1) (.scr ns)
  | lst {n : Nat} {l : List D} : (∀ d, d ∈ l → Pd n d) → Pd (n + 1) (.lst l)
  | tup {n : Nat} {l : List D} : (∀ d, d ∈ l → Pd n d) → Pd (n + 1) (.tup l)
theorem pds_lay {l : List D} (h : ∀ d, d ∈ l → d.pd.canLay0 = true) : PyData.canLayAll0 (D.pds l) = true := by
  induction l with
  | nil => rfl
  | cons a l ih => show (a.pd.canLay0 && _) = true; rw [h a List.mem_cons_self, ih fun d hd => h d (List.mem_cons_of_mem _ hd)]; rfl
theorem pds_dep {l : List D} {n : Nat} (h : ∀ d, d ∈ l → d.pd.depth ≤ n) : PyData.depthAll (D.pds l) ≤ n := by
  induction l with
  | nil => exact Nat.zero_le _
  | cons a l ih => show max a.pd.depth _ ≤ n; exact Nat.max_le.mpr ⟨h a List.mem_cons_self, ih fun d hd => h d (List.mem_cons_of_mem _ hd)⟩
theorem ints_lay : ∀ ns : List Int, PyData.canLayAll0 (ns.map PyData.int) = true ∧ PyData.depthAll (ns.map PyData.int) = 0
  | [] => ⟨rfl, rfl⟩
  | a :: l => ⟨by show (true && _) = true; rw [(ints_lay l).1]; rfl, by show max 0 _ = 0; rw [(ints_lay l).2]; rfl⟩
theorem Pd.lay {n : Nat} {d : D} (h : Pd n d) : d.pd.canLay0 = true ∧ d.pd.depth ≤ n := by
  induction h with
  | non => exact ⟨rfl, Nat.zero_le _⟩
  | bl => exact ⟨rfl, Nat.zero_le _⟩
  | int => exact ⟨rfl, Nat.zero_le _⟩
  | str h => exact ⟨h, Nat.zero_le _⟩
  | @scr n ns => exact ⟨(ints_lay ns).1, by show PyData.depthAll (ns.map PyData.int) + 1 ≤ _; rw [(ints_lay ns).2]; omega⟩
  | @lst n l _ ih => exact ⟨pds_lay fun d hd => (ih d hd).1, Nat.succ_le_succ (pds_dep fun d hd => (ih d hd).2)⟩
  | @tup n l _ ih => exact ⟨pds_lay fun d hd => (ih d hd).1, Nat.succ_le_succ (pds_dep fun d hd => (ih d hd).2)⟩
theorem Pd.shaped {n : Nat} {d : D} (h : Pd n d) (hn : n ≤ 64) : SeqAt.shaped d.pd = true := by
  unfold SeqAt.shaped
  rw [h.lay.1, decide_eq_true (Nat.le_trans h.lay.2 hn)]
  rfl
theorem Pd.refl {n : Nat} {d : D} (h : Pd n d) : PyData.eqv d.pd d.pd = true := SeqAt.eqv_refl_plain _ (PyData.plain_of_canLay0 _ h.lay.1)
theorem dps_of {K : Frag} {G H : Hp} : ∀ {l : List D} {vs : List V}, (∀ d, d ∈ l → ∀ v, Rp K G d v → Dp K H v d.pd) → Rps K G l vs → DpAll K H vs (D.pds l)
  | [], _, _, h => by
    unfold Rps at h
    subst h
    exact DpAll.nil
  | d :: l, _, f, h => by
    unfold Rps at h
    obtain ⟨v, r, rfl, h1, h2⟩ := h
    exact DpAll.cons (f d List.mem_cons_self v h1) (dps_of (fun d hd => f d (List.mem_cons_of_mem _ hd)) h2)
theorem dp_ints {K : Frag} {H : Hp} : ∀ ns : List Int, DpAll K H (ns.map V.int) (ns.map PyData.int)
  | [] => DpAll.nil
  | n :: ns => DpAll.cons (Dp.int n) (dp_ints ns)
theorem Pd.dp {K : Frag} {G H : Hp} (e : Ex G H) {n : Nat} {d : D} (h : Pd n d) : ∀ v, Rp K G d v → Dp K H v d.pd := by
  induction h with
  | non => intro v r; rw [rp_non_inv r]; exact Dp.non
  | bl => intro v r; rw [rp_bl_inv r]; exact Dp.bl _
  | int => intro v r; rw [rp_int_inv r]; exact Dp.int _
  | str _ => intro v r; rw [rp_str_inv r]; exact Dp.str _
  | @scr n ns =>
    intro v r
    obtain ⟨p, rfl, hs⟩ := rp_scr_inv r
    exact Dp.lst (Evl.ex_l e hs) (dp_ints ns)
  | lst _ ih =>
    intro v r
    obtain ⟨p, vs, rfl, h1, h2⟩ := rp_lst_inv r
    exact Dp.lst (Evl.sq_of (e _ _ h1)) (dps_of ih h2)
  | tup _ ih =>
    intro v r
    obtain ⟨p, vs, rfl, h1, h2⟩ := rp_tup_inv r
    exact Dp.tup (Evl.st_of (e _ _ h1)) (dps_of ih h2)
/-- r, in s, holds this -/
inductive DatAt (s : S) : Slot → D → Prop where
  | d {x : D} : DatAt s (.d x) x
  | o {k : Nat} {p : Addr} {ds : List D} : s.own[k]? = some (p, .lst ds) → DatAt s (.v (.ref p)) (.lst ds)
theorem DatAt.dp {xt : Tmp} {σ : L2.St} {H G : Hp} {v : V} {n : Nat} (h : DatAt s r x) (hx : Pd n x) (g : SatG W s xt σ H G) (hr : r.ok W.K G (some v)) : Dp W.K H v x.pd := by
  cases h with
  | d => exact hx.dp g.gh v (Slot.inv hr)
  | @o k p ds hk =>
    obtain ⟨h1, ⟨vs, h2, h3⟩, _⟩ := g.own _ _ (List.mem_of_getElem? hk)
    obtain rfl := Slot.vinv hr
    cases hx with
    | lst hl => exact Dp.lst (Evl.sq_of h2) (dps_of (fun d hd v' r' => (hl d hd).dp g.gh v' r') h3)
theorem ev_eqD {n m : Nat} (ha : Ev W ta s r1 s1) (hb : Ev W tb s1 r2 s2) (h1 : DatAt s2 r1 x) (h2 : DatAt s2 r2 y) (hx : Pd n x) (hy : Pd m y) (hn : n ≤ 64 := by decide) (hm : m ≤ 64 := by decide) : Ev W (tOp (rEqD W.K) ta tb) s (.d (.bl (PyData.eqv x.pd y.pd))) s2 :=
  ev_two ha hb fun xt σ H G a b g Q q => ⟨_, _, h1.dp hx g g.second, h2.dp hy g g.top, hx.shaped hn, hy.shaped hm, finD q g.pop.pop rp_bl⟩
theorem ev_neD {n m : Nat} (ha : Ev W ta s r1 s1) (hb : Ev W tb s1 r2 s2) (h1 : DatAt s2 r1 x) (h2 : DatAt s2 r2 y) (hx : Pd n x) (hy : Pd m y) (hn : n ≤ 64 := by decide) (hm : m ≤ 64 := by decide) : Ev W (tOp (rNeD W.K) ta tb) s (.d (.bl (!PyData.eqv x.pd y.pd))) s2 :=
  ev_two ha hb fun xt σ H G a b g Q q => ⟨_, _, h1.dp hx g g.second, h2.dp hy g g.top, hx.shaped hn, hy.shaped hm, finD q g.pop.pop rp_bl⟩
theorem ev_eqDr {n : Nat} (ha : Ev W ta s r1 s1) (hb : Ev W tb s1 r2 s2) (h1 : DatAt s2 r1 x) (h2 : DatAt s2 r2 x) (hx : Pd n x) (hn : n ≤ 64 := by decide) : Ev W (tOp (rEqD W.K) ta tb) s (.d (.bl true)) s2 := ev_is (ev_eqD ha hb h1 h2 hx hx hn hn) (by rw [hx.refl])
theorem ev_neDr {n : Nat} (ha : Ev W ta s r1 s1) (hb : Ev W tb s1 r2 s2) (h1 : DatAt s2 r1 x) (h2 : DatAt s2 r2 x) (hx : Pd n x) (hn : n ≤ 64 := by decide) : Ev W (tOp (rNeD W.K) ta tb) s (.d (.bl false)) s2 := ev_is (ev_neD ha hb h1 h2 hx hx hn hn) (by rw [hx.refl]; rfl)
theorem pd_ints {n : Nat} {ns : List Int} : ∀ d, d ∈ ns.map D.int → Pd n d := fun d hd => by
  obtain ⟨i, _, rfl⟩ := List.mem_map.mp hd
  exact Pd.int
/-! ### isinstance -/
def D.ty : D → Option String
  | .non => some "NoneType" | .bl _ => some "bool" | .int _ => some "int" | .str _ => some "str" | .lst _ => some "list" | .tup _ => some "tuple"
  | _ => none
theorem ty_of {xt : Tmp} {σ : L2.St} {H G : Hp} {v : V} {n : String} (e : x.ty = some n) (g : SatG W s xt σ H G) (hr : Rp W.K G x v) : TyX W.K H v (.type n) := by
  cases x with
  | non => cases e; rw [rp_non_inv hr]; exact .base .non
  | bl b => cases e; rw [rp_bl_inv hr]; exact .base (.bl b)
  | int i => cases e; rw [rp_int_inv hr]; exact .base (.int i)
  | str z => cases e; rw [rp_str_inv hr]; exact .base (.str z)
  | lst l => cases e; obtain ⟨p, vs, rfl, h1, _⟩ := rp_lst_inv hr; exact .base (.lst (g.gh _ _ h1))
  | tup l => cases e; obtain ⟨p, vs, rfl, h1, _⟩ := rp_tup_inv hr; exact .base (.tup (g.gh _ _ h1))
  | scr _ => cases e
  | obj _ _ => cases e
  | xd _ => cases e
theorem ev_isi {n m : String} (e : x.ty = some n) (ha : Ev W ta s (.d x) s1) (hk : kitB n m = some b) : Ev W (tCB (rIsi W.K) (tCons ta (tCons (tC (.ty m)) tNil))) s (.d (.bl b)) s1 := fun xt σ H g Q q =>
  ha xt σ H g _ fun u H1 ⟨G, g1⟩ => ⟨u, .ty m, .type n, .type m, b, rfl, .ty m, ty_of e g1 g1.topD, kit_ty hk, finD q g1.pop rp_bl⟩
theorem ev_isi2 {n m m' : String} {b' : Bool} (e : x.ty = some n) (ha : Ev W ta s (.d x) s1) (hk : kitB n m = some b) (hk' : kitB n m' = some b') : Ev W (tCB (rIsiT W.K) (tCons ta (tCons (tTup (tCons (tC (.ty m)) (tCons (tC (.ty m')) tNil))) tNil))) s (.d (.bl (b || b'))) s1 := fun xt σ H g Q q =>
  ha xt σ H g _ fun u H1 ⟨G, g1⟩ => ⟨Evl.sz_of (by show 2 ≤ 100000; decide), fun p hp => by
    have g2 := g1.laid (o := .tup [.ty m, .ty m']) hp
    refine ⟨u, p, [.ty m, .ty m'], .type n, [.type m, .type m'], b || b', rfl, upd_same, .cons (.ty m) (.cons (.ty m') .nil), ty_of e g2 g2.topD, ?_, finD q g2.pop rp_bl⟩
    refine kitAny_cons (kit_ty hk) (fun z => ?_) fun z => by rw [z]; rfl
    rw [z, Bool.false_or]
    exact kitAny_cons (kit_ty hk') (fun z' => by rw [z']; rfl) fun z' => z'⟩
end
end Py

/-! ### try with several clauses, each with or without a name -/
namespace Py
open PySem PySem.Spec PyProof.Rows L2
open PySem.W (Frag)
open Evl (Ex tCut pss_cut)
abbrev Cl := Value × Option Nat × (Addr → Value → Option Addr → TS)
/-- the slot of a clause's name is free again -/
def unE (i : Nat) (D : Ends) : Ends := ⟨fun σ H => D.nx (σ.set i none) H, D.rt, fun σ H => D.bk (σ.set i none) H, fun σ H => D.ct (σ.set i none) H⟩
/-- a clause's suite -/
def clRun (D : Ends) (a : Addr) (cls : Value) (d : Option Addr) : Option Nat → (Addr → Value → Option Addr → TS) → TS
  | none, ts => fun _ σ H => ts a cls d D σ H
  | some i, ts => fun _ σ H => ts a cls d (unE i D) (σ.set i (some (.ref a))) H
def wMk (K : Frag) (Wo : WX) (D : Ends) : List Cl → WX
  | [] => Wo
  | (c, oi, ts) :: l => fun cls d σ H => ∃ b, PySem.W.exmOne K cls c = some b ∧ (b = true → ∀ a, H a = none → clRun D a cls d oi ts D σ H) ∧ (b = false → wMk K Wo D l cls d σ H)
inductive Cls10 (X : Cx) : List ExceptHandler → List Cl → Prop
  | nil : Cls10 X [] []
  | cons {x : Str} {c : Value} {ts : Addr → Value → Option Addr → TS} {st : Stmt} {sts : List Stmt} {p1 p2 : Pos} {hs : List ExceptHandler} {l : List Cl} (hc : Names X x c)
      (hq : ∀ (a : Addr) (oe : Obj) (cls : Value) (d : Option Addr) (pn : List (Addr × Obj)), Zc cls d oe → (∃ vs, oe.data = .fields vs) → PSs (X.suite a ((a, oe) :: pn)) (st :: sts) (ts a cls d)) (r : Cls10 X hs l) :
      Cls10 X (.ExceptHandler (some (.Name x p1)) none (st :: sts) p2 :: hs) ((c, none, ts) :: l)
  | as_ {x n : Str} {i : Nat} {c : Value} {ts : Addr → Value → Option Addr → TS} {st : Stmt} {sts : List Stmt} {p1 p2 : Pos} {hs : List ExceptHandler} {l : List Cl} (hi : X.N[i]? = some n) (hl : X.env.kindOf n = some .local) (hc : Names X x c)
      (hq : ∀ (a : Addr) (oe : Obj) (cls : Value) (d : Option Addr) (pn : List (Addr × Obj)), Zc cls d oe → (∃ vs, oe.data = .fields vs) → PSs (X.suite a ((a, oe) :: pn)) (st :: sts) (ts a cls d)) (r : Cls10 X hs l) :
      Cls10 X (.ExceptHandler (some (.Name x p1)) (some n) (st :: sts) p2 :: hs) ((c, some i, ts) :: l)
/-- a try with clauses l, what its body wishes of errors comes from them -/
def tTry10 (K : Frag) (Wo : WX) (tb : WX → TS) (l : List Cl) : TS := fun D σ H => tb (wMk K Wo D l) D σ H
section
variable {X : Cx} {body : List Stmt} {h₀ : ExceptHandler} {hds : List ExceptHandler} {l : List Cl} {pos : Pos} {tb : WX → TS} {Wo : WX}
theorem ps_tryMk (hs : X.stack = X.env :: X.outer) (hf : X.env.frame = some X.env.locals) (hN : X.N.Nodup) (tk : Takes X Wo)
    (hb : ∀ (W : WX) (pn : List (Addr × Obj)) (xe : Value → Shared → Prop), Takes (X.tr pn xe) W → PassesOwn (model X.prog X.w) X.A X.env xe → PSs (X.tr pn xe) body (tb W))
    (hh : Cls10 X (h₀ :: hds) l) : PS X (.Try body (h₀ :: hds) [] [] pos) (tTry10 X.K Wo tb l) := by
  refine ⟨fun pins s σ H D I hgo => ?_⟩
  have good := I.ok
  have frm : X.A.frames = some (X.env :: X.outer) := by rw [good.frames, hs]
  refine wpAny_Try_except ?_
  refine wpAny_mono ((hb (wMk X.K Wo D l) (X.pn ++ pins) (fun e t1 => wpAny (model X.prog X.w) X.A (noteFrame e X.env) (fun _ t2 => wpAny (model X.prog X.w) X.A (setFlight e none) (fun _ t3 =>
    wpAny (model X.prog X.w) X.A (handleBy e X.env (h₀ :: hds)) (SP X pins D) X.xe t3) X.xe t2) X.xe t1) (fun u t1 fly => ?_) PassesOwn.looking).run [] s σ H D (I.toTry _) hgo) (fun f t1 done => ?_) (fun e t1 he => he)
  · obtain ⟨a, B, sI, pins', σ', H', cls, d, rfl, Jt, nb, up, sky, na, eos, ag, wish⟩ := fly
    have J : Inv X pins σ' H' sI := Jt.ofTry good
    have sky2 : Sky B (X.env :: X.outer) a (Zc cls d) X.env.locals t1.heap := by rw [← hs]; exact sky
    show wpAny (model X.prog X.w) X.A (noteFrame (.ref a) X.env) _ _ _
    refine Sky.land Zc.steady frm hf sky2 fun g3 fl up3 => ?_
    have J3 : Inv X pins σ' H' { t1 with heap := g3 } := J.landed nb fl.1 (up.trans up3) eos ag
    obtain ⟨oe, ve, atE, zE, dE⟩ := fl.there
    have off : a ∉ frs (X.env :: X.outer) := fun hm => by
      obtain ⟨_, o', e', hnf⟩ := fl.2.2.1.mem hm
      rw [atE] at e'
      cases e'
      exact hnf _ dE
    have nL : a ≠ X.env.locals := fun z => off (List.mem_filterMap.mpr ⟨X.env, List.mem_cons_self, by rw [hf, z]⟩)
    have nF : a ∉ X.fs := fun hm => by
      obtain ⟨e, he, q⟩ := List.mem_filterMap.mp hm
      exact off (List.mem_filterMap.mpr ⟨e, List.mem_cons_of_mem _ he, q⟩)
    have Su := J3.suite atE dE na nL nF
    have look : PySem.W.Looks (model X.prog X.w) g3 (typeOf (.ref a)) cls := fun A Q E s k q => wpAny_typeOf_ref (k _ _ atE) (by rw [zE.1]; exact q)
    have named : ∀ {x : Str} {c : Value} {p1 : Pos} {Q E : Value → Shared → Prop}, Names X x c → Q c { t1 with heap := g3 } → wpAny (model X.prog X.w) (X.A.mark (some (.ref a))) (eval (.Name x p1) X.env) Q E { t1 with heap := g3 } := fun {x c p1 Q E} nm q => by
      obtain ⟨y1, y2, y3 | ⟨y3, y4, y5⟩⟩ := nm
      · exact ld_glob (X := X.suite a ((a, oe) :: (X.pn ++ pins))) Su y1 y3 q y2
      · exact ld_blt (X := X.suite a ((a, oe) :: (X.pn ++ pins))) Su y1 y3 y4 q y5 y2
    have each : ∀ {hs' : List ExceptHandler} {l' : List Cl}, Cls10 X hs' l' → wMk X.K Wo D l' cls d σ' H' → wpAny (model X.prog X.w) X.A (handleBy (.ref a) X.env hs') (SP X pins D) X.xe { t1 with heap := g3 } := by
      intro hs' l' hk
      induction hk with
      | nil =>
        intro w
        refine wpAny_handleBy_nil ?_
        obtain ⟨_, _, _, o2, v2, T2, oT, ts', he, _, hd, h1, _⟩ := id fl
        unfold PySem.passOn
        refine wpAny_bind (wpAny_field he hd h1 ?_)
        rw [if_neg (show ¬ ((Value.ref T2 == Value.none) = true) from by simp)]
        have thrown : wpAny (model X.prog X.w) X.A (setFlight (.ref a) X.env.frame) (fun _ t4 => wpAny (model X.prog X.w) X.A (throw (.ref a) : Sem Flow) (SP X pins D) X.xe t4) X.xe { t1 with heap := g3 } := by
          rw [hf]
          exact HandSPX.setFlight_upZ fl fun h4 z4 up4 => wpAny_throw (tk _ _ ⟨a, B, sI, pins, σ', H', cls, d, rfl, J, nb, (up.trans up3).trans up4, .inr (.inr (by rw [hs]; exact z4)), na, eos, ag, w⟩)
        first
          | exact wpAny_bind (wpAny_pure (wpAny_bind thrown))
          | exact wpAny_bind thrown
      | @cons x c ts st sts p1 p2 hs2 l2 hc hq r ih =>
        intro ⟨b, hb1, yes, no⟩
        refine wpAny_handleBy_cons (codeAny_handlers_test ?_) (by intro q; cases q)
        refine named hc ((PySem.W.exm_one (M := model X.prog X.w) (J3.kIn) look hb1).here ?_)
        cases b with
        | false =>
          show wpAny _ X.A (handleBy (.ref a) X.env hs2) _ _ _
          exact ih (no rfl)
        | true =>
          refine codeAny_handlers_suite ?_
          refine HandSPX.lands_againZ fl fun h4 fl4 up4 => ?_
          have J4 : Inv X pins σ' H' { t1 with heap := h4 } := J.landed nb fl4.1 ((up.trans up3).trans up4) eos ag
          obtain ⟨o4, v4, at4, z4, d4⟩ := fl4.there
          have S4 := J4.suite at4 d4 na nL nF
          refine wpAny_mono ((hq a o4 cls d (X.pn ++ pins) z4 ⟨_, d4⟩).run [] _ _ H' _ S4 (yes rfl a na)) (fun f t6 done => ?_) (fun _ _ z => False.elim z)
          cases f with
          | next => obtain ⟨σ6, H6, S6, q6⟩ := done; exact ⟨_, _, S6.unsuite good, q6⟩
          | brk => obtain ⟨σ6, H6, S6, q6⟩ := done; exact ⟨_, _, S6.unsuite good, q6⟩
          | cont => obtain ⟨σ6, H6, S6, q6⟩ := done; exact ⟨_, _, S6.unsuite good, q6⟩
          | ret u => obtain ⟨v6, σ6, H6, S6, r6, q6⟩ := done; exact ⟨_, _, _, S6.unsuite good, r6, q6⟩
      | @as_ x n i c ts st sts p1 p2 hs2 l2 hi hl hc hq r ih =>
        intro ⟨b, hb1, yes, no⟩
        have hloc : Loc X.env.scope n := .inl hl
        refine wpAny_handleBy_cons (codeAny_handlers_test ?_) (by intro q; cases q)
        refine named hc ((PySem.W.exm_one (M := model X.prog X.w) (J3.kIn) look hb1).here ?_)
        cases b with
        | false =>
          show wpAny _ X.A (handleBy (.ref a) X.env hs2) _ _ _
          exact ih (no rfl)
        | true =>
          refine codeAny_handlers_suite_as ?_
          refine HandSPX.lands_againZ fl fun h4 fl4 up4 => ?_
          have J4 : Inv X pins σ' H' { t1 with heap := h4 } := J.landed nb fl4.1 ((up.trans up3).trans up4) eos ag
          obtain ⟨o4, v4, at4, z4, d4⟩ := fl4.there
          have S4 := J4.suite at4 d4 na nL nF
          refine store_ok (X := X.suite a ((a, o4) :: (X.pn ++ pins))) (v := .ref a) S4 hN hi hloc rfl (fun s5 S5 => ?_) (.inr hl)
          have gone : ∀ {s6 : Shared} {σ6 : L2.St} {H6 : Hp} {Q : Shared → Prop}, Inv (X.suite a ((a, o4) :: (X.pn ++ pins))) [] σ6 H6 s6 → (∀ s7, Inv X pins (σ6.set i none) H6 s7 → Q s7) →
              wpAny (model X.prog X.w) X.A (do bindName X.env n .none; unbindBehindTheSuite X.env n p2) (fun _ s7 => Q s7) X.xe s6 := fun {s6 σ6 H6 Q} S6 hq => gone_ok (S6.unsuite good) hN hi hl hq
          refine wpAny_mono ((hq a o4 cls d (X.pn ++ pins) z4 ⟨_, d4⟩).run [] s5 _ H' _ S5 (yes rfl a na)) (fun f t6 done => ?_) (fun _ _ z => False.elim z)
          cases f with
          | next => obtain ⟨σ6, H6, S6, q6⟩ := done; exact gone S6 fun s7 J7 => ⟨_, _, J7, q6⟩
          | brk => obtain ⟨σ6, H6, S6, q6⟩ := done; exact gone S6 fun s7 J7 => ⟨_, _, J7, q6⟩
          | cont => obtain ⟨σ6, H6, S6, q6⟩ := done; exact gone S6 fun s7 J7 => ⟨_, _, J7, q6⟩
          | ret u => obtain ⟨v6, σ6, H6, S6, r6, q6⟩ := done; exact gone S6 fun s7 J7 => ⟨_, _, _, J7, r6, q6⟩
    exact each hh wish
  · cases f with
    | next => obtain ⟨σ', H', Jt, q⟩ := done; exact wpAny_execs_nil ⟨σ', H', Jt.ofTry good, q⟩
    | brk => obtain ⟨σ', H', Jt, q⟩ := done; exact ⟨σ', H', Jt.ofTry good, q⟩
    | cont => obtain ⟨σ', H', Jt, q⟩ := done; exact ⟨σ', H', Jt.ofTry good, q⟩
    | ret u => obtain ⟨v, σ', H', Jt, r, q⟩ := done; exact ⟨v, σ', H', Jt.ofTry good, r, q⟩
end
/-! the same, told by states -/
section
variable {W : Wd} {s s0 s' s1 s2 s3 : S} {ta te : TE} {r : Slot} {x : D} {D₀ D₁ : Ends} {t u : TS} {tb : WX → TS} {Wo X : WX} {l : List Cl} {C : Addr} {c : Value} {fs : List (Str × D)} {i : Nat} {ts : Addr → Value → Option Addr → TS}
theorem go_try (s2 : S) (h : Go W s (tb (wMk W.K Wo { D₀ with nx := NxP W s2 } l)) { D₀ with nx := NxP W s2 }) (k : Go W s2 u D₀) : Go W s (tCut (tTry10 W.K Wo tb l) u) D₀ := fun σ H g =>
  ⟨NxP W s2, h σ H g, fun σ' H' g' => k σ' H' g'⟩
/-- a try none of whose ways falls through -/
theorem go_tryE (h : Go W s (tb (wMk W.K Wo { D₀ with nx := fun _ _ => False } l)) { D₀ with nx := fun _ _ => False }) : Go W s (tCut (tTry10 W.K Wo tb l) u) D₀ := fun σ H g =>
  ⟨fun _ _ => False, h σ H g, fun _ _ z => z.elim⟩
theorem xok_skip {oi : Option Nat} (e : PySem.W.exmOne W.K (.ref C) c = some false) (h : XOk W (wMk W.K Wo D₁ l) C fs s) : XOk W (wMk W.K Wo D₁ ((c, oi, ts) :: l)) C fs s := fun d σ H g =>
  ⟨false, e, (fun z => nomatch z), fun _ => h d σ H g⟩
theorem xok_hit (e : PySem.W.exmOne W.K (.ref C) c = some true) (h : ∀ a dd, Go W ⟨s.sl, s.own, (.ref dd, .d (.xd fs)) :: s.tmp⟩ (ts a (.ref C) (some dd)) D₁) : XOk W (wMk W.K Wo D₁ ((c, none, ts) :: l)) C fs s := fun d σ H ⟨G, g⟩ =>
  ⟨true, e, fun _ a ha => h a d _ _ ⟨G, g.pin⟩, fun z => nomatch z⟩
theorem xok_as (e : PySem.W.exmOne W.K (.ref C) c = some true) (h : ∀ a dd, Go W ⟨s.sl.set i (.v (.ref a)), s.own, (.ref dd, .d (.xd fs)) :: s.tmp⟩ (ts a (.ref C) (some dd)) (unE i D₁)) : XOk W (wMk W.K Wo D₁ ((c, some i, ts) :: l)) C fs s := fun d σ H ⟨G, g⟩ =>
  ⟨true, e, fun _ a ha => h a d _ _ ⟨G, g.pin.set rfl⟩, fun z => nomatch z⟩
theorem SatG.unset {xt : Tmp} {σ : L2.St} {H G : Hp} {i : Nat} (h : SatG W s xt σ H G) : SatG W ⟨s.sl.set i .any, s.own, s.tmp⟩ xt (σ.set i none) H G := by
  refine ⟨h.g0, h.gh, h.new, h.keep, h.stay, by rw [List.length_set, List.length_set, h.len], fun j y hy => ?_, h.tmps, h.own, h.nd⟩
  by_cases e : j = i
  · subst e
    by_cases hj : j < s.sl.length
    · rw [List.getElem?_set_self hj] at hy
      cases hy
      exact True.intro
    · rw [List.getElem?_eq_none (by rw [List.length_set]; omega)] at hy
      cases hy
  · rw [List.getElem?_set_ne (Ne.symm e)] at hy
    have e2 : (σ.set i none).getD j none = σ.getD j none := by
      rw [List.getD_eq_getElem?_getD, List.getD_eq_getElem?_getD, List.getElem?_set_ne (Ne.symm e)]
    rw [e2]
    exact h.slot j y hy
/-- a suite's end, its name free again -/
theorem go_nxU {D : Ends} (w : Weak W ⟨s.sl.set i .any, s.own, s.tmp⟩ s1) (e : D.nx = fun σ H => NxP W s1 (σ.set i none) H) : Go W s tNext D := fun σ H ⟨G, g⟩ => by
  show D.nx σ H
  rw [e]
  exact w _ _ _ ⟨G, g.unset⟩
/-- err.f in a suite -/
theorem ev_xf {a dd : Addr} {f : Str} (h : Ev W te s (.v (.ref a)) s') (hm : (V.ref dd, Slot.d (.xd fs)) ∈ s'.tmp) (hf : fs.lookup f = some x) : Ev W (tXf a (.ref C) (some dd) C f te) s (.d x) s' := fun xt σ H g Q q =>
  h xt σ H g _ fun v H1 ⟨G, g1⟩ => by
    obtain rfl := Slot.vinv g1.top
    obtain ⟨p, gs, e1, e2, e3⟩ := rp_xd_inv (Slot.inv (g1.tmps (V.ref dd, Slot.d (.xd fs)) (List.mem_append_right _ hm)))
    cases e1
    obtain ⟨w, e4, e5⟩ := e3.look hf
    exact ⟨rfl, rfl, dd, gs, w, rfl, g1.gh _ _ e2, e4, finD q g1.pop e5⟩
end
/-- a state that never is -/
def S.no : S := ⟨[], [((0 : Addr), .lst []), ((0 : Addr), .lst [])], []⟩
theorem go_no {W : Wd} {t : TS} {D : Ends} : Go W S.no t D := fun σ H ⟨G, g⟩ => by
  have nd := g.nd
  simp [S.no] at nd
section
variable {W : Wd} {s s' s0 s1 : S} {te : TE} {tr : TA} {X : WX} {C : Addr} {fs : List (Str × D)} {D₀ : Ends} {t u : TS} {j : Nat}
theorem ex_cb1 {rr : List V → Hp → VK → Prop} (h : EvX W te X s C fs s') : EvX W (tCB rr (tCons te tr)) X s C fs s' := fun xt σ H g k Q => h xt σ H g k _
/-! ### loops whose own things may lie anywhere -/
/-- one of these states -/
def NxE (W : Wd) (P : S → Prop) : L2.St → Hp → Prop := fun σ H => ∃ s, P s ∧ Sat W s [] σ H
theorem go_nxE {D : Ends} {P : S → Prop} (s1 : S) (w : Weak W s s1) (hp : P s1) (e : D.nx = NxE W P) : Go W s tNext D := fun σ H g => by
  show D.nx σ H
  rw [e]
  exact ⟨s1, hp, w _ _ _ g⟩
theorem go_forR1E {m : Int} (I : Nat → S → Prop) (h : EvA W tr s [.d (.int m)] s0) (hm : m ≤ 1000000000) (h0 : I 0 s0)
    (hb : ∀ (i : Nat) (s1 : S), (i : Int) < m → I i s1 → Go W ⟨s1.sl.set j (.d (.int i)), s1.own, s1.tmp⟩ t { D₀ with nx := NxE W (I (i + 1)), ct := NxE W (I (i + 1)), bk := fun σ H => u D₀ σ H })
    (k : ∀ s1, I m.toNat s1 → Go W s1 u D₀) (hm0 : -1000000000 ≤ m := by omega) : Go W s (tCut (tFor (iRng1 tr) (gName j) t) u) D₀ := fun σ H gg => by
  refine ⟨fun σ' H' => u D₀ σ' H', ?_, fun _ _ z => z⟩
  refine h [] σ H gg _ fun vs H1 hl ⟨G1, g1⟩ => ?_
  obtain ⟨v0, rfl⟩ : ∃ v0, vs = [v0] := by
    match vs, hl with
    | [v0], _ => exact ⟨v0, rfl⟩
  have ev : v0 = .int m := rp_int_inv (SatG.topD (xt := []) (by simpa using g1))
  subst ev
  refine ⟨m, rfl, by omega, by omega, ?_⟩
  refine ⟨fun i n σ H => n = m.toNat - i ∧ i ≤ m.toNat ∧ NxE W (I i) σ H, ⟨m.toNat, by simp, Nat.zero_le _, s0, h0, ⟨G1, g1.pops⟩⟩, ?_⟩
  rintro i n σ2 H2 ⟨rfl, hi, s2, p2, G2, g2⟩
  by_cases hlt : i < m.toNat
  · refine .inr ⟨hlt, NxE W (I (i + 1)), fun σ' H' q => ⟨m.toNat - (i + 1), by omega, rfl, hlt, q⟩, fun w H' ⟨eH, ex⟩ => ?_⟩
    subst eH ex
    refine hb i s2 (by omega) p2 _ _ ⟨G2, g2.set ⟨_, rfl, ?_⟩⟩
    rw [Int.zero_add]
    exact rp_int
  · have e : i = m.toNat := by omega
    subst e
    exact .inl ⟨Nat.le_refl _, k s2 p2 _ _ ⟨G2, g2⟩⟩
end
/-- states up to a place, none behind it -/
theorem upto (n : Nat) (f : Nat → S) : ∃ I : Nat → S, (∀ i, i ≤ n → I i = f i) ∧ ∀ i, n < i → I i = S.no := ⟨fun i => if i ≤ n then f i else S.no, fun i h => if_pos h, fun i h => if_neg (by omega)⟩
/-- one's own list, from here on a datum -/
theorem ev_vfrz {W : Wd} {s s1 : S} {te : TE} {p : Addr} {k : Nat} {xs : List D} (h : Ev W te s (.v (.ref p)) s1) (hk : s1.own[k]? = some (p, .lst xs)) : Ev W te s (.d (.lst xs)) ⟨s1.sl, s1.own.eraseIdx k, s1.tmp⟩ := fun xt σ H g Q q =>
  h xt σ H g Q fun v H1 ⟨G, g1⟩ => by
    obtain rfl := Slot.vinv g1.top
    obtain ⟨vs, hp, hr, _, g2⟩ := g1.freeze hk
    exact finD q (G := upd G p (.lst vs)) g2.pop (rp_lst upd_same hr)
/-! rules that read the written part, for blocks -/
section
variable {X : Cx} {K : Frag}
theorem lstK (e : X.K = K) : CallR X (.type "list") (rListQ K) := by subst e; exact call_list_of
theorem tupK (e : X.K = K) : CallR X (.type "tuple") (rTupQ K) := by subst e; exact call_tuple_of
theorem lenK (e : X.K = K) : CallR X (.builtin "len") (rLenQ K) := by subst e; exact call_len_seq
theorem inK (e : X.K = K) : OpR X (compareOp .In) (rIn K false) := by subst e; exact op_in_seq
theorem ninK (e : X.K = K) : OpR X (compareOp .NotIn) (rIn K true) := by subst e; exact op_notIn_seq
theorem ixlK (e : X.K = K) : IxR X (rIxL K) := by subst e; exact ix_list
theorem ixtK (e : X.K = K) : IxR X (rIxT K) := by subst e; exact ix_tup
theorem sumK (hc : X.calm = true) (e : X.K = K) : CallR X (.builtin "sum") (rSumA K) := by subst e; exact cr_sumA hc
theorem srtK (e : X.K = K) : CallR X (.builtin "sorted") (rSortedA K) := by subst e; exact cr_sortedA
end
end Py

namespace K83
open PySem PySem.Spec PyProof.Rows L2 Py
def top (i : Nat) : Stmt := PySem.Challenge.pw_landings_k83_whole_ways_into_any_weights.main.body.getD i (.Pass ⟨0, 0, 0, 0⟩)
abbrev s_BadRow___init__ : Stmt := inClass (top 2) 0
abbrev s_BadSet___init__ : Stmt := inClass (top 3) 0
abbrev s_BadWeights___init__ : Stmt := inClass (top 4) 0
abbrev s_is_whole : Stmt := top 6
abbrev s_is_row : Stmt := top 7
abbrev s__place_set : Stmt := top 9
abbrev s_ways_into : Stmt := top 10
abbrev s_starts_of : Stmt := top 11
abbrev s__law_draws : Stmt := top 13
abbrev s__law_take : Stmt := top 14
abbrev s__law_great : Stmt := top 15
abbrev s__law_whole : Stmt := top 16
abbrev s__law_wholes : Stmt := top 17
abbrev s__law_places : Stmt := top 18
abbrev s__law_behind : Stmt := top 19
abbrev s__law_played : Stmt := top 20
abbrev s__law_all_rows : Stmt := top 21
abbrev s__law_all_sets : Stmt := top 22
abbrev s__law_counted : Stmt := top 23
abbrev s__law_product : Stmt := top 24
abbrev s__law_one_way : Stmt := top 25
abbrev s__law_weights : Stmt := top 26
abbrev s__law_trouble : Stmt := top 27
abbrev s__law_refusals : Stmt := top 28
abbrev s__law_great_ways : Stmt := top 29
abbrev s_law : Stmt := top 30
def d_BadRow___init__ : He5.DefA := { at_ := fun K => He.ma K (He.ga K "BadRow") "__init__", name := "__init__", qual := "BadRow.__init__", params := defArgs s_BadRow___init__, body := defBody s_BadRow___init__, scope := defScope s_BadRow___init__ }
def d_BadSet___init__ : He5.DefA := { at_ := fun K => He.ma K (He.ga K "BadSet") "__init__", name := "__init__", qual := "BadSet.__init__", params := defArgs s_BadSet___init__, body := defBody s_BadSet___init__, scope := defScope s_BadSet___init__ }
def d_BadWeights___init__ : He5.DefA := { at_ := fun K => He.ma K (He.ga K "BadWeights") "__init__", name := "__init__", qual := "BadWeights.__init__", params := defArgs s_BadWeights___init__, body := defBody s_BadWeights___init__, scope := defScope s_BadWeights___init__ }
def d_is_whole : He5.DefA := { at_ := fun K => He.ga K "is_whole", name := "is_whole", qual := "is_whole", params := defArgs s_is_whole, body := defBody s_is_whole, scope := defScope s_is_whole }
def d_is_row : He5.DefA := { at_ := fun K => He.ga K "is_row", name := "is_row", qual := "is_row", params := defArgs s_is_row, body := defBody s_is_row, scope := defScope s_is_row }
def d__place_set : He5.DefA := { at_ := fun K => He.ga K "_place_set", name := "_place_set", qual := "_place_set", params := defArgs s__place_set, body := defBody s__place_set, scope := defScope s__place_set }
def d_ways_into : He5.DefA := { at_ := fun K => He.ga K "ways_into", name := "ways_into", qual := "ways_into", params := defArgs s_ways_into, body := defBody s_ways_into, scope := defScope s_ways_into }
def d_starts_of : He5.DefA := { at_ := fun K => He.ga K "starts_of", name := "starts_of", qual := "starts_of", params := defArgs s_starts_of, body := defBody s_starts_of, scope := defScope s_starts_of }
def d__law_draws : He5.DefA := { at_ := fun K => He.ga K "_law_draws", name := "_law_draws", qual := "_law_draws", params := defArgs s__law_draws, body := defBody s__law_draws, scope := defScope s__law_draws }
def d__law_take : He5.DefA := { at_ := fun K => He.ga K "_law_take", name := "_law_take", qual := "_law_take", params := defArgs s__law_take, body := defBody s__law_take, scope := defScope s__law_take }
def d__law_great : He5.DefA := { at_ := fun K => He.ga K "_law_great", name := "_law_great", qual := "_law_great", params := defArgs s__law_great, body := defBody s__law_great, scope := defScope s__law_great }
def d__law_whole : He5.DefA := { at_ := fun K => He.ga K "_law_whole", name := "_law_whole", qual := "_law_whole", params := defArgs s__law_whole, body := defBody s__law_whole, scope := defScope s__law_whole }
def d__law_wholes : He5.DefA := { at_ := fun K => He.ga K "_law_wholes", name := "_law_wholes", qual := "_law_wholes", params := defArgs s__law_wholes, body := defBody s__law_wholes, scope := defScope s__law_wholes }
def d__law_places : He5.DefA := { at_ := fun K => He.ga K "_law_places", name := "_law_places", qual := "_law_places", params := defArgs s__law_places, body := defBody s__law_places, scope := defScope s__law_places }
def d__law_behind : He5.DefA := { at_ := fun K => He.ga K "_law_behind", name := "_law_behind", qual := "_law_behind", params := defArgs s__law_behind, body := defBody s__law_behind, scope := defScope s__law_behind }
def d__law_played : He5.DefA := { at_ := fun K => He.ga K "_law_played", name := "_law_played", qual := "_law_played", params := defArgs s__law_played, body := defBody s__law_played, scope := defScope s__law_played }
def d__law_all_rows : He5.DefA := { at_ := fun K => He.ga K "_law_all_rows", name := "_law_all_rows", qual := "_law_all_rows", params := defArgs s__law_all_rows, body := defBody s__law_all_rows, scope := defScope s__law_all_rows }
def d__law_all_sets : He5.DefA := { at_ := fun K => He.ga K "_law_all_sets", name := "_law_all_sets", qual := "_law_all_sets", params := defArgs s__law_all_sets, body := defBody s__law_all_sets, scope := defScope s__law_all_sets }
def d__law_counted : He5.DefA := { at_ := fun K => He.ga K "_law_counted", name := "_law_counted", qual := "_law_counted", params := defArgs s__law_counted, body := defBody s__law_counted, scope := defScope s__law_counted }
def d__law_product : He5.DefA := { at_ := fun K => He.ga K "_law_product", name := "_law_product", qual := "_law_product", params := defArgs s__law_product, body := defBody s__law_product, scope := defScope s__law_product }
def d__law_one_way : He5.DefA := { at_ := fun K => He.ga K "_law_one_way", name := "_law_one_way", qual := "_law_one_way", params := defArgs s__law_one_way, body := defBody s__law_one_way, scope := defScope s__law_one_way }
def d__law_weights : He5.DefA := { at_ := fun K => He.ga K "_law_weights", name := "_law_weights", qual := "_law_weights", params := defArgs s__law_weights, body := defBody s__law_weights, scope := defScope s__law_weights }
def d__law_trouble : He5.DefA := { at_ := fun K => He.ga K "_law_trouble", name := "_law_trouble", qual := "_law_trouble", params := defArgs s__law_trouble, body := defBody s__law_trouble, scope := defScope s__law_trouble }
def d__law_refusals : He5.DefA := { at_ := fun K => He.ga K "_law_refusals", name := "_law_refusals", qual := "_law_refusals", params := defArgs s__law_refusals, body := defBody s__law_refusals, scope := defScope s__law_refusals }
def d__law_great_ways : He5.DefA := { at_ := fun K => He.ga K "_law_great_ways", name := "_law_great_ways", qual := "_law_great_ways", params := defArgs s__law_great_ways, body := defBody s__law_great_ways, scope := defScope s__law_great_ways }
def d_law : He5.DefA := { at_ := fun K => He.ga K "law", name := "law", qual := "law", params := defArgs s_law, body := defBody s_law, scope := defScope s_law }
def fn : List He5.DefA := [d_BadRow___init__, d_BadSet___init__, d_BadWeights___init__, d_is_whole, d_is_row, d__place_set, d_ways_into, d_starts_of, d__law_draws, d__law_take, d__law_great, d__law_whole, d__law_wholes, d__law_places, d__law_behind, d__law_played, d__law_all_rows, d__law_all_sets, d__law_counted, d__law_product, d__law_one_way, d__law_weights, d__law_trouble, d__law_refusals, d__law_great_ways, d_law]
def fa : List He.Fa := [.glo "LandingsError", .glo "BadRow", .glo "BadSet", .glo "BadWeights", .glo "is_whole", .glo "is_row", .glo "_place_set", .glo "ways_into", .glo "starts_of", .glo "_law_draws", .glo "_law_take", .glo "_law_great", .glo "_law_whole", .glo "_law_wholes", .glo "_law_places", .glo "_law_behind", .glo "_law_played", .glo "_law_all_rows", .glo "_law_all_sets", .glo "_law_counted", .glo "_law_product", .glo "_law_one_way", .glo "_law_weights", .glo "_law_trouble", .glo "_law_refusals", .glo "_law_great_ways", .glo "law", .free "ValueError", .free "bool", .free "int", .free "isinstance", .free "len", .free "list", .free "max", .free "min", .free "range", .free "reversed", .free "sorted", .free "sum", .free "tuple"]
def ex : List (PySem.W.Frag → Bool) := [fun K => oexB K (He.ga K "LandingsError"), fun K => oexB K (He.ga K "BadRow"), fun K => initB K (He.ga K "BadRow"), fun K => noB K (He.ga K "BadRow") "place", fun K => oexB K (He.ga K "BadSet"), fun K => initB K (He.ga K "BadSet"), fun K => noB K (He.ga K "BadSet") "place", fun K => oexB K (He.ga K "BadWeights"), fun K => initB K (He.ga K "BadWeights"), fun K => noB K (He.ga K "BadWeights") "place", fun K => exmB K (He.ga K "LandingsError") (He.ga K "BadRow") false, fun K => exmB K (He.ga K "BadRow") (He.ga K "BadRow") true, fun K => exmB K (He.ga K "BadSet") (He.ga K "BadRow") false, fun K => exmB K (He.ga K "BadWeights") (He.ga K "BadRow") false, fun K => exmB K (He.ga K "LandingsError") (He.ga K "BadSet") false, fun K => exmB K (He.ga K "BadRow") (He.ga K "BadSet") false, fun K => exmB K (He.ga K "BadSet") (He.ga K "BadSet") true, fun K => exmB K (He.ga K "BadWeights") (He.ga K "BadSet") false, fun K => exmB K (He.ga K "LandingsError") (He.ga K "BadWeights") false, fun K => exmB K (He.ga K "BadRow") (He.ga K "BadWeights") false, fun K => exmB K (He.ga K "BadSet") (He.ga K "BadWeights") false, fun K => exmB K (He.ga K "BadWeights") (He.ga K "BadWeights") true, fun K => xfB K (He.ga K "LandingsError"), fun K => xfB K (He.ga K "BadRow"), fun K => xfB K (He.ga K "BadSet"), fun K => xfB K (He.ga K "BadWeights")]
def hk : PySem.W.Hook := Py.hookL 4 fa fn ex
def ob (s : PySem.W.SharedT) : Py.AlL := Py.obsLG 4 fa fn ex (HandSHeadRun.getT s)
theorem ob_eq (s : PySem.W.SharedT) : ob s = hk.obs s.abs := Py.obsLG_eq (HandSHeadRun.getT_eq s)
def loose : List PySem.Str := (["LandingsError", "BadRow", "BadSet", "BadWeights", "is_whole", "is_row", "_place_set", "ways_into", "starts_of", "_law_draws", "_law_take", "_law_great", "_law_whole", "_law_wholes", "_law_places", "_law_behind", "_law_played", "_law_all_rows", "_law_all_sets", "_law_counted", "_law_product", "_law_one_way", "_law_weights", "_law_trouble", "_law_refusals", "_law_great_ways"] : List PySem.Str)
abbrev R : PySem.W.OpenRow := PySem.W.OpenLaw.row PySem.Challenge.rw_landings_k83_whole_ways_into_any_weights
theorem run (w : World) : HandSHeadRun.RunEq R (PySem.W.view R.prog [30]) hk ob 2000 loose w := by
  intro os
  kernel_rfl
end K83

namespace Py
/-! ### the draws -/
def digs : Nat → Int → List Int
  | 0, _ => []
  | n + 1, c => if 0 < c then (c % 30) :: digs n (c / 30) else digs n c
def numStep (a : Int) (t : Nat) (x : Int) : Int := (x * x + t * 613 + a * 17 + 1) % 1000003
def nums (a : Int) : Nat → Nat → Int → List Int
  | 0, _, _ => []
  | n + 1, t, x => numStep a t x :: nums a n (t + 1) (numStep a t x)
def cellD (a : Int) (c : Int) : List Int :=
  if 10 ^ 18 ≤ (if c < 0 then -c else c) then digs 48 (if c < 0 then -c else c)
  else nums a 6 0 (((if c < 0 then -c else c) * 7919 + a * 104729 + (if c < 0 then 1 else 0) * 31 + 5) % 999983)
def cellsD : Nat → List Int → List Int
  | _, [] => []
  | i, c :: r => cellD i c ++ cellsD (i + 1) r
/-- the draws of a script, the first to be taken last -/
def fwd (ns : List Int) : List Int := cellsD 0 (ns.take 63)
def digI : Nat → Int → Int
  | 0, c => c
  | n + 1, c => if 0 < digI n c then digI n c / 30 else digI n c
theorem digI_front : ∀ (n : Nat) (c : Int), digI (n + 1) c = digI n (if 0 < c then c / 30 else c)
  | 0, c => rfl
  | n + 1, c => by
    show (if 0 < digI (n + 1) c then digI (n + 1) c / 30 else digI (n + 1) c) = _
    rw [digI_front n c]
    rfl
theorem digs_end : ∀ (n : Nat) (c : Int), digs (n + 1) c = digs n c ++ (if 0 < digI n c then [digI n c % 30] else [])
  | 0, c => by
    show (if 0 < c then (c % 30) :: digs 0 (c / 30) else digs 0 c) = [] ++ _
    by_cases h : 0 < c
    · rw [if_pos h]
      show [c % 30] = (if 0 < c then [c % 30] else [])
      rw [if_pos h]
    · rw [if_neg h]
      show [] = (if 0 < c then [c % 30] else [])
      rw [if_neg h]
  | n + 1, c => by
    show (if 0 < c then (c % 30) :: digs (n + 1) (c / 30) else digs (n + 1) c) = (if 0 < c then (c % 30) :: digs n (c / 30) else digs n c) ++ _
    rw [digI_front]
    by_cases h : 0 < c
    · rw [if_pos h, if_pos h, if_pos h, digs_end n (c / 30)]
      rfl
    · rw [if_neg h, if_neg h, if_neg h, digs_end n c]
theorem digs_len : ∀ (n : Nat) (c : Int), (digs n c).length ≤ n
  | 0, _ => Nat.le_refl _
  | n + 1, c => by
    unfold digs
    split
    · rw [List.length_cons]
      have := digs_len n (c / 30)
      omega
    · have := digs_len n c
      omega
def numI (a : Int) : Nat → Nat → Int → Int
  | 0, _, x => x
  | n + 1, t, x => numStep a (t + n) (numI a n t x)
theorem numI_front (a : Int) : ∀ (n t : Nat) (x : Int), numI a (n + 1) t x = numI a n (t + 1) (numStep a t x)
  | 0, t, x => rfl
  | n + 1, t, x => by
    show numStep a (t + (n + 1)) (numI a (n + 1) t x) = numStep a (t + 1 + n) (numI a n (t + 1) (numStep a t x))
    rw [numI_front a n t x, show t + (n + 1) = t + 1 + n by omega]
theorem nums_end (a : Int) : ∀ (n t : Nat) (x : Int), nums a (n + 1) t x = nums a n t x ++ [numI a (n + 1) t x]
  | 0, t, x => rfl
  | n + 1, t, x => by
    show numStep a t x :: nums a (n + 1) (t + 1) (numStep a t x) = (numStep a t x :: nums a n (t + 1) (numStep a t x)) ++ _
    rw [nums_end a n (t + 1), numI_front a (n + 1) t x]
    rfl
theorem nums_len (a : Int) : ∀ (n t : Nat) (x : Int), (nums a n t x).length = n
  | 0, _, _ => rfl
  | n + 1, t, x => by
    unfold nums
    rw [List.length_cons, nums_len a n]
theorem numI_rng (a : Int) {x : Int} (h : 0 ≤ x ∧ x < 1000003) : ∀ (n t : Nat), 0 ≤ numI a n t x ∧ numI a n t x < 1000003
  | 0, _ => h
  | n + 1, t => ⟨Int.emod_nonneg _ (by decide), Int.emod_lt_of_pos _ (by decide)⟩
theorem cellD_len (i : Nat) (c : Int) : (cellD i c).length ≤ 48 := by
  unfold cellD
  by_cases h : 10 ^ 18 ≤ (if c < 0 then -c else c)
  · rw [if_pos h]
    exact digs_len _ _
  · rw [if_neg h, nums_len]
    decide
theorem cellsD_end : ∀ (l : List Int) (k : Nat) (c : Int), cellsD k (l ++ [c]) = cellsD k l ++ cellD ((k + l.length : Nat) : Int) c
  | [], k, c => by
    show cellD k c ++ [] = [] ++ cellD ((k + 0 : Nat) : Int) c
    simp
  | a :: l, k, c => by
    show cellD k a ++ cellsD (k + 1) (l ++ [c]) = (cellD k a ++ cellsD (k + 1) l) ++ cellD ((k + (l.length + 1) : Nat) : Int) c
    rw [cellsD_end l (k + 1) c, List.append_assoc, show k + 1 + l.length = k + (l.length + 1) by omega]
theorem cellsD_len : ∀ (l : List Int) (k : Nat), (cellsD k l).length ≤ 48 * l.length
  | [], _ => Nat.le_refl _
  | a :: l, k => by
    show (cellD k a ++ cellsD (k + 1) l).length ≤ 48 * (l.length + 1)
    rw [List.length_append]
    have := cellD_len k a
    have := cellsD_len l (k + 1)
    omega
theorem cmul64 {i j : Int} (h : -18446744073709551616 < i ∧ i < 18446744073709551616) (h' : -18446744073709551616 < j ∧ j < 18446744073709551616) : L2.CMulW i j :=
  L2.wide_mul (a := 64) (b := 64) (by omega) (by omega) (by decide) (by decide) (by decide)
theorem cdiv30 {i j : Int} (h : 0 < j ∧ j < 18446744073709551616) : L2.CDivW i j := L2.wide_div (b := 64) h.1 (by omega) (by decide) (by decide)
theorem take_one {α : Type} {l : List α} {i : Nat} {a : α} (h : l[i]? = some a) : l.take (i + 1) = l.take i ++ [a] := by
  rw [List.take_add_one, h]
  rfl
end Py
namespace Py
/-- what is a set, what surely is none (as the law asks) -/
structure GoodS (x : D) (ns : List Int) : Prop where
  sq : Sq x (ns.map D.int)
  nn : ∀ n, n ∈ ns → 0 ≤ n
  nd : ns.Nodup
  len : ns.length ≤ 1000
def BadP (x : D) : Prop := x = .non ∨ x = .int 0 ∨ x = .lst [.int 1, .int 1] ∨ x = .lst [.int (-1)] ∨ x = .lst [.bl true]
inductive RPs (K : PySem.W.Frag) (x : D) (w : Int) : Res → Prop where
  | ok {ns : List Int} : GoodS x ns → RPs K x w (.ret (.d (.tup ((srt ns).map D.int))) [])
  | bad : BadP x → RPs K x w (.exc (He.ga K "BadSet") [("place", .int w)] [])
/-- rows of weights -/
structure GoodW (k : Nat) (ms : List (List Int)) : Prop where
  row : ∀ m, m ∈ ms → m.length = k + 1
  sum : ∀ m, m ∈ ms → m.sum.natAbs < 2 ^ 60
  len : ms.length ≤ 1000
def prodL (ms : List (List Int)) : Int := (ms.map List.sum).foldl (· * ·) 1
def BadW (k : Nat) (x : D) : Prop := x = .non ∨ ∃ l, x = .lst l ∧ (l.length ≠ k + 1 ∨ (l.length = k + 1 ∧ ∃ ms : List Int, l = ms.map D.int ++ [.bl true]))
inductive RWi (K : PySem.W.Frag) (g w : D) : Res → Prop where
  | ok {ns : List Int} {ms : List (List Int)} {f : List D → D} : GoodS g ns → (∀ ds, Sq (f ds) ds) → Sq w (ms.map fun m => f (m.map D.int)) → GoodW ns.length ms → RWi K g w (.ret (.d (.int (prodL ms))) [])
  | badS : BadP g → RWi K g w (.exc (He.ga K "BadSet") [("place", .int 0)] [])
  | bad7 {ns : List Int} : GoodS g ns → w = .int 7 → RWi K g w (.exc (He.ga K "BadWeights") [("place", .int (-1))] [])
  | badW {ns : List Int} {ms : List (List Int)} {x : D} {rest : List D} : GoodS g ns → w = .lst ((ms.map fun m => .lst (m.map D.int)) ++ x :: rest) → rest.length ≤ 1000 → GoodW ns.length ms → BadW ns.length x → RWi K g w (.exc (He.ga K "BadWeights") [("place", .int ms.length)] [])
theorem fold_bd : ∀ (l : List Int) (a : Int) (n : Nat), (∀ x, x ∈ l → x.natAbs < 2 ^ 60) → a.natAbs < 2 ^ n → (l.foldl (· * ·) a).natAbs < 2 ^ (n + 60 * l.length)
  | [], a, n, _, h => by simpa using h
  | x :: l, a, n, hl, h => by
    have := fold_bd l (a * x) (n + 60) (fun y hy => hl y (List.mem_cons_of_mem _ hy)) (L2.wide_lt h (hl x List.mem_cons_self))
    rw [List.foldl_cons, List.length_cons, show n + 60 * (l.length + 1) = n + 60 + 60 * l.length by omega]
    exact this
set_option exponentiation.threshold 100000 in
theorem prodL_bd {k : Nat} {ms : List (List Int)} (h : GoodW k ms) : (prodL ms).natAbs < 2 ^ 60001 := by
  have := fold_bd (ms.map List.sum) 1 1 (fun x hx => by
    obtain ⟨m, hm, rfl⟩ := List.mem_map.mp hx
    exact h.sum m hm) (by decide)
  refine Nat.lt_of_lt_of_le this (Nat.pow_le_pow_right (by decide) ?_)
  have := h.len
  rw [List.length_map]
  omega
theorem prodL_snoc {ms : List (List Int)} {m : List Int} : prodL (ms ++ [m]) = prodL ms * m.sum := by
  unfold prodL
  rw [List.map_append, List.foldl_append]
  rfl
theorem GoodW.take {k : Nat} {ms : List (List Int)} (h : GoodW k ms) (i : Nat) : GoodW k (ms.take i) :=
  ⟨fun m hm => h.row m (List.mem_of_mem_take hm), fun m hm => h.sum m (List.mem_of_mem_take hm), by have := h.len; rw [List.length_take]; omega⟩
/-! starts of a set -/
def stepB (p : List Int × List Int) (b : Int) : List Int × List Int :=
  if b < p.1.length then (0 :: (p.1.map (· + 1)).eraseIdx ((p.1.length : Int) - 1 - b).toNat, p.2 ++ [((p.1.map (· + 1))[((p.1.length : Int) - 1 - b).toNat]?).getD 0]) else (p.1.map (· + 1), p.2 ++ [0])
def startsF (ns ms : List Int) : List Int × List Int := ms.reverse.foldl stepB (srt ns, [])
structure GoodN (k : Nat) (ms : List Int) : Prop where
  rng : ∀ m, m ∈ ms → 0 ≤ m ∧ m ≤ k
  len : ms.length ≤ 1000
def BadN (k : Nat) (x : D) : Prop := x = .non ∨ x = .bl true ∨ ∃ i : Int, x = .int i ∧ (i < 0 ∨ k < i)
inductive RSt (K : PySem.W.Frag) (g w : D) : Res → Prop where
  | ok {ns ms : List Int} : GoodS g ns → Sq w (ms.map D.int) → GoodN ns.length ms → RSt K g w (.ret (.d (.tup [.tup ((startsF ns ms).1.map D.int), .tup ((startsF ns ms).2.reverse.map D.int)])) [])
  | badS : BadP g → RSt K g w (.exc (He.ga K "BadSet") [("place", .int 0)] [])
  | bad0 {ns : List Int} : GoodS g ns → w = .non → RSt K g w (.exc (He.ga K "BadRow") [("place", .int (-1))] [])
  | badN {ns ms : List Int} {x : D} {rest : List D} : GoodS g ns → w = .lst (ms.map D.int ++ x :: rest) → rest.length ≤ 1000 → GoodN ns.length ms → BadN ns.length x → RSt K g w (.exc (He.ga K "BadRow") [("place", .int ms.length)] [])
inductive RTr (K : PySem.W.Frag) (a : Int) (g w : D) : D → Prop where
  | set0 {z : Int} : a = 0 → RSt K g w (.exc (He.ga K "BadSet") [("place", .int z)] []) → RTr K a g w (.tup [.str "set", .int z])
  | set1 {z : Int} : a = 1 → RWi K g w (.exc (He.ga K "BadSet") [("place", .int z)] []) → RTr K a g w (.tup [.str "set", .int z])
  | row {z : Int} : a = 0 → RSt K g w (.exc (He.ga K "BadRow") [("place", .int z)] []) → RTr K a g w (.tup [.str "row", .int z])
  | wts {z : Int} : a = 1 → RWi K g w (.exc (He.ga K "BadWeights") [("place", .int z)] []) → RTr K a g w (.tup [.str "weights", .int z])
theorem pick5 {P : D → Prop} {a b c d e : D} {i : Int} (h : 0 ≤ i ∧ i < 5) (ha : P a) (hb : P b) (hc : P c) (hd : P d) (he : P e) : ∃ x, L2.atI [a, b, c, d, e] i = some x ∧ P x := by
  have : i = 0 ∨ i = 1 ∨ i = 2 ∨ i = 3 ∨ i = 4 := by omega
  rcases this with rfl | rfl | rfl | rfl | rfl
  · exact ⟨_, rfl, ha⟩
  · exact ⟨_, rfl, hb⟩
  · exact ⟨_, rfl, hc⟩
  · exact ⟨_, rfl, hd⟩
  · exact ⟨_, rfl, he⟩
theorem pick4 {P : D → Prop} {a b c d : D} {i : Int} (h : 0 ≤ i ∧ i < 4) (ha : P a) (hb : P b) (hc : P c) (hd : P d) : ∃ x, L2.atI [a, b, c, d] i = some x ∧ P x := by
  have : i = 0 ∨ i = 1 ∨ i = 2 ∨ i = 3 := by omega
  rcases this with rfl | rfl | rfl | rfl
  · exact ⟨_, rfl, ha⟩
  · exact ⟨_, rfl, hb⟩
  · exact ⟨_, rfl, hc⟩
  · exact ⟨_, rfl, hd⟩
theorem rep_map {n : Nat} {x : D} : ((List.range n).filter fun _ => true).map (fun _ => x) = List.replicate n x := by
  rw [List.filter_eq_self.mpr fun _ _ => rfl]
  apply List.ext_getElem?
  intro i
  rw [List.getElem?_map, List.getElem?_replicate]
  by_cases h : i < n
  · rw [List.getElem?_range h, if_pos h]; rfl
  · rw [List.getElem?_eq_none (by simpa using h), if_neg h]; rfl
theorem cut_tail {α : Type} {a : α} {l : List α} : cut (a :: l) (some 1) none = l := by
  unfold cut
  rw [show HT.sIx (a :: l).length 0 (some (1 : Int)) = 1 from by
    have := HT.sIx_nat (a :: l).length 0 1
    rw [List.length_cons] at this ⊢
    simpa using this, HT.sIx_none]
  simp
theorem stepB_len {p : List Int × List Int} {b : Int} (h : 0 ≤ b) : (stepB p b).1.length = p.1.length ∧ (stepB p b).2.length = p.2.length + 1 := by
  unfold stepB
  by_cases hb : b < p.1.length
  · rw [if_pos hb]
    dsimp only
    rw [List.length_cons, List.length_eraseIdx_of_lt (by rw [List.length_map]; omega), List.length_map, List.length_append]
    refine ⟨by omega, rfl⟩
  · rw [if_neg hb]
    dsimp only
    rw [List.length_map, List.length_append]
    exact ⟨rfl, rfl⟩
theorem foldB_len : ∀ (l : List Int) (p : List Int × List Int), (∀ b, b ∈ l → 0 ≤ b) → (l.foldl stepB p).1.length = p.1.length ∧ (l.foldl stepB p).2.length = p.2.length + l.length
  | [], p, _ => ⟨rfl, rfl⟩
  | b :: l, p, h => by
    have h1 := stepB_len (p := p) (h b List.mem_cons_self)
    have h2 := foldB_len l (stepB p b) fun c hc => h c (List.mem_cons_of_mem _ hc)
    rw [List.foldl_cons, h2.1, h2.2, h1.1, h1.2, List.length_cons]
    exact ⟨rfl, by omega⟩
theorem map_erase {α β : Type} {f : α → β} : ∀ {l : List α} {i : Nat}, (l.eraseIdx i).map f = (l.map f).eraseIdx i
  | [], _ => rfl
  | _ :: _, 0 => rfl
  | a :: l, i + 1 => by
    show f a :: (l.eraseIdx i).map f = f a :: (l.map f).eraseIdx i
    rw [map_erase]
theorem srt_nd {ns : List Int} (h : ns.Nodup) : (srt ns).Pairwise (· < ·) := by
  have h1 := srt_sorted ns
  have h2 : (srt ns).Nodup := (srt_perm ns).nodup_iff.mpr h
  exact (List.Pairwise.and h1 h2).imp fun ⟨a, b⟩ => by omega
end Py
namespace Py
def great (ns : List Int) (a lim : Int) : Int := ((ns[a.toNat]?).getD 0) % (2 * lim + 1) - lim
theorem great_bd {ns : List Int} {a lim : Int} (h : 0 ≤ lim) : -lim ≤ great ns a lim ∧ great ns a lim ≤ lim := by
  unfold great
  have h1 := Int.emod_nonneg ((ns[a.toNat]?).getD 0) (show 2 * lim + 1 ≠ 0 by omega)
  have h2 := Int.emod_lt_of_pos ((ns[a.toNat]?).getD 0) (show 0 < 2 * lim + 1 by omega)
  omega
def behindF (hs : List Int) (h : Int) : List Int := srt ((hs.filter fun a => decide (0 < a)).map (· - 1) ++ if 0 < h then [h - 1] else [])
def OkAt (hs : List Int) (h : Int) : Prop := if 0 ∈ hs then 1 ≤ h ∧ h ∉ hs else h = 0
def numOf (hs : List Int) (h : Int) : Int := if 0 ∈ hs then ((hs.filter fun a => decide (h < a)).length : Int) else hs.length
def Plays : List Int → List Int → List Int → List Int → Prop
  | hs, [], ms, fin => ms = [] ∧ fin = hs
  | hs, h :: r, ms, fin => OkAt hs h ∧ ∃ ns, ms = numOf hs h :: ns ∧ Plays (behindF hs h) r ns fin
theorem plays_at : ∀ {hts hs ms fin : List Int}, Plays hs hts ms fin → ms.length = hts.length ∧ fin = hts.foldl behindF hs ∧ ∀ (i : Nat) (h : Int), hts[i]? = some h → OkAt ((hts.take i).foldl behindF hs) h ∧ ms[i]? = some (numOf ((hts.take i).foldl behindF hs) h)
  | [], hs, ms, fin, h => by
    obtain ⟨rfl, rfl⟩ := h
    exact ⟨rfl, rfl, fun i h e => by cases e⟩
  | h :: r, hs, ms, fin, ⟨h1, ns, h2, h3⟩ => by
    subst h2
    obtain ⟨g1, g2, g3⟩ := plays_at h3
    refine ⟨by rw [List.length_cons, List.length_cons, g1], g2, fun i z e => ?_⟩
    cases i with
    | zero => cases e; exact ⟨h1, rfl⟩
    | succ i => exact g3 i z e
/-! places drawn -/
def rng (n : Nat) : List Int := (List.range n).map fun (i : Nat) => (i : Int)
theorem rng_succ (n : Nat) : rng (n + 1) = rng n ++ [(n : Int)] := by
  unfold rng
  rw [List.range_succ, List.map_append]
  rfl
theorem mem_rng {n : Nat} {x : Int} : x ∈ rng n ↔ 0 ≤ x ∧ x < n := by
  unfold rng
  rw [List.mem_map]
  constructor
  · rintro ⟨i, hi, rfl⟩
    have := List.mem_range.mp hi
    omega
  · intro h
    exact ⟨x.toNat, List.mem_range.mpr (by omega), by omega⟩
theorem rng_len (n : Nat) : (rng n).length = n := by unfold rng; simp
theorem rng_nd (n : Nat) : (rng n).Nodup := by
  unfold rng
  exact List.Pairwise.map _ (fun a b hab => by omega) List.nodup_range
def plcI (span : Nat) (ds : List Int) : Nat → List Int × List Int × List Int
  | 0 => (rng span, [], ds)
  | t + 1 => ((plcI span ds t).1.eraseIdx (tk (plcI span ds t).2.2 (plcI span ds t).1.length).toNat, (plcI span ds t).2.1 ++ [((plcI span ds t).1[(tk (plcI span ds t).2.2 (plcI span ds t).1.length).toNat]?).getD 0], (plcI span ds t).2.2.tail)
theorem perm_erase {α : Type} : ∀ {l : List α} {i : Nat} {a : α}, l[i]? = some a → (a :: l.eraseIdx i).Perm l
  | _ :: _, 0, _, e => by cases e; exact .refl _
  | b :: l, i + 1, a, e => (List.Perm.swap b a _).trans ((perm_erase (l := l) (i := i) (by simpa using e)).cons b)
theorem plc_inv {span : Nat} {ds : List Int} : ∀ {t : Nat}, t ≤ span → (plcI span ds t).1.length = span - t ∧ (plcI span ds t).2.1.length = t ∧ ((plcI span ds t).2.1 ++ (plcI span ds t).1).Perm (rng span)
  | 0, _ => ⟨by unfold plcI rng; simp, rfl, by unfold plcI; exact .refl _⟩
  | t + 1, h => by
    obtain ⟨h1, h2, h3⟩ := plc_inv (span := span) (ds := ds) (t := t) (by omega)
    unfold plcI
    generalize plcI span ds t = p at h1 h2 h3
    obtain ⟨l, f, d⟩ := p
    dsimp only at h1 h2 h3 ⊢
    have hp : (0 : Int) < l.length := by omega
    have j1 := tk_nn d hp
    have j2 := tk_lt d hp
    generalize tk d l.length = j at j1 j2 ⊢
    obtain ⟨a, ha⟩ : ∃ a, l[j.toNat]? = some a := ⟨_, List.getElem?_eq_getElem (by omega)⟩
    rw [ha]
    refine ⟨by rw [List.length_eraseIdx_of_lt (by omega)]; omega, by rw [List.length_append, h2]; rfl, ?_⟩
    show (f ++ [a] ++ l.eraseIdx j.toNat).Perm _
    rw [List.append_assoc]
    exact ((perm_erase ha).append_left f).trans h3
def plc (many span : Nat) (ds : List Int) : List Int := (plcI span ds many).2.1
def plcD (many span : Nat) (ds : List Int) : List Int := (plcI span ds many).2.2
theorem plc_ok {many span : Nat} {ds : List Int} (h : many ≤ span) : (plc many span ds).length = many ∧ (plc many span ds).Nodup ∧ ∀ x, x ∈ plc many span ds → 0 ≤ x ∧ x < span := by
  obtain ⟨h1, h2, h3⟩ := plc_inv (span := span) (ds := ds) h
  have nd : (rng span).Nodup := by
    unfold rng
    exact List.Pairwise.map _ (fun a b hab => by omega) List.nodup_range
  refine ⟨h2, (List.nodup_append.mp (h3.nodup_iff.mpr nd)).1, fun x hx => ?_⟩
  have := h3.mem_iff.mp (List.mem_append_left _ hx)
  unfold rng at this
  obtain ⟨i, hi, rfl⟩ := List.mem_map.mp this
  have := List.mem_range.mp hi
  omega
theorem tk_cons (ds : List Int) (n : Int) : tk ds n = match ds with
  | [] => 0
  | d :: _ => d % n := rfl
/-! rows, sets -/
def rowsF (most : Nat) : Nat → List (List Int)
  | 0 => [[]]
  | n + 1 => (rowsF most n).flatMap fun r => (rng (most + 1)).map fun k => r ++ [k]
def lastLt (r : List Int) (p : Int) : Bool := match r.getLast? with
  | none => true
  | some y => decide (y < p)
def setsF (span : Nat) : Nat → List (List Int)
  | 0 => [[]]
  | n + 1 => (setsF span n).flatMap fun r => ((rng span).filter fun p => lastLt r p).map fun p => r ++ [p]
theorem flat_le {α β : Type} {f : α → List β} {k : Nat} : ∀ {l : List α}, (∀ a, a ∈ l → (f a).length ≤ k) → (l.flatMap f).length ≤ l.length * k
  | [], _ => by simp
  | a :: l, h => by
    have h1 := h a List.mem_cons_self
    have h2 := flat_le (l := l) fun b hb => h b (List.mem_cons_of_mem _ hb)
    rw [List.flatMap_cons, List.length_append, List.length_cons, Nat.succ_mul]
    omega
theorem sets_le {span : Nat} : ∀ n : Nat, (setsF span n).length ≤ span ^ n
  | 0 => Nat.le_refl _
  | n + 1 => by
    have h1 := flat_le (l := setsF span n) (f := fun r => ((rng span).filter fun p => lastLt r p).map fun p => r ++ [p]) (k := span) fun a _ => by
      rw [List.length_map]
      exact Nat.le_trans (List.length_filter_le _ _) (Nat.le_of_eq (rng_len span))
    have h2 := Nat.mul_le_mul_right span (sets_le (span := span) n)
    rw [Nat.pow_succ]
    exact Nat.le_trans h1 h2
theorem rows_ok {most : Nat} : ∀ {n : Nat} {r : List Int}, r ∈ rowsF most n → r.length = n ∧ ∀ x, x ∈ r → 0 ≤ x ∧ x ≤ most
  | 0, r, h => by
    have : r = [] := by simpa [rowsF] using h
    subst this
    exact ⟨rfl, fun x hx => by cases hx⟩
  | n + 1, r, h => by
    obtain ⟨q, hq, h2⟩ := List.mem_flatMap.mp h
    obtain ⟨k, hk, rfl⟩ := List.mem_map.mp h2
    obtain ⟨i, hi, rfl⟩ := List.mem_map.mp hk
    obtain ⟨g1, g2⟩ := rows_ok hq
    have := List.mem_range.mp hi
    refine ⟨by rw [List.length_append, g1]; rfl, fun x hx => ?_⟩
    rcases List.mem_append.mp hx with z | z
    · exact g2 x z
    · have e : x = (i : Int) := by simpa using z
      subst e
      omega
theorem flat_len {α β : Type} {f : α → List β} {k : Nat} : ∀ {l : List α}, (∀ a, a ∈ l → (f a).length = k) → (l.flatMap f).length = l.length * k
  | [], _ => by simp
  | a :: l, h => by
    rw [List.flatMap_cons, List.length_append, h a List.mem_cons_self, flat_len (l := l) fun b hb => h b (List.mem_cons_of_mem _ hb), List.length_cons, Nat.succ_mul]
    omega
/-! weights drawn -/
def wgt (ns ds : List Int) (k : Nat) : Int := if tk ds.tail 8 = 7 then great ns k 1000000000000 else tk ds 9 - 4
def wRow (ns ds : List Int) : Nat → List Int × List Int
  | 0 => ([], ds)
  | k + 1 => ((wRow ns ds k).1 ++ [wgt ns (wRow ns ds k).2 k], (wRow ns ds k).2.tail.tail)
def wRows (ns ds : List Int) (many : Nat) : Nat → List (List Int) × List Int
  | 0 => ([], ds)
  | b + 1 => ((wRows ns ds many b).1 ++ [(wRow ns (wRows ns ds many b).2 (many + 1)).1], (wRow ns (wRows ns ds many b).2 (many + 1)).2)
theorem wgt_bd (ns ds : List Int) (k : Nat) : (wgt ns ds k).natAbs ≤ 1000000000000 := by
  unfold wgt
  split
  · have := great_bd (ns := ns) (a := k) (lim := 1000000000000) (by decide)
    omega
  · have h1 := tk_nn ds (n := 9) (by decide)
    have h2 := tk_lt ds (n := 9) (by decide)
    omega
theorem wRow_ok (ns ds : List Int) : ∀ k, (wRow ns ds k).1.length = k ∧ ∀ x, x ∈ (wRow ns ds k).1 → x.natAbs ≤ 1000000000000
  | 0 => ⟨rfl, fun x hx => by cases hx⟩
  | k + 1 => by
    obtain ⟨h1, h2⟩ := wRow_ok ns ds k
    unfold wRow
    refine ⟨by rw [List.length_append, h1]; rfl, fun x hx => ?_⟩
    rcases List.mem_append.mp hx with z | z
    · exact h2 x z
    · have e : x = wgt ns (wRow ns ds k).2 k := by simpa using z
      rw [e]
      exact wgt_bd _ _ _
theorem sum_bd : ∀ {l : List Int}, (∀ x, x ∈ l → x.natAbs ≤ 1000000000000) → l.sum.natAbs ≤ l.length * 1000000000000
  | [], _ => by decide
  | a :: l, h => by
    have h1 := h a List.mem_cons_self
    have h2 := sum_bd (l := l) fun x hx => h x (List.mem_cons_of_mem _ hx)
    rw [List.sum_cons, List.length_cons, Nat.succ_mul]
    have := Int.natAbs_add_le a l.sum
    omega
theorem wRows_ok (ns ds : List Int) (many : Nat) (hm : many ≤ 1000) : ∀ b, (wRows ns ds many b).1.length = b ∧ ∀ m, m ∈ (wRows ns ds many b).1 → m.length = many + 1 ∧ m.sum.natAbs < 2 ^ 60 ∧ ∀ x, x ∈ m → x.natAbs ≤ 1000000000000
  | 0 => ⟨rfl, fun x hx => by cases hx⟩
  | b + 1 => by
    obtain ⟨h1, h2⟩ := wRows_ok ns ds many hm b
    unfold wRows
    refine ⟨by rw [List.length_append, h1]; rfl, fun m hm' => ?_⟩
    rcases List.mem_append.mp hm' with z | z
    · exact h2 m z
    · have e : m = (wRow ns (wRows ns ds many b).2 (many + 1)).1 := by simpa using z
      obtain ⟨g1, g2⟩ := wRow_ok ns (wRows ns ds many b).2 (many + 1)
      subst e
      refine ⟨g1, ?_, g2⟩
      have := sum_bd g2
      rw [g1] at this
      refine Nat.lt_of_le_of_lt this ?_
      have : (many + 1) * 1000000000000 ≤ 1001 * 1000000000000 := Nat.mul_le_mul_right _ (by omega)
      omega
def dro (ds : List Int) : Nat → List Int
  | 0 => ds
  | n + 1 => (dro ds n).tail
/-- the numbers drawn for a great set -/
def gNum (ds : List Int) (k n : Nat) : List Int := (List.range n).map fun i => tk (dro ds i) ((k : Int) + 1)
theorem rows_len {most : Nat} : ∀ n : Nat, (rowsF most n).length = (most + 1) ^ n
  | 0 => rfl
  | n + 1 => by
    unfold rowsF
    rw [flat_len (k := most + 1) (fun a _ => by unfold rng; simp), rows_len n, Nat.pow_succ]
end Py
namespace Py
/-! a step back and a step on are inverse -/
abbrev Asc (l : List Int) : Prop := l.Pairwise (· < ·)
theorem Asc.le {l : List Int} (h : Asc l) : l.Pairwise (· ≤ ·) := h.imp fun h => Int.le_of_lt h
theorem Asc.nd {l : List Int} (h : Asc l) : l.Nodup := h.imp fun h => by omega
theorem asc_of {l : List Int} (h : l.Pairwise (· ≤ ·)) (n : l.Nodup) : Asc l := (List.Pairwise.and h n).imp fun ⟨a, b⟩ => by omega
theorem srt_asc {l : List Int} (h : Asc l) : srt l = l := sorted_unique (srt_perm l) (srt_sorted l) h.le
theorem asc_up {l : List Int} (h : Asc l) : Asc (l.map (· + 1)) := List.Pairwise.map _ (fun a b hab => by omega) h
theorem asc_dn {l : List Int} (h : Asc l) : Asc (l.map (· - 1)) := List.Pairwise.map _ (fun a b hab => by omega) h
theorem dn_up {l : List Int} : (l.map (· + 1)).map (· - 1) = l := by
  rw [List.map_map]
  have : ((fun x : Int => x - 1) ∘ fun x => x + 1) = id := by
    funext x
    show x + 1 - 1 = x
    omega
  rw [this, List.map_id]
theorem up_dn {l : List Int} : (l.map (· - 1)).map (· + 1) = l := by
  rw [List.map_map]
  have : ((fun x : Int => x + 1) ∘ fun x => x - 1) = id := by
    funext x
    show x - 1 + 1 = x
    omega
  rw [this, List.map_id]
theorem split_at {l : List Int} {k : Nat} {h : Int} (e : l[k]? = some h) : l = l.take k ++ h :: l.drop (k + 1) ∧ l.eraseIdx k = l.take k ++ l.drop (k + 1) := by
  obtain ⟨hk, e⟩ := List.getElem?_eq_some_iff.mp e
  refine ⟨?_, List.eraseIdx_eq_take_drop_succ ..⟩
  rw [← e]
  simp
theorem num_erase {u : List Int} {k : Nat} {h : Int} (ha : Asc u) (e : u[k]? = some h) (h0 : 0 < h) : numOf (0 :: u.eraseIdx k) h = (u.length : Int) - 1 - k := by
  obtain ⟨e1, e2⟩ := split_at e
  have hk := (List.getElem?_eq_some_iff.mp e).1
  rw [e1] at ha
  obtain ⟨a1, a2, a3⟩ := List.pairwise_append.mp ha
  have f1 : (u.take k).filter (fun a => decide (h < a)) = [] := List.filter_eq_nil_iff.mpr fun a hm => by
    have := a3 a hm h List.mem_cons_self
    simp
    omega
  have f2 : (u.drop (k + 1)).filter (fun a => decide (h < a)) = u.drop (k + 1) := List.filter_eq_self.mpr fun a hm => by
    have := (List.pairwise_cons.mp a2).1 a hm
    simpa using this
  unfold numOf
  rw [if_pos List.mem_cons_self, List.filter_cons_of_neg (by simp; omega), e2, List.filter_append, f1, f2, List.nil_append, List.length_drop]
  omega
theorem filter_pos {l : List Int} (h : ∀ a, a ∈ l → 1 ≤ a) : l.filter (fun a => decide (0 < a)) = l := List.filter_eq_self.mpr fun a hm => by
  have := h a hm
  simp
  omega
theorem erase_mem {l : List Int} {k : Nat} {a : Int} (h : a ∈ l.eraseIdx k) : a ∈ l := (List.eraseIdx_sublist ..).subset h
structure NN (l : List Int) : Prop where
  asc : Asc l
  nn : ∀ x, x ∈ l → 0 ≤ x
theorem NN.up {l : List Int} (h : NN l) : ∀ x, x ∈ l.map (· + 1) → 1 ≤ x := fun x hx => by
  obtain ⟨y, hy, rfl⟩ := List.mem_map.mp hx
  have := h.nn y hy
  omega
/-- back by stepB, on by behindF -/
theorem step_on {T ht : List Int} {b : Int} (h : NN T) (hb : 0 ≤ b ∧ b ≤ T.length) : ∃ z, (stepB (T, ht) b).2 = ht ++ [z] ∧ OkAt (stepB (T, ht) b).1 z ∧ numOf (stepB (T, ht) b).1 z = b ∧ behindF (stepB (T, ht) b).1 z = T ∧ NN (stepB (T, ht) b).1 ∧ 0 ≤ z ∧ z ∈ 0 :: T.map (· + 1) ∧ (∀ x, x ∈ (stepB (T, ht) b).1 → x ∈ 0 :: T.map (· + 1)) := by
  unfold stepB
  have hup := h.up
  by_cases hc : b < T.length
  · rw [if_pos hc]
    dsimp only
    have hlen : (T.map (· + 1)).length = T.length := List.length_map _
    have hj : ((T.length : Int) - 1 - b).toNat < T.length := by omega
    have hjb : (((T.length : Int) - 1 - b).toNat : Int) = (T.length : Int) - 1 - b := by omega
    generalize ((T.length : Int) - 1 - b).toNat = k at hj hjb
    have e : (T.map (· + 1))[k]? = some ((T.map (· + 1))[k]'(by omega)) := List.getElem?_eq_getElem _
    generalize (T.map (· + 1))[k]'(by omega) = z at e
    have hz := hup z (List.mem_of_getElem? e)
    rw [e]
    have asc := asc_up h.asc
    have eT : T[k]? = some (z - 1) := by
      rw [List.getElem?_map] at e
      cases q : T[k]? with
      | none => rw [q] at e; cases e
      | some y =>
        rw [q] at e
        have : y + 1 = z := Option.some.inj e
        rw [← this]
        congr 1
        omega
    have hnot : z ∉ (T.map (· + 1)).eraseIdx k := fun hm => by
      have nd := asc.nd
      have p := perm_erase e
      have := (List.nodup_cons.mp (p.nodup_iff.mpr nd)).1
      exact this hm
    refine ⟨z, rfl, ?_, ?_, ?_, ⟨List.pairwise_cons.mpr ⟨fun a ha => ?_, asc.sublist (List.eraseIdx_sublist ..)⟩, fun x hx => ?_⟩, by omega, List.mem_cons_of_mem _ (List.mem_of_getElem? e), fun x hx => ?_⟩
    · unfold OkAt
      rw [if_pos List.mem_cons_self]
      refine ⟨hz, fun hm => ?_⟩
      rcases List.mem_cons.mp hm with q | q
      · omega
      · exact hnot q
    · rw [num_erase asc e (by omega), hlen]
      omega
    · unfold behindF
      rw [List.filter_cons_of_neg (by simp), filter_pos (fun a ha => hup a (erase_mem ha)), map_erase, dn_up, if_pos (by omega)]
      refine sorted_unique ((srt_perm _).trans ?_) (srt_sorted _) h.asc.le
      exact List.perm_append_comm.trans (perm_erase eT)
    · have := hup a (erase_mem ha)
      omega
    · rcases List.mem_cons.mp hx with q | q
      · omega
      · have := hup x (erase_mem q)
        omega
    · rcases List.mem_cons.mp hx with q | q
      · rw [q]; exact List.mem_cons_self
      · exact List.mem_cons_of_mem _ (erase_mem q)
  · rw [if_neg hc]
    dsimp only
    have h0 : (0 : Int) ∉ T.map (· + 1) := fun hm => by have := hup 0 hm; omega
    refine ⟨0, rfl, ?_, ?_, ?_, ⟨asc_up h.asc, fun x hx => by have := hup x hx; omega⟩, Int.le_refl _, List.mem_cons_self, fun x hx => List.mem_cons_of_mem _ hx⟩
    · unfold OkAt
      rw [if_neg h0]
    · unfold numOf
      rw [if_neg h0, List.length_map]
      omega
    · unfold behindF
      rw [filter_pos hup, dn_up, if_neg (by omega), List.append_nil, srt_asc h.asc]
/-- on by behindF, back by stepB -/
theorem step_back {hs ht : List Int} {z : Int} (h : NN hs) (ok : OkAt hs z) : stepB (behindF hs z, ht) (numOf hs z) = (hs, ht ++ [z]) ∧ NN (behindF hs z) ∧ (behindF hs z).length = hs.length ∧ 0 ≤ numOf hs z ∧ numOf hs z ≤ hs.length ∧ ∀ x, x ∈ behindF hs z → x + 1 = z ∨ x + 1 ∈ hs := by
  unfold OkAt at ok
  by_cases h0 : (0 : Int) ∈ hs
  · rw [if_pos h0] at ok
    obtain ⟨r, rfl⟩ : ∃ r, hs = 0 :: r := by
      cases hs with
      | nil => cases h0
      | cons a r =>
        have ha := h.nn a List.mem_cons_self
        rcases List.mem_cons.mp h0 with q | q
        · exact ⟨r, by rw [← q]⟩
        · have := (List.pairwise_cons.mp h.asc).1 0 q
          omega
    obtain ⟨g1, g2⟩ := List.pairwise_cons.mp h.asc
    have hr1 : ∀ a, a ∈ r → 1 ≤ a := fun a ha => by have := g1 a ha; omega
    have hz : z ∉ r := fun hm => ok.2 (List.mem_cons_of_mem _ hm)
    have eB : (behindF (0 :: r) z).Perm (r.map (· - 1) ++ [z - 1]) := by
      unfold behindF
      rw [List.filter_cons_of_neg (by simp), filter_pos hr1, if_pos (by omega)]
      exact srt_perm _
    have ndB : (r.map (· - 1) ++ [z - 1]).Nodup := by
      refine List.nodup_append.mpr ⟨(asc_dn g2).nd, by simp, fun a ha b hb => ?_⟩
      obtain ⟨y, hy, rfl⟩ := List.mem_map.mp ha
      have : b = z - 1 := by simpa using hb
      rw [this]
      intro e
      have : y = z := by omega
      exact hz (this ▸ hy)
    have asB : Asc (behindF (0 :: r) z) := asc_of (srt_sorted _) (eB.nodup_iff.mpr ndB)
    have memB : ∀ x, x ∈ behindF (0 :: r) z → x + 1 = z ∨ x + 1 ∈ r := fun x hx => by
      rcases List.mem_append.mp (eB.mem_iff.mp hx) with q | q
      · obtain ⟨y, hy, rfl⟩ := List.mem_map.mp q
        exact .inr (by rw [show y - 1 + 1 = y by omega]; exact hy)
      · have : x = z - 1 := by simpa using q
        exact .inl (by omega)
    have nnB : NN (behindF (0 :: r) z) := ⟨asB, fun x hx => by
      rcases memB x hx with q | q
      · omega
      · have := hr1 _ q
        omega⟩
    have lenB : (behindF (0 :: r) z).length = r.length + 1 := by rw [eB.length_eq]; simp
    generalize hT : behindF (0 :: r) z = T at eB asB memB nnB lenB
    have pU : (T.map (· + 1)).Perm (r ++ [z]) := by
      have := eB.map (· + 1)
      rw [List.map_append, up_dn] at this
      refine this.trans (.of_eq ?_)
      show r ++ [z - 1 + 1] = r ++ [z]
      rw [show z - 1 + 1 = z by omega]
    obtain ⟨k, hk⟩ := List.mem_iff_getElem?.mp (pU.mem_iff.mpr (List.mem_append_right _ (List.mem_singleton.mpr rfl)) : z ∈ T.map (· + 1))
    have eR : (T.map (· + 1)).eraseIdx k = r := by
      refine sorted_unique ?_ (Asc.le ((asc_up asB).sublist (List.eraseIdx_sublist ..))) (Asc.le g2)
      have p1 := (perm_erase hk).trans (pU.trans List.perm_append_comm)
      exact List.perm_cons z |>.mp p1
    have hn := num_erase (asc_up asB) hk (by omega)
    rw [eR, List.length_map, lenB] at hn
    have hkl := (List.getElem?_eq_some_iff.mp hk).1
    rw [List.length_map, lenB] at hkl
    refine ⟨?_, nnB, by rw [lenB]; rfl, by omega, by rw [List.length_cons]; omega, fun x hx => (memB x hx).imp id fun q => List.mem_cons_of_mem _ q⟩
    unfold stepB
    dsimp only
    rw [if_pos (by omega), hn, lenB]
    have ek : (((r.length + 1 : Nat) : Int) - 1 - (((r.length + 1 : Nat) : Int) - 1 - (k : Int))).toNat = k := by omega
    rw [ek, hk, eR]
    rfl
  · rw [if_neg h0] at ok
    subst ok
    have h1 : ∀ a, a ∈ hs → 1 ≤ a := fun a ha => by
      have := h.nn a ha
      have : a ≠ 0 := fun e => h0 (e ▸ ha)
      omega
    have eB : behindF hs 0 = hs.map (· - 1) := by
      unfold behindF
      rw [filter_pos h1, if_neg (by omega), List.append_nil, srt_asc (asc_dn h.asc)]
    have en : numOf hs 0 = hs.length := by
      unfold numOf
      rw [if_neg h0]
    rw [eB, en]
    refine ⟨?_, ⟨asc_dn h.asc, fun x hx => ?_⟩, List.length_map _, by omega, Int.le_refl _, fun x hx => ?_⟩
    · unfold stepB
      dsimp only
      rw [if_neg (by rw [List.length_map]; omega), up_dn]
    · obtain ⟨y, hy, rfl⟩ := List.mem_map.mp hx
      have := h1 y hy
      omega
    · obtain ⟨y, hy, rfl⟩ := List.mem_map.mp hx
      exact .inr (by rw [show y - 1 + 1 = y by omega]; exact hy)
theorem starts_cons (ns : List Int) (m : Int) (ms : List Int) : startsF ns (m :: ms) = stepB (startsF ns ms) m := by
  unfold startsF
  rw [List.reverse_cons, List.foldl_append]
  rfl
theorem starts_ok {ns : List Int} (h : NN (srt ns)) : ∀ {ms : List Int}, (∀ m, m ∈ ms → 0 ≤ m ∧ m ≤ ns.length) → NN (startsF ns ms).1 ∧ (startsF ns ms).1.length = ns.length ∧ (startsF ns ms).2.length = ms.length ∧ Plays (startsF ns ms).1 (startsF ns ms).2.reverse ms (srt ns)
  | [], _ => ⟨h, (srt_perm ns).length_eq, rfl, rfl, rfl⟩
  | m :: ms, hm => by
    obtain ⟨g1, g2, g3, g4⟩ := starts_ok h (ms := ms) fun x hx => hm x (List.mem_cons_of_mem _ hx)
    have hb := hm m List.mem_cons_self
    rw [starts_cons]
    generalize startsF ns ms = p at g1 g2 g3 g4
    obtain ⟨T, ht⟩ := p
    dsimp only at g1 g2 g3 g4
    obtain ⟨z, f1, f2, f3, f4, f5, _⟩ := step_on (ht := ht) (b := m) g1 (by omega)
    have hl := stepB_len (p := (T, ht)) hb.1
    refine ⟨f5, by rw [hl.1]; exact g2, by rw [hl.2, g3]; rfl, ?_⟩
    rw [f1, List.reverse_append]
    show Plays _ (z :: ht.reverse) (m :: ms) (srt ns)
    refine ⟨f2, ms, by rw [f3], ?_⟩
    rw [f4]
    exact g4
theorem GoodS.NN {x : D} {ns : List Int} (h : GoodS x ns) : NN (srt ns) := ⟨srt_nd h.nd, fun y hy => h.nn y ((srt_perm ns).mem_iff.mp hy)⟩
theorem behind_len (hs : List Int) (z : Int) : (behindF hs z).length ≤ hs.length + 1 := by
  unfold behindF
  rw [(srt_perm _).length_eq, List.length_append, List.length_map]
  have := List.length_filter_le (fun a => decide ((0 : Int) < a)) hs
  split <;> simp <;> omega
theorem plc_good {many span : Nat} {ds : List Int} (h : many ≤ span) (h2 : many ≤ 1000) : GoodS (.lst ((plc many span ds).map D.int)) (plc many span ds) := by
  obtain ⟨g1, g2, g3⟩ := plc_ok (ds := ds) h
  exact ⟨sq_l, fun n hn => (g3 n hn).1, g2, by omega⟩
theorem gNum_good {ds : List Int} {k n : Nat} (h : n ≤ 1000) : GoodN k (gNum ds k n) := by
  refine ⟨fun m hm => ?_, by unfold gNum; simp; exact h⟩
  unfold gNum at hm
  obtain ⟨i, _, rfl⟩ := List.mem_map.mp hm
  have h1 := tk_nn (dro ds i) (n := (k : Int) + 1) (by omega)
  have h2 := tk_lt (dro ds i) (n := (k : Int) + 1) (by omega)
  omega
theorem wRows_good {ns ds : List Int} {many b : Nat} (hm : many ≤ 1000) (hb : b ≤ 1000) : GoodW many (wRows ns ds many b).1 := by
  obtain ⟨g1, g2⟩ := wRows_ok ns ds many hm b
  exact ⟨fun m hm => (g2 m hm).1, fun m hm => (g2 m hm).2.1, by omega⟩
theorem rows_good {most n : Nat} {r : List Int} (h : r ∈ rowsF most n) (hn : n ≤ 1000) : GoodN most r := ⟨(rows_ok h).2, by rw [(rows_ok h).1]; exact hn⟩
theorem ones_good {k b : Nat} (hk : k ≤ 1000) (hb : b ≤ 1000) : GoodW k (List.replicate b (List.replicate (k + 1) 1)) ∧ prodL (List.replicate b (List.replicate (k + 1) 1)) = (((k + 1) ^ b : Nat) : Int) := by
  have hs : ∀ n : Nat, (List.replicate n (1 : Int)).sum = n := fun n => by
    induction n with
    | zero => rfl
    | succ n ih => rw [List.replicate_succ, List.sum_cons, ih]; omega
  refine ⟨⟨fun m hm => by rw [List.eq_of_mem_replicate hm]; simp, fun m hm => ?_, by rw [List.length_replicate]; exact hb⟩, ?_⟩
  · rw [List.eq_of_mem_replicate hm, hs]
    have : ((k + 1 : Nat) : Int).natAbs = k + 1 := by omega
    rw [this]
    omega
  · induction b with
    | zero => rfl
    | succ b ih =>
      rw [List.replicate_succ', prodL_snoc, ih (by omega), hs, Nat.pow_succ]
      simp
theorem fold_behind_len : ∀ (l hs : List Int), (l.foldl behindF hs).length ≤ hs.length + l.length
  | [], hs => Nat.le_refl _
  | a :: l, hs => by
    have h1 := fold_behind_len l (behindF hs a)
    have h2 := behind_len hs a
    rw [List.foldl_cons, List.length_cons]
    omega
end Py
namespace Py
open L2 (Key)
def SetIn (M : Nat) (L : Int) (T : List Int) : Prop := Asc T ∧ T.length = M ∧ ∀ x, x ∈ T → 0 ≤ x ∧ x < L
theorem SetIn.NN {M : Nat} {L : Int} {T : List Int} (h : SetIn M L T) : NN T := ⟨h.1, fun x hx => (h.2.2 x hx).1⟩
theorem lastLt_iff {r : List Int} {p : Int} (h : Asc r) : lastLt r p = true ↔ ∀ x, x ∈ r → x < p := by
  rcases List.eq_nil_or_concat r with rfl | ⟨l, y, rfl⟩
  · exact ⟨fun _ x hx => (by cases hx), fun _ => rfl⟩
  · have e : lastLt (l.concat y) p = decide (y < p) := by
      unfold lastLt
      rw [List.concat_eq_append, List.getLast?_concat]
    rw [List.concat_eq_append] at h e ⊢
    rw [e]
    obtain ⟨_, _, h3⟩ := List.pairwise_append.mp h
    constructor
    · intro hd x hx
      have hy : y < p := of_decide_eq_true hd
      rcases List.mem_append.mp hx with z | z
      · have := h3 x z y (List.mem_singleton.mpr rfl)
        omega
      · rw [List.mem_singleton.mp z]
        exact hy
    · intro hx
      exact decide_eq_true (hx y (List.mem_append_right _ (List.mem_singleton.mpr rfl)))
theorem mem_sets {span : Nat} : ∀ {n : Nat} {T : List Int}, T ∈ setsF span n ↔ SetIn n span T
  | 0, T => by
    constructor
    · intro h
      have : T = [] := by simpa [setsF] using h
      subst this
      exact ⟨.nil, rfl, fun x hx => by cases hx⟩
    · rintro ⟨_, h, _⟩
      have : T = [] := List.eq_nil_of_length_eq_zero h
      subst this
      simp [setsF]
  | n + 1, T => by
    unfold setsF
    rw [List.mem_flatMap]
    constructor
    · rintro ⟨r, hr, h2⟩
      obtain ⟨p, hp, rfl⟩ := List.mem_map.mp h2
      obtain ⟨g1, g2, g3⟩ := mem_sets.mp hr
      obtain ⟨hp1, hp2⟩ := List.mem_filter.mp hp
      have hlt := (lastLt_iff g1).mp hp2
      refine ⟨List.pairwise_append.mpr ⟨g1, List.pairwise_singleton _ _, fun a ha b hb => ?_⟩, by rw [List.length_append, g2]; rfl, fun x hx => ?_⟩
      · rw [List.mem_singleton.mp hb]
        exact hlt a ha
      · rcases List.mem_append.mp hx with z | z
        · exact g3 x z
        · rw [List.mem_singleton.mp z]
          exact mem_rng.mp hp1
    · rintro ⟨g1, g2, g3⟩
      rcases List.eq_nil_or_concat T with rfl | ⟨l, y, rfl⟩
      · cases g2
      · rw [List.concat_eq_append] at g1 g2 g3 ⊢
        obtain ⟨a1, _, a3⟩ := List.pairwise_append.mp g1
        refine ⟨l, mem_sets.mpr ⟨a1, by rw [List.length_append] at g2; simpa using g2, fun x hx => g3 x (List.mem_append_left _ hx)⟩, List.mem_map.mpr ⟨y, List.mem_filter.mpr ⟨mem_rng.mpr (g3 y (List.mem_append_right _ (List.mem_singleton.mpr rfl))), ?_⟩, rfl⟩⟩
        exact (lastLt_iff a1).mpr fun x hx => a3 x hx y (List.mem_singleton.mpr rfl)
theorem nodup_le {α : Type} [DecidableEq α] : ∀ {l m : List α}, l.Nodup → (∀ x, x ∈ l → x ∈ m) → l.length ≤ m.length
  | [], _, _, _ => Nat.zero_le _
  | a :: l, m, h, hs => by
    obtain ⟨h1, h2⟩ := List.nodup_cons.mp h
    have ha := hs a List.mem_cons_self
    have := nodup_le (l := l) (m := m.erase a) h2 fun x hx => (List.mem_erase_of_ne (fun e => h1 (by rw [← e]; exact hx))).mpr (hs x (List.mem_cons_of_mem _ hx))
    rw [List.length_erase_of_mem ha] at this
    have := List.length_pos_of_mem ha
    rw [List.length_cons]
    omega
/-! heights from a set -/
def hts (hs : List Int) (L : Int) : List Int := if 0 ∈ hs then ((List.range (L - 1).toNat).map fun (i : Nat) => 1 + (i : Int)).filter fun h => !decide (h ∈ hs) else [0]
theorem mem_hts {hs : List Int} {L h : Int} : h ∈ hts hs L ↔ (0 ∈ hs ∧ 1 ≤ h ∧ h < L ∧ h ∉ hs) ∨ (0 ∉ hs ∧ h = 0) := by
  unfold hts
  by_cases h0 : (0 : Int) ∈ hs
  · rw [if_pos h0, List.mem_filter, List.mem_map]
    constructor
    · rintro ⟨⟨i, hi, rfl⟩, hn⟩
      have := List.mem_range.mp hi
      exact .inl ⟨h0, by omega, by omega, by simpa using hn⟩
    · rintro (⟨_, h1, h2, h3⟩ | ⟨h1, _⟩)
      · exact ⟨⟨(h - 1).toNat, List.mem_range.mpr (by omega), by omega⟩, by simpa using h3⟩
      · exact absurd h0 h1
  · rw [if_neg h0, List.mem_singleton]
    exact ⟨fun e => .inr ⟨h0, e⟩, fun e => e.elim (fun z => absurd z.1 h0) fun z => z.2⟩
theorem hts_nd (hs : List Int) (L : Int) : (hts hs L).Nodup := by
  unfold hts
  split
  · exact List.Pairwise.filter _ (List.Pairwise.map _ (fun a b hab => by omega) List.nodup_range)
  · simp
theorem hts_len (hs : List Int) (L : Int) (h : L ≤ 12) : (hts hs L).length ≤ 12 := by
  unfold hts
  split
  · refine Nat.le_trans (List.length_filter_le _ _) ?_
    simp
    omega
  · decide
theorem hts_ok {hs : List Int} {L h : Int} (hh : h ∈ hts hs L) : OkAt hs h := by
  unfold OkAt
  rcases mem_hts.mp hh with ⟨h0, h1, _, h3⟩ | ⟨h0, h1⟩
  · rw [if_pos h0]
    exact ⟨h1, h3⟩
  · rw [if_neg h0]
    exact h1
def prs (ks : List (List Int)) (L : Int) : List (List Int × Int) := ks.flatMap fun hs => (hts hs L).map fun h => (hs, h)
theorem mem_prs {ks : List (List Int)} {L : Int} {q : List Int × Int} : q ∈ prs ks L ↔ q.1 ∈ ks ∧ q.2 ∈ hts q.1 L := by
  unfold prs
  rw [List.mem_flatMap]
  constructor
  · rintro ⟨hs, h1, h2⟩
    obtain ⟨h, hh, rfl⟩ := List.mem_map.mp h2
    exact ⟨h1, hh⟩
  · rintro ⟨h1, h2⟩
    exact ⟨q.1, h1, List.mem_map.mpr ⟨q.2, h2, rfl⟩⟩
theorem prs_nd {L : Int} : ∀ {ks : List (List Int)}, ks.Nodup → (prs ks L).Nodup
  | [], _ => List.nodup_nil
  | k :: ks, h => by
    obtain ⟨h1, h2⟩ := List.nodup_cons.mp h
    unfold prs
    rw [List.flatMap_cons]
    refine List.nodup_append.mpr ⟨List.Pairwise.map _ (fun a b hab e => hab (congrArg Prod.snd e)) (hts_nd k L), prs_nd h2, fun a ha b hb e => ?_⟩
    obtain ⟨z, _, rfl⟩ := List.mem_map.mp ha
    subst e
    exact h1 (mem_prs.mp hb).1
/-- what comes before T with so many later -/
def pre (T : List Int) (l : Nat) : List Int × Int := ((stepB (T, []) l).1, ((stepB (T, []) l).2.head?).getD 0)
theorem perm_sum : ∀ {l m : List Int}, l.Perm m → l.sum = m.sum := by
  intro l m h
  induction h with
  | nil => rfl
  | cons a _ ih => rw [List.sum_cons, List.sum_cons, ih]
  | swap a b l => rw [List.sum_cons, List.sum_cons, List.sum_cons, List.sum_cons]; omega
  | trans _ _ h1 h2 => exact h1.trans h2
theorem behind_in {M : Nat} {L : Int} {hs : List Int} {h : Int} (hk : SetIn M L hs) (hh : h ∈ hts hs L) : SetIn M (L - 1) (behindF hs h) := by
  obtain ⟨_, g2, g3, _, _, g6⟩ := step_back (ht := []) hk.NN (hts_ok hh)
  refine ⟨g2.asc, by rw [g3]; exact hk.2.1, fun x hx => ⟨g2.nn x hx, ?_⟩⟩
  rcases g6 x hx with e | e
  · rcases mem_hts.mp hh with ⟨_, _, z, _⟩ | ⟨_, z⟩
    · omega
    · have := g2.nn x hx
      omega
  · have := (hk.2.2 _ e).2
    omega
theorem pre_ok {M : Nat} {L : Int} {T : List Int} (hL : 1 ≤ L) (hT : SetIn M (L - 1) T) {l : Nat} (hl : l ≤ M) : SetIn M L (pre T l).1 ∧ (pre T l).2 ∈ hts (pre T l).1 L ∧ behindF (pre T l).1 (pre T l).2 = T ∧ numOf (pre T l).1 (pre T l).2 = l := by
  have hb : (0 : Int) ≤ (l : Int) ∧ (l : Int) ≤ T.length := by rw [hT.2.1]; omega
  obtain ⟨z, e1, e2, e3, e4, e5, e6, e7, e8⟩ := step_on (ht := []) (b := (l : Int)) hT.NN hb
  have hlen := (stepB_len (p := (T, [])) (b := (l : Int)) hb.1).1
  have ez : ((stepB (T, []) (l : Int)).2.head?).getD 0 = z := by rw [e1]; rfl
  have bnd : ∀ x, x ∈ 0 :: T.map (· + 1) → x < L := fun x hx => by
    rcases List.mem_cons.mp hx with q | q
    · omega
    · obtain ⟨y, hy, rfl⟩ := List.mem_map.mp q
      have := (hT.2.2 y hy).2
      omega
  unfold pre
  dsimp only
  rw [ez]
  refine ⟨⟨e5.asc, by rw [hlen]; exact hT.2.1, fun x hx => ⟨e5.nn x hx, bnd x (e8 x hx)⟩⟩, mem_hts.mpr ?_, e4, e3⟩
  unfold OkAt at e2
  by_cases h0 : (0 : Int) ∈ (stepB (T, []) (l : Int)).1
  · rw [if_pos h0] at e2
    exact .inl ⟨h0, e2.1, bnd z e7, e2.2⟩
  · rw [if_neg h0] at e2
    exact .inr ⟨h0, e2⟩
/-- all that leads to T -/
theorem prs_perm {M : Nat} {L : Int} {ks : List (List Int)} (hL : 1 ≤ L) (nd : ks.Nodup) (hk : ∀ T, T ∈ ks ↔ SetIn M L T) {T : List Int} (hT : SetIn M (L - 1) T) :
    ((prs ks L).filter fun q => decide (behindF q.1 q.2 = T)).Perm ((List.range (M + 1)).map fun l => pre T l) := by
  refine (List.perm_ext_iff_of_nodup (List.Pairwise.filter _ (prs_nd nd)) ?_).mpr fun q => ?_
  · refine List.pairwise_map.mpr (List.nodup_range.imp_of_mem fun {a b} ha hb hab e => hab ?_)
    have h1 := (pre_ok hL hT (Nat.le_of_lt_succ (List.mem_range.mp ha))).2.2.2
    have h2 := (pre_ok hL hT (Nat.le_of_lt_succ (List.mem_range.mp hb))).2.2.2
    rw [e] at h1
    omega
  · rw [List.mem_filter, mem_prs, List.mem_map]
    constructor
    · rintro ⟨⟨h1, h2⟩, h3⟩
      have h3 : behindF q.1 q.2 = T := of_decide_eq_true h3
      have hq := (hk q.1).mp h1
      obtain ⟨g1, _, _, g4, g5, _⟩ := step_back (ht := []) hq.NN (hts_ok h2)
      rw [h3] at g1
      refine ⟨(numOf q.1 q.2).toNat, List.mem_range.mpr (by rw [hq.2.1] at g5; omega), ?_⟩
      unfold pre
      rw [show (((numOf q.1 q.2).toNat : Nat) : Int) = numOf q.1 q.2 by omega, g1]
      rfl
    · rintro ⟨l, hl, rfl⟩
      obtain ⟨g1, g2, g3, _⟩ := pre_ok hL hT (Nat.le_of_lt_succ (List.mem_range.mp hl))
      exact ⟨⟨(hk _).mpr g1, g2⟩, decide_eq_true g3⟩
def wv (v : Int) (m : List Int) (q : List Int × Int) : Int := v * (m[(numOf q.1 q.2).toNat]?).getD 0
theorem range_sum (v : Int) : ∀ m : List Int, ((List.range m.length).map fun l => v * (m[l]?).getD 0).sum = v * m.sum
  | [] => by simp
  | a :: m => by
    rw [List.length_cons, List.range_succ_eq_map, List.map_cons, List.map_map, List.sum_cons, List.sum_cons, Int.mul_add, ← range_sum v m]
    rfl
theorem prs_sum {M : Nat} {L v : Int} {ks : List (List Int)} {m : List Int} (hL : 1 ≤ L) (nd : ks.Nodup) (hk : ∀ T, T ∈ ks ↔ SetIn M L T) (hm : m.length = M + 1) {T : List Int} (hT : SetIn M (L - 1) T) :
    (((prs ks L).filter fun q => decide (behindF q.1 q.2 = T)).map (wv v m)).sum = v * m.sum := by
  rw [perm_sum ((prs_perm hL nd hk hT).map (wv v m)), List.map_map, ← range_sum v m, hm]
  congr 1
  apply List.map_congr_left
  intro l hl
  obtain ⟨_, _, _, g⟩ := pre_ok hL hT (Nat.le_of_lt_succ (List.mem_range.mp hl))
  show v * (m[(numOf (pre T l).1 (pre T l).2).toNat]?).getD 0 = _
  rw [g]
  rfl
/-! dicts of rows -/
structure DicOk (kvs : List (List Key × D)) (ks : List (List Int)) (val : List Int → Int) : Prop where
  keys : kvs.map (·.1) = ks.map kI
  nd : ks.Nodup
  val : ∀ T, valD kvs (kI T) = if T ∈ ks then some (.int (val T)) else none
theorem DicOk.nil {val : List Int → Int} : DicOk [] [] val := ⟨rfl, List.nodup_nil, fun T => rfl⟩
theorem DicOk.put {kvs : List (List Key × D)} {ks : List (List Int)} {val : List Int → Int} (h : DicOk kvs ks val) (T : List Int) (x : Int) : DicOk (putD kvs (kI T) (.int x)) (if T ∈ ks then ks else ks ++ [T]) (fun S => if S = T then x else val S) := by
  have hm : kI T ∈ ks.map kI ↔ T ∈ ks := ⟨fun hh => by
    obtain ⟨S, hS, e⟩ := List.mem_map.mp hh
    exact kI_inj e ▸ hS, fun hh => List.mem_map.mpr ⟨T, hh, rfl⟩⟩
  refine ⟨?_, ?_, fun S => ?_⟩
  · rw [putD_keys, h.keys]
    by_cases hT : T ∈ ks
    · rw [if_pos hT, if_pos (hm.mpr hT)]
    · rw [if_neg hT, if_neg (fun z => hT (hm.mp z)), List.map_append]
      rfl
  · by_cases hT : T ∈ ks
    · rw [if_pos hT]
      exact h.nd
    · rw [if_neg hT]
      exact List.nodup_append.mpr ⟨h.nd, by simp, fun a ha b hb e => hT (by rw [List.mem_singleton.mp hb] at e; exact e ▸ ha)⟩
  · rw [valD_put, h.val]
    by_cases hS : S = T
    · subst hS
      rw [if_pos rfl]
      by_cases hT : S ∈ ks
      · rw [if_pos hT, if_pos hT]
        simp
      · rw [if_neg hT, if_pos (List.mem_append_right _ (List.mem_singleton.mpr rfl))]
        simp
    · have hk : ¬ kI S = kI T := fun e => hS (kI_inj e)
      rw [if_neg hk]
      by_cases hT : T ∈ ks
      · rw [if_pos hT]
        simp [hS]
      · rw [if_neg hT]
        have : S ∈ ks ++ [T] ↔ S ∈ ks := by simp [hS]
        simp [hS]
theorem DicOk.len {kvs : List (List Key × D)} {ks : List (List Int)} {val : List Int → Int} (h : DicOk kvs ks val) : kvs.length = ks.length := by
  have := congrArg List.length h.keys
  rwa [List.length_map, List.length_map] at this
def conF (v : Int) (l : List (List Int)) : List (List Key × D) := l.foldl (fun kvs T => putD kvs (kI T) (.int v)) []
theorem con_snoc (v : Int) (l : List (List Int)) (T : List Int) : conF v (l ++ [T]) = putD (conF v l) (kI T) (.int v) := by
  unfold conF
  rw [List.foldl_append]
  rfl
theorem snoc_ind {α : Type} {P : List α → Prop} (h0 : P []) (h1 : ∀ l a, P l → P (l ++ [a])) (l : List α) : P l := by
  have key : ∀ n, ∀ l : List α, l.length = n → P l := fun n => by
    induction n with
    | zero => intro l h; rw [List.eq_nil_of_length_eq_zero h]; exact h0
    | succ n ih =>
      intro l h
      rcases List.eq_nil_or_concat l with rfl | ⟨m, a, rfl⟩
      · exact h0
      · rw [List.concat_eq_append] at h ⊢
        exact h1 m a (ih m (by rw [List.length_append] at h; simpa using h))
  exact key _ l rfl
theorem con_ok (v : Int) (l : List (List Int)) : ∃ ks, DicOk (conF v l) ks (fun _ => v) ∧ ∀ T, T ∈ ks ↔ T ∈ l := by
  induction l using snoc_ind with
  | h0 => exact ⟨[], .nil, fun T => Iff.rfl⟩
  | h1 l T ih =>
    obtain ⟨ks, h1, h2⟩ := ih
    rw [con_snoc]
    have h3 := h1.put T v
    refine ⟨_, ⟨h3.keys, h3.nd, fun S => by rw [h3.val]; simp⟩, fun S => ?_⟩
    by_cases hT : T ∈ ks
    · rw [if_pos hT, h2, List.mem_append, List.mem_singleton]
      exact ⟨.inl, fun z => z.elim id fun e => e ▸ (h2 T).mp hT⟩
    · rw [if_neg hT, List.mem_append, h2, List.mem_append]
/-- sums by rows -/
def atT (ps : List (List Int × Int)) (T : List Int) : Int := ((ps.filter fun q => decide (q.1 = T)).map (·.2)).sum
def kvS (ps : List (List Int × Int)) (kvs : List (List Key × D)) (i : Nat) : List (List Key × D) := match ps[i]? with
  | some q => putD kvs (kI q.1) (.int (atT (ps.take i) q.1 + q.2))
  | none => kvs
def kvF (ps : List (List Int × Int)) : List (List Key × D) := (List.range ps.length).foldl (kvS ps) []
theorem kvS_at {ps : List (List Int × Int)} {i : Nat} {q : List Int × Int} (e : ps[i]? = some q) (kvs : List (List Key × D)) : kvS ps kvs i = putD kvs (kI q.1) (.int (atT (ps.take i) q.1 + q.2)) := by
  unfold kvS
  rw [e]
theorem kvF_snoc (ps : List (List Int × Int)) (q : List Int × Int) : kvF (ps ++ [q]) = putD (kvF ps) (kI q.1) (.int (atT ps q.1 + q.2)) := by
  have e : ∀ n, n ≤ ps.length → (List.range n).foldl (kvS (ps ++ [q])) [] = (List.range n).foldl (kvS ps) [] := fun n => by
    induction n with
    | zero => intro _; rfl
    | succ n ih =>
      intro h
      rw [List.range_succ, List.foldl_append, List.foldl_append, ih (by omega)]
      have h1 : ps[n]? = some (ps[n]'(by omega)) := List.getElem?_eq_getElem _
      have h2 : (ps ++ [q])[n]? = some (ps[n]'(by omega)) := by rw [List.getElem?_append_left (by omega)]; exact h1
      show kvS (ps ++ [q]) _ n = kvS ps _ n
      rw [kvS_at h1, kvS_at h2, List.take_append_of_le_length (by omega)]
  have h3 : (ps ++ [q])[ps.length]? = some q := by rw [List.getElem?_append_right (Nat.le_refl _), Nat.sub_self]; rfl
  unfold kvF
  rw [List.length_append, show ps.length + [q].length = ps.length + 1 from rfl, List.range_succ, List.foldl_append, e _ (Nat.le_refl _)]
  show kvS (ps ++ [q]) _ ps.length = _
  rw [kvS_at h3, List.take_append_of_le_length (Nat.le_refl _), List.take_length]
theorem atT_snoc (ps : List (List Int × Int)) (q : List Int × Int) (T : List Int) : atT (ps ++ [q]) T = if q.1 = T then atT ps T + q.2 else atT ps T := by
  unfold atT
  rw [List.filter_append, List.map_append, List.sum_append]
  by_cases h : q.1 = T
  · rw [if_pos h, List.filter_cons_of_pos (by simpa using h)]
    simp
  · rw [if_neg h, List.filter_cons_of_neg (by simpa using h)]
    simp
theorem kvF_ok (ps : List (List Int × Int)) : ∃ ks, DicOk (kvF ps) ks (atT ps) ∧ ∀ T, T ∈ ks ↔ ∃ q, q ∈ ps ∧ q.1 = T := by
  induction ps using snoc_ind with
  | h0 => exact ⟨[], .nil, fun T => ⟨(fun z => (by cases z)), fun ⟨_, z, _⟩ => (by cases z)⟩⟩
  | h1 ps q ih =>
    obtain ⟨ks, h1, h2⟩ := ih
    rw [kvF_snoc]
    have h3 := h1.put q.1 (atT ps q.1 + q.2)
    refine ⟨_, ⟨h3.keys, h3.nd, fun S => ?_⟩, fun S => ?_⟩
    · rw [h3.val, atT_snoc]
      by_cases hS : S = q.1
      · subst hS
        simp
      · have : ¬ q.1 = S := fun e => hS e.symm
        rw [if_neg hS, if_neg this]
    · by_cases hT : q.1 ∈ ks
      · rw [if_pos hT, h2]
        constructor
        · rintro ⟨a, ha, e⟩
          exact ⟨a, List.mem_append_left _ ha, e⟩
        · rintro ⟨a, ha, e⟩
          rcases List.mem_append.mp ha with z | z
          · exact ⟨a, z, e⟩
          · rw [List.mem_singleton.mp z] at e
            exact (h2 S).mp (e ▸ hT)
      · rw [if_neg hT, List.mem_append, h2]
        constructor
        · rintro (⟨a, ha, e⟩ | z)
          · exact ⟨a, List.mem_append_left _ ha, e⟩
          · exact ⟨q, List.mem_append_right _ (List.mem_singleton.mpr rfl), (List.mem_singleton.mp z).symm⟩
        · rintro ⟨a, ha, e⟩
          rcases List.mem_append.mp ha with z | z
          · exact .inl ⟨a, z, e⟩
          · rw [List.mem_singleton.mp z] at e
            exact .inr (List.mem_singleton.mpr e.symm)
theorem kvF_len (ps : List (List Int × Int)) : (kvF ps).length ≤ ps.length := by
  induction ps using snoc_ind with
  | h0 => exact Nat.le_refl _
  | h1 ps q ih =>
    rw [kvF_snoc, List.length_append]
    have := putD_len (kvF ps) (kI q.1) (.int (atT ps q.1 + q.2))
    show _ ≤ ps.length + 1
    omega
theorem con_len (v : Int) (l : List (List Int)) : (conF v l).length ≤ l.length := by
  induction l using snoc_ind with
  | h0 => exact Nat.le_refl _
  | h1 l T ih =>
    rw [con_snoc, List.length_append]
    have := putD_len (conF v l) (kI T) (.int v)
    show _ ≤ l.length + 1
    omega
/-- what a beat adds -/
def adds (v : Int) (m : List Int) (ps : List (List Int × Int)) : List (List Int × Int) := ps.map fun q => (behindF q.1 q.2, wv v m q)
theorem atT_adds (v : Int) (m : List Int) (ps : List (List Int × Int)) (T : List Int) : atT (adds v m ps) T = ((ps.filter fun q => decide (behindF q.1 q.2 = T)).map (wv v m)).sum := by
  unfold atT adds
  rw [List.filter_map, List.map_map]
  rfl
theorem beat_ok {M : Nat} {L v : Int} {ks : List (List Int)} {m : List Int} (hL : 1 ≤ L) (nd : ks.Nodup) (hk : ∀ T, T ∈ ks ↔ SetIn M L T) (hm : m.length = M + 1) :
    ∃ ks2, DicOk (kvF (adds v m (prs ks L))) ks2 (atT (adds v m (prs ks L))) ∧ (∀ T, T ∈ ks2 ↔ SetIn M (L - 1) T) ∧ ∀ T, T ∈ ks2 → atT (adds v m (prs ks L)) T = v * m.sum := by
  obtain ⟨ks2, h1, h2⟩ := kvF_ok (adds v m (prs ks L))
  have key : ∀ T, T ∈ ks2 ↔ SetIn M (L - 1) T := fun T => by
    rw [h2]
    constructor
    · rintro ⟨q, hq, rfl⟩
      obtain ⟨p, hp, rfl⟩ := List.mem_map.mp hq
      obtain ⟨g1, g2⟩ := mem_prs.mp hp
      exact behind_in ((hk _).mp g1) g2
    · intro hT
      obtain ⟨g1, g2, g3, _⟩ := pre_ok hL hT (Nat.zero_le M)
      exact ⟨_, List.mem_map.mpr ⟨pre T 0, mem_prs.mpr ⟨(hk _).mpr g1, g2⟩, rfl⟩, g3⟩
  exact ⟨ks2, h1, key, fun T hT => by rw [atT_adds]; exact prs_sum hL nd hk hm ((key T).mp hT)⟩
theorem max_of : ∀ (a : Int) (l : List Int), ∃ m, m ∈ a :: l ∧ ∀ y, y ∈ a :: l → y ≤ m
  | a, [] => ⟨a, List.mem_cons_self, fun y hy => by rw [List.mem_singleton.mp hy]; exact Int.le_refl _⟩
  | a, b :: l => by
    obtain ⟨m, h1, h2⟩ := max_of b l
    by_cases h : a ≤ m
    · exact ⟨m, List.mem_cons_of_mem _ h1, fun y hy => (List.mem_cons.mp hy).elim (fun e => e ▸ h) (h2 y)⟩
    · exact ⟨a, List.mem_cons_self, fun y hy => (List.mem_cons.mp hy).elim (fun e => e ▸ Int.le_refl _) fun z => by have := h2 y z; omega⟩
end Py
namespace K83
open PySem L2 Py
open PySem.W (Frag)
open Evl (Ex tCut pss_cut)
local macro_rules | `(tactic| walk_at "lst") => `(tactic| first | exact LstAt.d | exact LstAt.s | exact LstAt.o (k := 0) rfl | exact LstAt.o (k := 1) rfl | exact LstAt.o (k := 2) rfl | exact LstAt.o (k := 3) rfl)
local macro_rules | `(tactic| walk_at "lso") => `(tactic| first | exact LstOwn.d | exact LstOwn.o (k := 0) rfl | exact LstOwn.o (k := 1) rfl | exact LstOwn.o (k := 2) rfl | exact LstOwn.o (k := 3) rfl)
local macro_rules | `(tactic| walk_at "ea") => `(tactic| first | exact ea_nil | (apply ea_cons <;> (first | walk_at "ev" | walk_at "ea" | skip)))
local macro_rules | `(tactic| walk_at "ev") => `(tactic| first
  | exact ev_d rfl | exact ev_v rfl | exact ev_int | exact ev_bl | exact ev_non | exact ev_str
  | (apply ev_opI <;> (try walk_at "ev"))
  | (apply ev_unI <;> (try walk_at "ev"))
  | (apply ev_opB <;> (try walk_at "ev"))
  | (apply ev_opIC <;> (try walk_at "ev"))
  | (apply ev_eqI <;> (try walk_at "ev"))
  | (apply ev_neI <;> (try walk_at "ev"))
  | (apply ev_eq <;> (first | rfl | (try walk_at "ev")))
  | (apply ev_ne <;> (first | rfl | (try walk_at "ev")))
  | (apply ev_isN <;> (try walk_at "ev"))
  | (apply ev_notN <;> (try walk_at "ev"))
  | (apply ev_int1 <;> (try walk_at "ev"))
  | (apply ev_max2 <;> (try walk_at "ev"))
  | (apply ev_min2 <;> (try walk_at "ev"))
  | (apply ev_l0 <;> (try walk_at "ev"))
  | (apply ev_t0 <;> (try walk_at "ev"))
  | (apply ev_l1 <;> (try walk_at "ev"))
  | (apply ev_t1 <;> (try walk_at "ev"))
  | (apply ev_l2 <;> (try walk_at "ev"))
  | (apply ev_t2 <;> (try walk_at "ev"))
  | (apply ev_l3 <;> (try walk_at "ev"))
  | (apply ev_t3 <;> (try walk_at "ev"))
  | (apply ev_l4 <;> (try walk_at "ev"))
  | (apply ev_t4 <;> (try walk_at "ev"))
  | (apply ev_l5 <;> (try walk_at "ev"))
  | (apply ev_t5 <;> (try walk_at "ev"))
  | (apply ev_l6 <;> (try walk_at "ev"))
  | (apply ev_t6 <;> (try walk_at "ev"))
  | (apply ev_l7 <;> (try walk_at "ev"))
  | (apply ev_t7 <;> (try walk_at "ev"))
  | (apply ev_ixT <;> (try walk_at "ev"))
  | (apply ev_lenT <;> (walk_at "ev"))
  | (apply ev_ixL <;> (first | walk_at "lst" | (try walk_at "ev")))
  | (apply ev_lenL <;> (first | walk_at "lst" | (try walk_at "ev"))))
local macro_rules | `(tactic| walk_at "et") => `(tactic| first
  | (apply et_not <;> (try walk_at "et"))
  | (apply et_test <;> (try walk_at "ev"))
  | (apply et_B <;> (try walk_at "ev"))
  | (apply et_and <;> (first | walk_at "et" | (intro _; try walk_at "et")))
  | (apply et_or <;> (first | walk_at "et" | (intro _; try walk_at "et"))))
local macro_rules | `(tactic| walk_at "slw") => `(tactic| repeat (first | exact SlW.nil | apply SlW.same | apply SlW.drop))
local macro_rules | `(tactic| walk_at "sub") => `(tactic| first | exact List.Sublist.refl _ | exact List.nil_sublist _ | (repeat (first | exact List.Sublist.slnil | apply List.Sublist.cons₂ | apply List.Sublist.cons)))
local macro_rules | `(tactic| walk_at "weak") => `(tactic| first | exact Weak.refl | exact weak_of (by walk_at "slw") (by walk_at "sub") (by walk_at "sub"))
local macro_rules | `(tactic| walk_at "nx") => `(tactic| (refine go_nxP ?_ rfl; walk_at "weak"))
def R__law_take (K : Frag) : List Slot → List (Addr × Cont) → Res → Prop := fun rs os res => ∃ (p : Addr) (ds : List Int) (n : Int), rs = [.v (.ref p), .d (.int n)] ∧ os = [(p, .lst (drw ds))] ∧ 0 < n ∧ res = .ret (.d (.int (tk ds n))) [(p, .lst (drw ds.tail))]
def R__law_draws (K : Frag) : List Slot → List (Addr × Cont) → Res → Prop := fun rs os res => ∃ (ns : List Int), rs = [.d (.scr ns)] ∧ os = [] ∧ res = .retN (.lst (drw (fwd ns))) []
def R_is_whole (K : Frag) : List Slot → List (Addr × Cont) → Res → Prop := fun rs os res => ∃ (x : D) (n : String), rs = [.d x] ∧ os = [] ∧ x.ty = some n ∧ (n = "int" ∨ n = "bool" ∨ n = "NoneType" ∨ n = "list" ∨ n = "tuple" ∨ n = "str") ∧ res = .ret (.d (.bl (decide (n = "int")))) []
def R_is_row (K : Frag) : List Slot → List (Addr × Cont) → Res → Prop := fun rs os res => ∃ (x : D) (n : String), rs = [.d x] ∧ os = [] ∧ x.ty = some n ∧ (n = "list" ∨ n = "tuple" ∨ n = "int" ∨ n = "NoneType") ∧ res = .ret (.d (.bl (decide (n = "list" ∨ n = "tuple")))) []
def R__place_set (K : Frag) : List Slot → List (Addr × Cont) → Res → Prop := fun rs os res => ∃ (x : D) (w : Int) (rr : Res), rs = [.d x, .d (.int w)] ∧ os = [] ∧ RPs K x w rr ∧ res = rr
def R_ways_into (K : Frag) : List Slot → List (Addr × Cont) → Res → Prop := fun rs os res => ∃ (g w : D) (rr : Res), rs = [.d g, .d w] ∧ os = [] ∧ RWi K g w rr ∧ res = rr
def R_starts_of (K : Frag) : List Slot → List (Addr × Cont) → Res → Prop := fun rs os res => ∃ (g w : D) (rr : Res), rs = [.d g, .d w] ∧ os = [] ∧ RSt K g w rr ∧ res = rr
def R__law_great (K : Frag) : List Slot → List (Addr × Cont) → Res → Prop := fun rs os res => ∃ (ns : List Int) (a lim : Int), rs = [.d (.scr ns), .d (.int a), .d (.int lim)] ∧ os = [] ∧ 0 ≤ a ∧ 0 ≤ lim ∧ lim ≤ 1000000000000 ∧ res = .ret (.d (.int (great ns a lim))) []
def R__law_whole (K : Frag) : List Slot → List (Addr × Cont) → Res → Prop := fun rs os res => ∃ (i : Int), rs = [.d (.int i)] ∧ os = [] ∧ res = .ret (.d (.bl true)) []
def R__law_wholes (K : Frag) : List Slot → List (Addr × Cont) → Res → Prop := fun rs os res => ∃ (ns : List Int), rs = [.d (.tup (ns.map D.int))] ∧ os = [] ∧ res = .ret (.d (.bl true)) []
def R__law_behind (K : Frag) : List Slot → List (Addr × Cont) → Res → Prop := fun rs os res => ∃ (hs : List Int) (h : Int), rs = [.d (.tup (hs.map D.int)), .d (.int h)] ∧ os = [] ∧ hs.length ≤ 5000 ∧ res = .ret (.d (.tup ((behindF hs h).map D.int))) []
def R__law_played (K : Frag) : List Slot → List (Addr × Cont) → Res → Prop := fun rs os res => ∃ (hs hts ms fin : List Int), rs = [.d (.tup (hs.map D.int)), .d (.tup (hts.map D.int))] ∧ os = [] ∧ Plays hs hts ms fin ∧ hts.length ≤ 1000 ∧ (∀ i, (((hts.take i).foldl behindF hs).length ≤ 5000)) ∧ res = .ret (.d (.lst [.lst (ms.map D.int), .tup (fin.map D.int)])) []
def R__law_places (K : Frag) : List Slot → List (Addr × Cont) → Res → Prop := fun rs os res => ∃ (p : Addr) (ds : List Int) (many span : Nat), rs = [.v (.ref p), .d (.int many), .d (.int span)] ∧ os = [(p, .lst (drw ds))] ∧ many ≤ span ∧ span ≤ 1000 ∧ res = .ret (.d (.lst ((plc many span ds).map D.int))) [(p, .lst (drw (plcD many span ds)))]
def R__law_all_rows (K : Frag) : List Slot → List (Addr × Cont) → Res → Prop := fun rs os res => ∃ (n most : Nat), rs = [.d (.int n), .d (.int most)] ∧ os = [] ∧ n ≤ 3 ∧ most ≤ 3 ∧ res = .ret (.d (.lst ((rowsF most n).map fun r => .lst (r.map D.int)))) []
def R__law_all_sets (K : Frag) : List Slot → List (Addr × Cont) → Res → Prop := fun rs os res => ∃ (n span : Nat), rs = [.d (.int n), .d (.int span)] ∧ os = [] ∧ n ≤ 3 ∧ span ≤ 12 ∧ res = .ret (.d (.lst ((setsF span n).map fun r => .tup (r.map D.int)))) []
def R__law_product (K : Frag) : List Slot → List (Addr × Cont) → Res → Prop := fun rs os res => ∃ (k : Nat) (ms : List (List Int)), rs = [.d (.lst (ms.map fun m => .lst (m.map D.int)))] ∧ os = [] ∧ GoodW k ms ∧ res = .ret (.d (.int (prodL ms))) []
def R__law_weights (K : Frag) : List Slot → List (Addr × Cont) → Res → Prop := fun rs os res => ∃ (p : Addr) (ds ns : List Int) (beats many : Nat), rs = [.v (.ref p), .d (.scr ns), .d (.int beats), .d (.int many)] ∧ os = [(p, .lst (drw ds))] ∧ beats ≤ 1000 ∧ many ≤ 1000 ∧ res = .ret (.d (.lst ((wRows ns ds many beats).1.map fun m => .lst (m.map D.int)))) [(p, .lst (drw (wRows ns ds many beats).2))]
def R__law_one_way (K : Frag) : List Slot → List (Addr × Cont) → Res → Prop := fun rs os res => ∃ (ns ms : List Int), rs = [.d (.lst (ns.map D.int)), .d (.lst (ms.map D.int))] ∧ os = [] ∧ GoodS (.lst (ns.map D.int)) ns ∧ GoodN ns.length ms ∧ res = .ret (.d (.bl true)) []
def R__law_trouble (K : Frag) : List Slot → List (Addr × Cont) → Res → Prop := fun rs os res => ∃ (a : Int) (g w x : D), rs = [.d (.int a), .d g, .d w] ∧ os = [] ∧ RTr K a g w x ∧ res = .ret (.d x) []
def R__law_refusals (K : Frag) : List Slot → List (Addr × Cont) → Res → Prop := fun rs os res => ∃ (p : Addr) (ds ns : List Int), rs = [.v (.ref p), .d (.lst (ns.map D.int))] ∧ os = [(p, .lst (drw ds))] ∧ GoodS (.lst (ns.map D.int)) ns ∧ res = .ret (.d (.bl true)) [(p, .lst (drw ds.tail.tail.tail.tail))]
def R__law_great_ways (K : Frag) : List Slot → List (Addr × Cont) → Res → Prop := fun rs os res => ∃ (p : Addr) (ds ns : List Int), rs = [.v (.ref p), .d (.scr ns)] ∧ os = [(p, .lst (drw ds))] ∧ res = .ret (.d (.bl true)) [(p, .lst (drw (wRows ns (dro (plcD (tk ds 21).toNat (20 + tk ds.tail 60).toNat ds.tail.tail).tail (tk (plcD (tk ds 21).toNat (20 + tk ds.tail 60).toNat ds.tail.tail) 121).toNat) (tk ds 21).toNat (tk (plcD (tk ds 21).toNat (20 + tk ds.tail 60).toNat ds.tail.tail) 121).toNat).2))]
def R__law_counted (K : Frag) : List Slot → List (Addr × Cont) → Res → Prop := fun rs os res => ∃ (ns : List Int) (ms : List (List Int)), rs = [.d (.lst (ns.map D.int)), .d (.lst (ms.map fun m => .lst (m.map D.int)))] ∧ os = [] ∧ GoodS (.lst (ns.map D.int)) ns ∧ ns.length ≤ 3 ∧ (∀ x, x ∈ ns → x < 6) ∧ GoodW ns.length ms ∧ ms.length ≤ 3 ∧ (∀ m, m ∈ ms → ∀ x, x ∈ m → x.natAbs ≤ 1000000000000) ∧ res = .ret (.d (.int (prodL ms))) []
def R_law (K : Frag) : List Slot → List (Addr × Cont) → Res → Prop := fun rs os res => ∃ (ns : List Int), rs = [.d (.scr ns)] ∧ os = [] ∧ res = .ret (.d (.bl true)) []

section
variable {P : Program} {w : World} {K : Frag} {mg : Str → Option Value} {base : Heap}
def N__law_take : List Str := ["draws", "many"]
theorem sc__law_take : FnScope N__law_take ["draws", "many"] (defScope s__law_take) := ⟨rfl, rfl, rfl, by decide +kernel, rfl, by decide +kernel, by decide +kernel⟩
theorem ok__law_take (T : Top fa fn ex K mg) {fd : FuncData} (F0 : FunD K d__law_take.name d__law_take.qual d__law_take.params d__law_take.body d__law_take.scope (d__law_take.dvs K) (d__law_take.kws K) (d__law_take.at_ K) fd) : Cal P w K mg base CX0 1 "_law_take" ["draws", "many"] (Prm K (R__law_take K)) (d__law_take.at_ K) fd := by
  have F : Fun K "_law_take" "_law_take" s__law_take _ fd := He5.fun_of F0
  refine ⟨F.ok sc__law_take (prm_len ?_) (fun cdv A outer s H vs Q E hr h => ?_), T.glo 10 _ rfl, F.kp, F.binds (ps := ["draws", "many"]) fun _ _ _ _ _ _ us hl => match us, hl with | [_, _], _ => rfl⟩
  · rintro rs os res ⟨p, ds, n, rfl, _⟩; rfl
  obtain ⟨G, rs, os, res, hR, hP, hS⟩ := prm_open (N := N__law_take) h
  obtain ⟨p, ds, n, rfl, rfl, h1, rfl⟩ := hR
  have nd := sc__law_take.nd
  have hu := hu_of hr
  refine ⟨_, (pss_cut (ps_if (pt_cmpR op_eq (pe_callB call_len_seq (by rfl) (T.free 31 _ rfl) (by decide +kernel) (pa_cons (pv 0) pa_nil)) pe_int (nomark _))
  (pss_cut (ps_ret pe_int)
  pss_nil)
  pss_nil)
  (pss_cut (ps_ret (pe_op op_mod (pe_callTy call_int1 (by rfl) (T.free 29 _ rfl) (by decide +kernel) (pa_cons (pe_bm0 PySem.F.plainAttrs_list PySem.F.slot_list_pop PySem.F.type_list_pop mt_pop (pv 0)) pa_nil)) (pv 1)))
  pss_nil)), start_go hS (Nat.le_of_ble_eq_true rfl) ?_⟩
  cases ds with
  | nil =>
    refine go_ifR (by walk_at "et") (fun _ => ?_) (fun z => ?_)
    · exact go_ret (by walk_at "ev") (ret_of hP (by simp) rfl)
    · simp [drw] at z
  | cons d ds =>
    refine go_ifR (by walk_at "et") (fun z => ?_) (fun _ => ?_)
    · rw [drw_len] at z
      simp at z
      omega
    · refine go_ret (ev_opIC (ev_int1 (ev_pop (k := 0) (p := p) (xs := drw ds) (x := .int d) (by walk_at "ev") (by show some (p, Cont.lst (drw (d :: ds))) = _; rw [drw_cons]))) (by walk_at "ev") h1) (ret_of hP ?_ rfl)
      simp
end

section
variable {P : Program} {w : World} {K : Frag} {mg : Str → Option Value} {base : Heap}
def N__law_draws : List Str := ["script", "draws", "at", "cell", "odd", "turn", "number"]
theorem sc__law_draws : FnScope N__law_draws ["script"] (defScope s__law_draws) := ⟨rfl, rfl, rfl, by decide +kernel, rfl, by decide +kernel, by decide +kernel⟩
theorem ok__law_draws (T : Top fa fn ex K mg) {fd : FuncData} (F0 : FunD K d__law_draws.name d__law_draws.qual d__law_draws.params d__law_draws.body d__law_draws.scope (d__law_draws.dvs K) (d__law_draws.kws K) (d__law_draws.at_ K) fd) : Cal P w K mg base CX0 1 "_law_draws" ["script"] (Prm K (R__law_draws K)) (d__law_draws.at_ K) fd := by
  have F : Fun K "_law_draws" "_law_draws" s__law_draws _ fd := He5.fun_of F0
  refine ⟨F.ok sc__law_draws (prm_len ?_) (fun cdv A outer s H vs Q E hr h => ?_), T.glo 9 _ rfl, F.kp, F.binds (ps := ["script"]) fun _ _ _ _ _ _ us hl => match us, hl with | [_], _ => rfl⟩
  · rintro rs os res ⟨ns, rfl, _⟩; rfl
  obtain ⟨G, rs, os, res, hR, hP, hS⟩ := prm_open (N := N__law_draws) h
  obtain ⟨ns, rfl, rfl, rfl⟩ := hR
  have nd := sc__law_draws.nd
  have hu := hu_of hr
  refine ⟨_, (pss_cut (ps_set (i := 1) nd rfl (by first | exact Or.inl rfl | exact Or.inr rfl) (pe_lst pa_nil))
  (pss_cut (ps_for PassesOwn.never rfl (pi_range1 (by rfl) (T.free 35 _ rfl) (pa_cons (pe_callB (call_min2 rfl) (by rfl) (T.free 34 _ rfl) (by decide +kernel) (pa_cons (pe_callB call_len_seq (by rfl) (T.free 31 _ rfl) (by decide +kernel) (pa_cons (pv 0) pa_nil)) (pa_cons pe_int pa_nil))) pa_nil)) (pg_name (i := 2) nd rfl (by first | exact Or.inl rfl | exact Or.inr rfl))
  (pss_cut (ps_set (i := 3) nd rfl (by first | exact Or.inl rfl | exact Or.inr rfl) (pe_callTy call_int1 (by rfl) (T.free 29 _ rfl) (by decide +kernel) (pa_cons (pe_ix ix_list (pv 0) (pv 2) (fun _ _ => rfl)) pa_nil)))
  (pss_cut (ps_set (i := 4) nd rfl (by first | exact Or.inl rfl | exact Or.inr rfl) pe_int)
  (pss_cut (ps_if (pt_cmpR op_lt (pv 3) pe_int (nomark _))
  (pss_cut (ps_set (i := 3) nd rfl (by first | exact Or.inl rfl | exact Or.inr rfl) (pe_un un_neg (pv 3)))
  (pss_cut (ps_set (i := 4) nd rfl (by first | exact Or.inl rfl | exact Or.inr rfl) pe_int)
  pss_nil))
  pss_nil)
  (pss_cut (ps_if (pt_cmpR op_ge (pv 3) (pe_op op_pow pe_int pe_int) (nomark _))
  (pss_cut (ps_for PassesOwn.never rfl (pi_range1 (by rfl) (T.free 35 _ rfl) (pa_cons pe_int pa_nil)) (pg_name (i := 5) nd rfl (by first | exact Or.inl rfl | exact Or.inr rfl))
  (pss_cut (ps_if (pt_cmpR op_gt (pv 3) pe_int (nomark _))
  (pss_cut (ps_expr (pe_bm PySem.F.plainAttrs_list PySem.F.slot_list_append PySem.F.type_list_append mt_append (pv 1) (pa_cons (pe_op op_mod (pe_callTy call_int1 (by rfl) (T.free 29 _ rfl) (by decide +kernel) (pa_cons (pv 3) pa_nil)) pe_int) pa_nil)))
  (pss_cut (ps_set (i := 3) nd rfl (by first | exact Or.inl rfl | exact Or.inr rfl) (pe_op op_fdivW (pv 3) pe_int))
  pss_nil))
  pss_nil)
  pss_nil))
  pss_nil)
  (pss_cut (ps_set (i := 6) nd rfl (by first | exact Or.inl rfl | exact Or.inr rfl) (pe_op op_mod (pe_callTy call_int1 (by rfl) (T.free 29 _ rfl) (by decide +kernel) (pa_cons (pe_op op_add (pe_op op_add (pe_op op_add (pe_op op_mulW (pv 3) pe_int) (pe_op op_mulW (pv 2) pe_int)) (pe_op op_mulW (pv 4) pe_int)) pe_int) pa_nil)) pe_int))
  (pss_cut (ps_for PassesOwn.never rfl (pi_range1 (by rfl) (T.free 35 _ rfl) (pa_cons pe_int pa_nil)) (pg_name (i := 5) nd rfl (by first | exact Or.inl rfl | exact Or.inr rfl))
  (pss_cut (ps_set (i := 6) nd rfl (by first | exact Or.inl rfl | exact Or.inr rfl) (pe_op op_mod (pe_callTy call_int1 (by rfl) (T.free 29 _ rfl) (by decide +kernel) (pa_cons (pe_op op_add (pe_op op_add (pe_op op_add (pe_op op_mulW (pv 6) (pv 6)) (pe_op op_mulW (pv 5) pe_int)) (pe_op op_mulW (pv 2) pe_int)) pe_int) pa_nil)) pe_int))
  (pss_cut (ps_expr (pe_bm PySem.F.plainAttrs_list PySem.F.slot_list_append PySem.F.type_list_append mt_append (pv 1) (pa_cons (pv 6) pa_nil)))
  pss_nil)))
  pss_nil)))
  pss_nil)))))
  (pss_cut (ps_expr (pe_bm0 PySem.F.plainAttrs_list PySem.F.slot_list_reverse PySem.F.type_list_reverse mt_reverse (pv 1)))
  (pss_cut (ps_ret (pv 1))
  pss_nil)))), start_go hS (Nat.le_of_ble_eq_true rfl) ?_⟩
  refine go_setN evN_l0 fun p => ?_
  refine go_forR1 (fun i => ⟨[.d (.scr ns), .v (.ref p), .any, .any, .any, .any, .any], [(p, .lst ((cellsD 0 (ns.take i)).map D.int))], []⟩) (ea_cons (ev_min2 (by walk_at "ev") (by walk_at "ev")) ea_nil) (by omega) (by walk_at "weak") (fun v i hi => ?_) ?_ (by omega)
  · rw [List.length_map] at hi
    have hil : i < ns.length := by omega
    obtain ⟨c, hc⟩ : ∃ c, ns[i]? = some c := ⟨ns[i], List.getElem?_eq_getElem hil⟩
    have hpre := cellsD_len (ns.take i) 0
    rw [List.length_take] at hpre
    generalize epre : (cellsD 0 (ns.take i)) = pre at hpre
    have eall : cellsD 0 (ns.take (i + 1)) = pre ++ cellD i c := by
      rw [take_one hc, cellsD_end, epre, List.length_take, Nat.min_eq_left (by omega), Nat.zero_add]
    refine go_set (ev_int1 (ev_ixL (x := .int c) (ev_d rfl) (ev_d rfl) .s (by rw [atI_nat', List.getElem?_map, hc]; rfl))) ?_
    refine go_set ev_int ?_
    generalize eac : (if c < 0 then -c else c) = ac
    generalize eod : (if c < 0 then (1 : Int) else 0) = od
    have hac : 0 ≤ ac := by rw [← eac]; split <;> omega
    have hod : 0 ≤ od ∧ od ≤ 1 := by rw [← eod]; split <;> omega
    refine go_if ⟨[.d (.scr ns), .v (.ref p), .d (.int i), .d (.int ac), .d (.int od), .any, .any], [(p, .lst (pre.map D.int))], [(v, .any)]⟩ (by walk_at "et") (fun hb => ?_) (fun hb => ?_) ?_
    · have hb' : c < 0 := of_decide_eq_true hb
      rw [if_pos hb'] at eac eod
      subst eac eod
      exact go_set (by walk_at "ev") (go_set (by walk_at "ev") (by walk_at "nx"))
    · have hb' : ¬ c < 0 := of_decide_eq_false hb
      rw [if_neg hb'] at eac eod
      subst eac eod
      walk_at "nx"
    refine go_if ⟨[.d (.scr ns), .v (.ref p), .any, .any, .any, .any, .any], [(p, .lst ((pre ++ cellD i c).map D.int))], [(v, .any)]⟩ (et_test (ev_opB (ev_d rfl) (ev_opIC ev_int ev_int ⟨by decide, by decide, by decide⟩))) (fun hb => ?_) (fun hb => ?_) ?_
    · have hb' : (10 : Int) ^ 18 ≤ ac := of_decide_eq_true hb
      have ecell : cellD i c = digs 48 ac := by
        unfold cellD
        rw [eac, if_pos hb']
      refine go_forR1 (fun t => ⟨[.d (.scr ns), .v (.ref p), .d (.int i), .d (.int (digI t ac)), .d (.int od), .any, .any], [(p, .lst ((pre ++ digs t ac).map D.int))], [(v, .any)]⟩) (ea_cons ev_int ea_nil) (by decide) ?_ (fun v2 t ht => ?_) ?_ (by decide)
      · show Weak _ _ ⟨_, [(p, Cont.lst ((pre ++ []).map D.int))], _⟩
        rw [List.append_nil]
        walk_at "weak"
      · have hdl := digs_len t ac
        refine go_if ⟨[.d (.scr ns), .v (.ref p), .d (.int i), .d (.int (digI (t + 1) ac)), .d (.int od), .any, .any], [(p, .lst ((pre ++ digs (t + 1) ac).map D.int))], [(v2, .any), (v, .any)]⟩ (by walk_at "et") (fun hb2 => ?_) (fun hb2 => ?_) (by walk_at "nx")
        · have hb2' : 0 < digI t ac := of_decide_eq_true hb2
          have e1 : digI (t + 1) ac = digI t ac / 30 := if_pos hb2'
          have e2 : (pre ++ digs (t + 1) ac).map D.int = (pre ++ digs t ac).map D.int ++ [.int (digI t ac % 30)] := by
            rw [digs_end, if_pos hb2', ← List.append_assoc, List.map_append]
            rfl
          rw [e1, e2]
          refine go_append (k := 0) (ev_v rfl) (ev_opIC (ev_int1 (by walk_at "ev")) (by walk_at "ev") (by show (0 : Int) < 30; decide)) rfl rfl (by rw [List.length_map, List.length_append]; omega) ?_
          exact go_set (ev_opIC (by walk_at "ev") (by walk_at "ev") (cdiv30 ⟨by decide, by decide⟩)) (by walk_at "nx")
        · have hb2' : ¬ 0 < digI t ac := of_decide_eq_false hb2
          have e1 : digI (t + 1) ac = digI t ac := if_neg hb2'
          have e2 : digs (t + 1) ac = digs t ac := by
            rw [digs_end, if_neg hb2', List.append_nil]
          rw [e1, e2]
          walk_at "nx"
      · rw [ecell]
        walk_at "nx"
    · have hb' : ¬ (10 : Int) ^ 18 ≤ ac := of_decide_eq_false hb
      have e18 : (10 : Int) ^ 18 = 1000000000000000000 := by decide
      have ecell : cellD i c = nums i 6 0 ((ac * 7919 + i * 104729 + od * 31 + 5) % 999983) := by
        unfold cellD
        rw [eac, eod, if_neg hb']
      generalize ex : (ac * 7919 + (i : Int) * 104729 + od * 31 + 5) % 999983 = x at ecell
      have hx : 0 ≤ x ∧ x < 1000003 := by
        rw [← ex]
        have h1 := Int.emod_nonneg (ac * 7919 + (i : Int) * 104729 + od * 31 + 5) (show (999983 : Int) ≠ 0 by decide)
        have h2 := Int.emod_lt_of_pos (ac * 7919 + (i : Int) * 104729 + od * 31 + 5) (show (0 : Int) < 999983 by decide)
        omega
      refine go_set (ev_is (ev_opIC (ev_int1 (ev_opI (ev_opI (ev_opI (ev_opIC (by walk_at "ev") (by walk_at "ev") (cmul64 ⟨by omega, by omega⟩ ⟨by decide, by decide⟩)) (ev_opIC (by walk_at "ev") (by walk_at "ev") (cmul64 ⟨by omega, by omega⟩ ⟨by decide, by decide⟩))) (ev_opIC (by walk_at "ev") (by walk_at "ev") (cmul64 ⟨by omega, by omega⟩ ⟨by decide, by decide⟩))) (by walk_at "ev"))) (by walk_at "ev") (by show (0 : Int) < 999983; decide)) (congrArg D.int ex)) ?_
      refine go_forR1 (fun t => ⟨[.d (.scr ns), .v (.ref p), .d (.int i), .d (.int ac), .d (.int od), .any, .d (.int (numI i t 0 x))], [(p, .lst ((pre ++ nums i t 0 x).map D.int))], [(v, .any)]⟩) (ea_cons ev_int ea_nil) (by decide) ?_ (fun v2 t ht => ?_) ?_ (by decide)
      · show Weak _ _ ⟨_, [(p, Cont.lst ((pre ++ []).map D.int))], _⟩
        rw [List.append_nil]
        walk_at "weak"
      · have hr1 := numI_rng i hx t 0
        have hl1 := nums_len i t 0 x
        have e2 : (pre ++ nums i (t + 1) 0 x).map D.int = (pre ++ nums i t 0 x).map D.int ++ [.int (numI i (t + 1) 0 x)] := by
          rw [nums_end, ← List.append_assoc, List.map_append]
          rfl
        refine go_set (ev_is (y := .int (numI i (t + 1) 0 x)) (ev_opIC (ev_int1 (ev_opI (ev_opI (ev_opI (ev_opIC (by walk_at "ev") (by walk_at "ev") (cmul64 ⟨by omega, by omega⟩ ⟨by omega, by omega⟩)) (ev_opIC (by walk_at "ev") (by walk_at "ev") (cmul64 ⟨by omega, by omega⟩ ⟨by decide, by decide⟩))) (ev_opIC (by walk_at "ev") (by walk_at "ev") (cmul64 ⟨by omega, by omega⟩ ⟨by decide, by decide⟩))) (by walk_at "ev"))) (by walk_at "ev") (by show (0 : Int) < 1000003; decide)) ?_) ?_
        · show D.int _ = D.int (numStep i (0 + t) (numI i t 0 x))
          unfold numStep
          rw [Nat.zero_add]
        · rw [e2]
          exact go_append (k := 0) (ev_v rfl) (by walk_at "ev") rfl rfl (by rw [List.length_map, List.length_append, hl1]; omega) (by walk_at "nx")
      · rw [ecell]
        walk_at "nx"
    · rw [eall]
      walk_at "nx"
  · rw [List.length_map]
    have em : (min (ns.length : Int) 63).toNat = min ns.length 63 := by omega
    rw [em]
    have ef : cellsD 0 (ns.take (min ns.length 63)) = fwd ns := by
      unfold fwd
      rw [Nat.min_comm, ← List.take_eq_take_min]
    rw [ef]
    refine go_drop (ev_reverse (k := 0) (p := p) (ev_v rfl) rfl) ?_
    have er : ((fwd ns).map D.int).reverse = drw (fwd ns) := by
      unfold drw
      rw [List.map_reverse]
    rw [er]
    exact go_ret (ev_v rfl) (retN_of (q := p) hP (by simp) (by simp) (by simp) rfl)
end

section
variable {P : Program} {w : World} {K : Frag} {mg : Str → Option Value} {base : Heap}
theorem sc_BadRow : FnScope ["self", "place"] ["self", "place"] (defScope s_BadRow___init__) := ⟨rfl, rfl, rfl, by decide +kernel, rfl, by decide +kernel, by decide +kernel⟩
theorem ok_BadRow {fd : FuncData} (F0 : FunD K d_BadRow___init__.name d_BadRow___init__.qual d_BadRow___init__.params d_BadRow___init__.body d_BadRow___init__.scope (d_BadRow___init__.dvs K) (d_BadRow___init__.kws K) (d_BadRow___init__.at_ K) fd) : CalI P w K mg base 1 ["self", "place"] (spI "place" K) (He.ma K (He.ga K "BadRow") "__init__") fd := by
  have F : Fun K "__init__" "BadRow.__init__" s_BadRow___init__ _ fd := He5.fun_of F0
  refine ⟨F.ok sc_BadRow (fun vs H Q E h => ?_) (fun cdv A outer s H vs Q E hr h => ?_), F.binds (ps := ["self", "place"]) fun _ _ _ _ _ _ us hl => match us, hl with | [_, _], _ => rfl⟩
  · obtain ⟨a, C, v, rfl, _⟩ := h
    rfl
  · obtain ⟨a, C, v, rfl, h1, h2, h3, k⟩ := h
    refine ⟨_, pss_one (ps_ost (pv 0) (pv 1)), ?_⟩
    exact ⟨v, rfl, .ref a, rfl, a, C, rfl, h2, h3, .inl ⟨h1, fun dx n1 n2 => k dx n1 n2⟩⟩
end

section
variable {P : Program} {w : World} {K : Frag} {mg : Str → Option Value} {base : Heap}
theorem sc_BadSet : FnScope ["self", "place"] ["self", "place"] (defScope s_BadSet___init__) := ⟨rfl, rfl, rfl, by decide +kernel, rfl, by decide +kernel, by decide +kernel⟩
theorem ok_BadSet {fd : FuncData} (F0 : FunD K d_BadSet___init__.name d_BadSet___init__.qual d_BadSet___init__.params d_BadSet___init__.body d_BadSet___init__.scope (d_BadSet___init__.dvs K) (d_BadSet___init__.kws K) (d_BadSet___init__.at_ K) fd) : CalI P w K mg base 1 ["self", "place"] (spI "place" K) (He.ma K (He.ga K "BadSet") "__init__") fd := by
  have F : Fun K "__init__" "BadSet.__init__" s_BadSet___init__ _ fd := He5.fun_of F0
  refine ⟨F.ok sc_BadSet (fun vs H Q E h => ?_) (fun cdv A outer s H vs Q E hr h => ?_), F.binds (ps := ["self", "place"]) fun _ _ _ _ _ _ us hl => match us, hl with | [_, _], _ => rfl⟩
  · obtain ⟨a, C, v, rfl, _⟩ := h
    rfl
  · obtain ⟨a, C, v, rfl, h1, h2, h3, k⟩ := h
    refine ⟨_, pss_one (ps_ost (pv 0) (pv 1)), ?_⟩
    exact ⟨v, rfl, .ref a, rfl, a, C, rfl, h2, h3, .inl ⟨h1, fun dx n1 n2 => k dx n1 n2⟩⟩
end

section
variable {P : Program} {w : World} {K : Frag} {mg : Str → Option Value} {base : Heap}
theorem sc_BadWeights : FnScope ["self", "place"] ["self", "place"] (defScope s_BadWeights___init__) := ⟨rfl, rfl, rfl, by decide +kernel, rfl, by decide +kernel, by decide +kernel⟩
theorem ok_BadWeights {fd : FuncData} (F0 : FunD K d_BadWeights___init__.name d_BadWeights___init__.qual d_BadWeights___init__.params d_BadWeights___init__.body d_BadWeights___init__.scope (d_BadWeights___init__.dvs K) (d_BadWeights___init__.kws K) (d_BadWeights___init__.at_ K) fd) : CalI P w K mg base 1 ["self", "place"] (spI "place" K) (He.ma K (He.ga K "BadWeights") "__init__") fd := by
  have F : Fun K "__init__" "BadWeights.__init__" s_BadWeights___init__ _ fd := He5.fun_of F0
  refine ⟨F.ok sc_BadWeights (fun vs H Q E h => ?_) (fun cdv A outer s H vs Q E hr h => ?_), F.binds (ps := ["self", "place"]) fun _ _ _ _ _ _ us hl => match us, hl with | [_, _], _ => rfl⟩
  · obtain ⟨a, C, v, rfl, _⟩ := h
    rfl
  · obtain ⟨a, C, v, rfl, h1, h2, h3, k⟩ := h
    refine ⟨_, pss_one (ps_ost (pv 0) (pv 1)), ?_⟩
    exact ⟨v, rfl, .ref a, rfl, a, C, rfl, h2, h3, .inl ⟨h1, fun dx n1 n2 => k dx n1 n2⟩⟩
end

section
variable {P : Program} {w : World} {K : Frag} {mg : Str → Option Value} {base : Heap}
def N_is_whole : List Str := ["value"]
theorem sc_is_whole : FnScope N_is_whole ["value"] (defScope s_is_whole) := ⟨rfl, rfl, rfl, by decide +kernel, rfl, by decide +kernel, by decide +kernel⟩
theorem ok_is_whole (T : Top fa fn ex K mg) {fd : FuncData} (F0 : FunD K d_is_whole.name d_is_whole.qual d_is_whole.params d_is_whole.body d_is_whole.scope (d_is_whole.dvs K) (d_is_whole.kws K) (d_is_whole.at_ K) fd) : Cal P w K mg base CX0 1 "is_whole" ["value"] (Prm K (R_is_whole K)) (d_is_whole.at_ K) fd := by
  have F : Fun K "is_whole" "is_whole" s_is_whole _ fd := He5.fun_of F0
  refine ⟨F.ok sc_is_whole (prm_len ?_) (fun cdv A outer s H vs Q E hr h => ?_), T.glo 4 _ rfl, F.kp, F.binds (ps := ["value"]) fun _ _ _ _ _ _ us hl => match us, hl with | [_], _ => rfl⟩
  · rintro rs os res ⟨x, n, rfl, _⟩; rfl
  obtain ⟨G, rs, os, res, hR, hP, hS⟩ := prm_open (N := N_is_whole) h
  obtain ⟨x, n, rfl, rfl, h1, h2, rfl⟩ := hR
  have nd := sc_is_whole.nd
  have hu := hu_of hr
  refine ⟨_, (pss_cut (ps_ret (pe_and (pe_callB call_isi (by rfl) (T.free 30 _ rfl) (by decide +kernel) (pa_cons (pv 0) (pa_cons (pe_bltn (v := .ty "int") (by rfl) (T.free 29 _ rfl) (by decide +kernel) rfl) pa_nil))) (pe_one (pe_not (pe_callB call_isi (by rfl) (T.free 30 _ rfl) (by decide +kernel) (pa_cons (pv 0) (pa_cons (pe_bltn (v := .ty "bool") (by rfl) (T.free 28 _ rfl) (by decide +kernel) rfl) pa_nil)))))))
  pss_nil), start_go hS (Nat.le_of_ble_eq_true rfl) ?_⟩
  have hx := h1
  have hn := h2
  rcases hn with rfl | rfl | rfl | rfl | rfl | rfl
  · exact go_ret (ev_is (ev_andV (ev_isi hx (ev_d rfl) (b := true) (by decide +kernel)) (fun _ => ev_notV (ev_isi hx (ev_d rfl) (b := false) (by decide +kernel)))) (by simp)) (ret_of hP (by simp) rfl)
  · exact go_ret (ev_is (ev_andV (ev_isi hx (ev_d rfl) (b := true) (by decide +kernel)) (fun _ => ev_notV (ev_isi hx (ev_d rfl) (b := true) (by decide +kernel)))) (by simp)) (ret_of hP (by simp) rfl)
  · exact go_ret (ev_is (ev_andV (b := false) (ev_isi hx (ev_d rfl) (b := false) (by decide +kernel)) (fun z => nomatch z)) (by simp)) (ret_of hP (by simp) rfl)
  · exact go_ret (ev_is (ev_andV (b := false) (ev_isi hx (ev_d rfl) (b := false) (by decide +kernel)) (fun z => nomatch z)) (by simp)) (ret_of hP (by simp) rfl)
  · exact go_ret (ev_is (ev_andV (b := false) (ev_isi hx (ev_d rfl) (b := false) (by decide +kernel)) (fun z => nomatch z)) (by simp)) (ret_of hP (by simp) rfl)
  · exact go_ret (ev_is (ev_andV (b := false) (ev_isi hx (ev_d rfl) (b := false) (by decide +kernel)) (fun z => nomatch z)) (by simp)) (ret_of hP (by simp) rfl)
end

section
variable {P : Program} {w : World} {K : Frag} {mg : Str → Option Value} {base : Heap}
def N_is_row : List Str := ["value"]
theorem sc_is_row : FnScope N_is_row ["value"] (defScope s_is_row) := ⟨rfl, rfl, rfl, by decide +kernel, rfl, by decide +kernel, by decide +kernel⟩
theorem ok_is_row (T : Top fa fn ex K mg) {fd : FuncData} (F0 : FunD K d_is_row.name d_is_row.qual d_is_row.params d_is_row.body d_is_row.scope (d_is_row.dvs K) (d_is_row.kws K) (d_is_row.at_ K) fd) : Cal P w K mg base CX0 1 "is_row" ["value"] (Prm K (R_is_row K)) (d_is_row.at_ K) fd := by
  have F : Fun K "is_row" "is_row" s_is_row _ fd := He5.fun_of F0
  refine ⟨F.ok sc_is_row (prm_len ?_) (fun cdv A outer s H vs Q E hr h => ?_), T.glo 5 _ rfl, F.kp, F.binds (ps := ["value"]) fun _ _ _ _ _ _ us hl => match us, hl with | [_], _ => rfl⟩
  · rintro rs os res ⟨x, n, rfl, _⟩; rfl
  obtain ⟨G, rs, os, res, hR, hP, hS⟩ := prm_open (N := N_is_row) h
  obtain ⟨x, n, rfl, rfl, h1, h2, rfl⟩ := hR
  have nd := sc_is_row.nd
  have hu := hu_of hr
  refine ⟨_, (pss_cut (ps_ret (pe_callB call_isiT (by rfl) (T.free 30 _ rfl) (by decide +kernel) (pa_cons (pv 0) (pa_cons (pe_tup (pa_cons (pe_bltn (v := .ty "list") (by rfl) (T.free 32 _ rfl) (by decide +kernel) rfl) (pa_cons (pe_bltn (v := .ty "tuple") (by rfl) (T.free 39 _ rfl) (by decide +kernel) rfl) pa_nil))) pa_nil))))
  pss_nil), start_go hS (Nat.le_of_ble_eq_true rfl) ?_⟩
  have hx := h1
  have hn := h2
  rcases hn with rfl | rfl | rfl | rfl
  · exact go_ret (ev_is (ev_isi2 hx (ev_d rfl) (b := true) (b' := false) (by decide +kernel) (by decide +kernel)) (by simp)) (ret_of hP (by simp) rfl)
  · exact go_ret (ev_is (ev_isi2 hx (ev_d rfl) (b := false) (b' := true) (by decide +kernel) (by decide +kernel)) (by simp)) (ret_of hP (by simp) rfl)
  · exact go_ret (ev_is (ev_isi2 hx (ev_d rfl) (b := false) (b' := false) (by decide +kernel) (by decide +kernel)) (by simp)) (ret_of hP (by simp) rfl)
  · exact go_ret (ev_is (ev_isi2 hx (ev_d rfl) (b := false) (b' := false) (by decide +kernel) (by decide +kernel)) (by simp)) (ret_of hP (by simp) rfl)
end

section
variable {P : Program} {w : World} {K : Frag} {mg : Str → Option Value} {base : Heap}
def N__place_set : List Str := ["value", "which", "place", "found", "at"]
theorem sc__place_set : FnScope N__place_set ["value", "which"] (defScope s__place_set) := ⟨rfl, rfl, rfl, by decide +kernel, rfl, by decide +kernel, by decide +kernel⟩
theorem ok__place_set (T : Top fa fn ex K mg) {fd : FuncData} (F0 : FunD K d__place_set.name d__place_set.qual d__place_set.params d__place_set.body d__place_set.scope (d__place_set.dvs K) (d__place_set.kws K) (d__place_set.at_ K) fd) {f_is_row : Addr} {fd_is_row : FuncData} (c_is_row : Cal P w K mg base CX0 1 "is_row" ["value"] (Prm K (R_is_row K)) f_is_row fd_is_row) {fd_BadSet : FuncData} (c_BadSet : CalI P w K mg base 1 ["self", "place"] (spI "place" K) (He.ma K (He.ga K "BadSet") "__init__") fd_BadSet) {f_is_whole : Addr} {fd_is_whole : FuncData} (c_is_whole : Cal P w K mg base CX0 1 "is_whole" ["value"] (Prm K (R_is_whole K)) f_is_whole fd_is_whole) : Cal P w K mg base (L2.CX P w) 3 "_place_set" ["value", "which"] (Prm K (R__place_set K)) (d__place_set.at_ K) fd := by
  have F : Fun K "_place_set" "_place_set" s__place_set _ fd := He5.fun_of F0
  refine ⟨F.okX sc__place_set (prm_len ?_) (fun cdv A outer s H vs Q E hr h => ?_), T.glo 6 _ rfl, F.kp, F.binds (ps := ["value", "which"]) fun _ _ _ _ _ _ us hl => match us, hl with | [_, _], _ => rfl⟩
  · rintro rs os res ⟨x, w, rr, rfl, _⟩; rfl
  obtain ⟨G, rs, os, res, hR, hP, hS⟩ := prm_open (N := N__place_set) h
  obtain ⟨x, w, rr, rfl, rfl, h1, rfl⟩ := hR
  have nd := sc__place_set.nd
  have hu := hu_of hr
  refine ⟨_, (pss_cut (ps_if (pt_not (pt_val (pe_call c_is_row.ok (hr.mono (by decide)) (by rfl) c_is_row.mg c_is_row.kp c_is_row.bd .nil pass0 (pa_cons (pv 0) pa_nil))))
  (pss_cut (ps_raise rfl (takes_of rfl rfl rfl rfl) (pmk_oex (oexB_ok (T.ex 4 _ rfl)) (initB_ok (T.ex 5 _ rfl)).1 (initB_ok (T.ex 5 _ rfl)).2 c_BadSet.ok (hr.mono (by decide)) c_BadSet.bd .nil (fun _ _ _ _ _ _ _ z => z.elim) (by rfl) (T.glo 2 _ rfl) (pa_cons (pv 1) pa_nil)))
  pss_nil)
  pss_nil)
  (pss_cut (ps_for (passes_of rfl) rfl (pi_or (pi_list (pv 0)) (pi_tup (pv 0))) (pg_name (i := 2) nd rfl (by first | exact Or.inl rfl | exact Or.inr rfl))
  (pss_cut (ps_if (PW.pt (pw_or (pt_not (pt_val (pe_call c_is_whole.ok (hr.mono (by decide)) (by rfl) c_is_whole.mg c_is_whole.kp c_is_whole.bd .nil pass0 (pa_cons (pv 2) pa_nil)))) (pw_or1 (pt_cmpR op_lt (pv 2) pe_int (nomark _)))))
  (pss_cut (ps_raise rfl (takes_of rfl rfl rfl rfl) (pmk_oex (oexB_ok (T.ex 4 _ rfl)) (initB_ok (T.ex 5 _ rfl)).1 (initB_ok (T.ex 5 _ rfl)).2 c_BadSet.ok (hr.mono (by decide)) c_BadSet.bd .nil (fun _ _ _ _ _ _ _ z => z.elim) (by rfl) (T.glo 2 _ rfl) (pa_cons (pv 1) pa_nil)))
  pss_nil)
  pss_nil)
  pss_nil))
  (pss_cut (ps_set (i := 3) nd rfl (by first | exact Or.inl rfl | exact Or.inr rfl) (pe_callTy call_tuple_of (by rfl) (T.free 39 _ rfl) (by decide +kernel) (pa_cons (pe_callB cr_sortedA (by rfl) (T.free 37 _ rfl) (by decide +kernel) (pa_cons (pv 0) pa_nil)) pa_nil)))
  (pss_cut (ps_for (passes_of rfl) rfl (pi_range2 (by rfl) (T.free 35 _ rfl) (pa_cons pe_int (pa_cons (pe_callB call_len_seq (by rfl) (T.free 31 _ rfl) (by decide +kernel) (pa_cons (pv 3) pa_nil)) pa_nil))) (pg_name (i := 4) nd rfl (by first | exact Or.inl rfl | exact Or.inr rfl))
  (pss_cut (ps_if (pt_cmpR op_eq (pe_ix ix_tup (pv 3) (pv 4) (fun _ _ => rfl)) (pe_ix ix_tup (pv 3) (pe_op op_sub (pv 4) pe_int) (fun _ _ => rfl)) (nomark _))
  (pss_cut (ps_raise rfl (takes_of rfl rfl rfl rfl) (pmk_oex (oexB_ok (T.ex 4 _ rfl)) (initB_ok (T.ex 5 _ rfl)).1 (initB_ok (T.ex 5 _ rfl)).2 c_BadSet.ok (hr.mono (by decide)) c_BadSet.bd .nil (fun _ _ _ _ _ _ _ z => z.elim) (by rfl) (T.glo 2 _ rfl) (pa_cons (pv 1) pa_nil)))
  pss_nil)
  pss_nil)
  pss_nil))
  (pss_cut (ps_ret (pv 3))
  pss_nil))))), start_go hS (Nat.le_of_ble_eq_true rfl) ?_⟩
  have rW : ∀ (y : D) (n : String), y.ty = some n → (n = "int" ∨ n = "bool" ∨ n = "NoneType" ∨ n = "list" ∨ n = "tuple" ∨ n = "str") → R_is_whole K [.d y] [] (.ret (.d (.bl (decide (n = "int")))) []) := fun y n a b => ⟨y, n, rfl, rfl, a, b, rfl⟩
  have rR : ∀ (y : D) (n : String), y.ty = some n → (n = "list" ∨ n = "tuple" ∨ n = "int" ∨ n = "NoneType") → R_is_row K [.d y] [] (.ret (.d (.bl (decide (n = "list" ∨ n = "tuple")))) []) := fun y n a b => ⟨y, n, rfl, rfl, a, b, rfl⟩
  have hB := oexB_ok (T.ex 4 _ rfl)
  have hN := noB_ok (T.ex 6 _ rfl)
  cases h1 with
  | @ok ns g =>
    have ht : ∃ n, x.ty = some n ∧ (n = "list" ∨ n = "tuple") := by
      rcases g.sq with e | e
      · exact ⟨"list", by rw [e]; rfl, .inl rfl⟩
      · exact ⟨"tuple", by rw [e]; rfl, .inr rfl⟩
    obtain ⟨tn, ht1, ht2⟩ := ht
    have hrow : decide (tn = "list" ∨ tn = "tuple") = true := decide_eq_true ht2
    refine go_ifR (b := false) (et_is (et_not (et_test (ev_call (ea_cons (ev_d rfl) ea_nil) (rR x tn ht1 (ht2.elim .inl fun z => .inr (.inl z)))))) (by rw [hrow]; rfl)) (fun z => nomatch z) fun _ => ?_
    refine go_forS (fun i => ⟨[.d x, .d (.int w), .any, .any, .any], [], []⟩) g.sq (ev_d rfl) (by walk_at "weak") (fun v i y hy => ?_) ?_
    · rw [List.getElem?_map] at hy
      cases hi : ns[i]? with
      | none => rw [hi] at hy; cases hy
      | some m =>
        rw [hi] at hy
        cases hy
        have hm : 0 ≤ m := g.nn m (List.mem_of_getElem? hi)
        refine go_ifR (b := false) (et_is (et_or (et_not (et_test (ev_call (ea_cons (ev_d rfl) ea_nil) (rW (.int m) "int" rfl (.inl rfl))))) (fun _ => et_test (by walk_at "ev"))) ?_) (fun z => nomatch z) fun _ => by walk_at "nx"
        have : ¬ m < 0 := by omega
        simp [this]
    · have hl := (srt_perm ns).length_eq
      refine go_set (ev_tupL (ev_frz (evN_sortS g.sq (ev_d rfl) rfl)) .d) ?_
      refine go_forR2 (fun i => ⟨[.d x, .d (.int w), .any, .d (.tup ((srt ns).map D.int)), .any], [], []⟩) (ea_cons ev_int (ea_cons (by walk_at "ev") ea_nil)) (by have := g.len; rw [List.length_map]; omega) (by walk_at "weak") (fun v i hi => ?_) ?_
      · rw [List.length_map] at hi
        have e1 : (srt ns)[i]? = some ((srt ns)[i]'(by omega)) := List.getElem?_eq_getElem _
        have e2 : (srt ns)[i + 1]? = some ((srt ns)[i + 1]'(by omega)) := List.getElem?_eq_getElem _
        have hlt := List.pairwise_iff_getElem.mp (srt_nd g.nd) i (i + 1) (by omega) (by omega) (by omega)
        generalize (srt ns)[i]'(by omega) = a at e1 hlt
        generalize (srt ns)[i + 1]'(by omega) = c at e2 hlt
        refine go_ifR (b := false) (et_is (et_test (ev_eqI (i := c) (j := a) (ev_ixT (ev_d rfl) (ev_d rfl) ?_) (ev_ixT (ev_d rfl) (by walk_at "ev") ?_))) (decide_eq_false (by omega))) (fun z => nomatch z) fun _ => by walk_at "nx"
        · rw [show (1 : Int) + (i : Int) = ((i + 1 : Nat) : Int) by omega, atI_nat', List.getElem?_map, e2]
          rfl
        · rw [show (1 : Int) + (i : Int) - 1 = (i : Int) by omega, atI_nat', List.getElem?_map, e1]
          rfl
      · exact go_ret (ev_d rfl) (ret_of hP (by simp) rfl)
  | bad hb =>
    have thr : ∀ {s : S} {D₁ : Ends}, s.sl[1]? = some (.d (.int w)) → s.own = [] → Go ⟨K, G, H, []⟩ s (tCut (fun _ σ H => tMkO (He.ga K "BadSet") (spI "place" K) [] (tCons (tVar 1) tNil) σ H fun cls d H' => (fun cls d _ H => E cls d H) cls d σ H') tNext) D₁ := fun e1 e2 =>
      go_raise (s' := _) hB hN (ev_d e1) (exc_of hP (by simp))
    rcases hb with rfl | rfl | rfl | rfl | rfl
    · exact go_ifR (b := true) (et_not (et_test (ev_call (ea_cons (ev_d rfl) ea_nil) (rR _ "NoneType" rfl (by simp))))) (fun _ => thr rfl rfl) (fun z => nomatch z)
    · exact go_ifR (b := true) (et_not (et_test (ev_call (ea_cons (ev_d rfl) ea_nil) (rR _ "int" rfl (by simp))))) (fun _ => thr rfl rfl) (fun z => nomatch z)
    · have hl : (srt [1, 1]) = [1, 1] := by decide
      refine go_ifR (b := false) (et_is (et_not (et_test (ev_call (ea_cons (ev_d rfl) ea_nil) (rR _ "list" rfl (by simp))))) (by simp)) (fun z => nomatch z) fun _ => ?_
      refine go_forS (ds := [.int 1, .int 1]) (fun i => ⟨[.d (.lst [.int 1, .int 1]), .d (.int w), .any, .any, .any], [], []⟩) sq_l (ev_d rfl) (by walk_at "weak") (fun v i y hy => ?_) ?_
      · have hy' : y = .int 1 := by
          match i, hy with
          | 0, hy => cases hy; rfl
          | 1, hy => cases hy; rfl
          | i + 2, hy => cases hy
        subst hy'
        exact go_ifR (b := false) (et_is (et_or (et_not (et_test (ev_call (ea_cons (ev_d rfl) ea_nil) (rW (.int 1) "int" rfl (.inl rfl))))) (fun _ => et_test (by walk_at "ev"))) (by simp)) (fun z => nomatch z) fun _ => by walk_at "nx"
      · refine go_set (ev_tupL (ds := [.int 1, .int 1]) (ev_frz (evN_sortS (ns := [1, 1]) sq_l (ev_d rfl) rfl)) (by rw [hl]; exact .d)) ?_
        refine go_forR2 (fun i => if i = 0 then ⟨[.d (.lst [.int 1, .int 1]), .d (.int w), .any, .d (.tup [.int 1, .int 1]), .any], [], []⟩ else S.no) (ea_cons ev_int (ea_cons (ev_lenT (ev_d rfl)) ea_nil)) (by simp) (by walk_at "weak") (fun v i hi => ?_) ?_
        · have hi0 : i = 0 := by
            simp at hi
            omega
          subst hi0
          exact go_ifR (b := true) (et_is (et_test (ev_eqI (i := 1) (j := 1) (ev_ixT (ev_d rfl) (ev_d rfl) rfl) (ev_ixT (ev_d rfl) (by walk_at "ev") rfl))) (by simp)) (fun _ => thr rfl rfl) (fun z => nomatch z)
        · exact go_no
    · refine go_ifR (b := false) (et_is (et_not (et_test (ev_call (ea_cons (ev_d rfl) ea_nil) (rR _ "list" rfl (by simp))))) (by simp)) (fun z => nomatch z) fun _ => ?_
      refine go_forS (ds := [.int (-1)]) (fun i => if i = 0 then ⟨[.d (.lst [.int (-1)]), .d (.int w), .any, .any, .any], [], []⟩ else S.no) sq_l (ev_d rfl) (by walk_at "weak") (fun v i y hy => ?_) ?_
      · obtain ⟨hi0, hy'⟩ : i = 0 ∧ y = .int (-1) := by
          match i, hy with
          | 0, hy => cases hy; exact ⟨rfl, rfl⟩
          | i + 1, hy => cases hy
        subst hi0 hy'
        exact go_ifR (b := true) (et_is (et_or (et_not (et_test (ev_call (ea_cons (ev_d rfl) ea_nil) (rW (.int (-1)) "int" rfl (.inl rfl))))) (fun _ => et_test (by walk_at "ev"))) (by simp)) (fun _ => thr rfl rfl) (fun z => nomatch z)
      · exact go_no
    · refine go_ifR (b := false) (et_is (et_not (et_test (ev_call (ea_cons (ev_d rfl) ea_nil) (rR _ "list" rfl (by simp))))) (by simp)) (fun z => nomatch z) fun _ => ?_
      refine go_forS (ds := [.bl true]) (fun i => if i = 0 then ⟨[.d (.lst [.bl true]), .d (.int w), .any, .any, .any], [], []⟩ else S.no) sq_l (ev_d rfl) (by walk_at "weak") (fun v i y hy => ?_) ?_
      · obtain ⟨hi0, hy'⟩ : i = 0 ∧ y = .bl true := by
          match i, hy with
          | 0, hy => cases hy; exact ⟨rfl, rfl⟩
          | i + 1, hy => cases hy
        subst hi0 hy'
        exact go_ifR (b := true) (et_is (et_or (a := true) (b := true) (et_is (et_not (et_test (ev_call (ea_cons (ev_d rfl) ea_nil) (rW (.bl true) "bool" rfl (.inr (.inl rfl)))))) (by simp)) (fun z => nomatch z)) rfl) (fun _ => thr rfl rfl) (fun z => nomatch z)
      · exact go_no
end

section
variable {P : Program} {w : World} {K : Frag} {mg : Str → Option Value} {base : Heap}
def N_ways_into : List Str := ["goal", "weights", "there", "found", "at", "one"]
theorem sc_ways_into : FnScope N_ways_into ["goal", "weights"] (defScope s_ways_into) := ⟨rfl, rfl, rfl, by decide +kernel, rfl, by decide +kernel, by decide +kernel⟩
theorem ok_ways_into (T : Top fa fn ex K mg) {fd : FuncData} (F0 : FunD K d_ways_into.name d_ways_into.qual d_ways_into.params d_ways_into.body d_ways_into.scope (d_ways_into.dvs K) (d_ways_into.kws K) (d_ways_into.at_ K) fd) {f__place_set : Addr} {fd__place_set : FuncData} (c__place_set : Cal P w K mg base (L2.CX P w) 3 "_place_set" ["value", "which"] (Prm K (R__place_set K)) f__place_set fd__place_set) {f_is_row : Addr} {fd_is_row : FuncData} (c_is_row : Cal P w K mg base CX0 1 "is_row" ["value"] (Prm K (R_is_row K)) f_is_row fd_is_row) {fd_BadWeights : FuncData} (c_BadWeights : CalI P w K mg base 1 ["self", "place"] (spI "place" K) (He.ma K (He.ga K "BadWeights") "__init__") fd_BadWeights) {f_is_whole : Addr} {fd_is_whole : FuncData} (c_is_whole : Cal P w K mg base CX0 1 "is_whole" ["value"] (Prm K (R_is_whole K)) f_is_whole fd_is_whole) : Cal P w K mg base (L2.CX P w) 4 "ways_into" ["goal", "weights"] (Prm K (R_ways_into K)) (d_ways_into.at_ K) fd := by
  have F : Fun K "ways_into" "ways_into" s_ways_into _ fd := He5.fun_of F0
  refine ⟨F.okX sc_ways_into (prm_len ?_) (fun cdv A outer s H vs Q E hr h => ?_), T.glo 7 _ rfl, F.kp, F.binds (ps := ["goal", "weights"]) fun _ _ _ _ _ _ us hl => match us, hl with | [_, _], _ => rfl⟩
  · rintro rs os res ⟨g, w, rr, rfl, _⟩; rfl
  obtain ⟨G, rs, os, res, hR, hP, hS⟩ := prm_open (N := N_ways_into) h
  obtain ⟨g, w, rr, rfl, rfl, h1, rfl⟩ := hR
  have nd := sc_ways_into.nd
  have hu := hu_of hr
  refine ⟨_, (pss_cut (ps_set (i := 2) nd rfl (by first | exact Or.inl rfl | exact Or.inr rfl) (pe_callS c__place_set.ok (hr.mono (by decide)) (by rfl) c__place_set.mg c__place_set.kp c__place_set.bd (fun σ => passAt (takes_of rfl rfl rfl rfl) σ) (pa_cons (pv 0) (pa_cons pe_int pa_nil))))
  (pss_cut (ps_if (pt_not (pt_val (pe_call c_is_row.ok (hr.mono (by decide)) (by rfl) c_is_row.mg c_is_row.kp c_is_row.bd .nil pass0 (pa_cons (pv 1) pa_nil))))
  (pss_cut (ps_raise rfl (takes_of rfl rfl rfl rfl) (pmk_oex (oexB_ok (T.ex 7 _ rfl)) (initB_ok (T.ex 8 _ rfl)).1 (initB_ok (T.ex 8 _ rfl)).2 c_BadWeights.ok (hr.mono (by decide)) c_BadWeights.bd .nil (fun _ _ _ _ _ _ _ z => z.elim) (by rfl) (T.glo 3 _ rfl) (pa_cons (pe_un un_neg pe_int) pa_nil)))
  pss_nil)
  pss_nil)
  (pss_cut (ps_set (i := 3) nd rfl (by first | exact Or.inl rfl | exact Or.inr rfl) pe_int)
  (pss_cut (ps_for (passes_of rfl) rfl (pi_range1 (by rfl) (T.free 35 _ rfl) (pa_cons (pe_callB call_len_seq (by rfl) (T.free 31 _ rfl) (by decide +kernel) (pa_cons (pv 1) pa_nil)) pa_nil)) (pg_name (i := 4) nd rfl (by first | exact Or.inl rfl | exact Or.inr rfl))
  (pss_cut (ps_if (PW.pt (pw_or (pt_not (pt_val (pe_call c_is_row.ok (hr.mono (by decide)) (by rfl) c_is_row.mg c_is_row.kp c_is_row.bd .nil pass0 (pa_cons (pe_ix ix_seq (pv 1) (pv 4) (fun _ _ => rfl)) pa_nil)))) (pw_or1 (pt_cmpR op_ne (pe_callB call_len_seq (by rfl) (T.free 31 _ rfl) (by decide +kernel) (pa_cons (pe_ix ix_seq (pv 1) (pv 4) (fun _ _ => rfl)) pa_nil)) (pe_op op_add (pe_callB call_len_seq (by rfl) (T.free 31 _ rfl) (by decide +kernel) (pa_cons (pv 2) pa_nil)) pe_int) (nomark _)))))
  (pss_cut (ps_raise rfl (takes_of rfl rfl rfl rfl) (pmk_oex (oexB_ok (T.ex 7 _ rfl)) (initB_ok (T.ex 8 _ rfl)).1 (initB_ok (T.ex 8 _ rfl)).2 c_BadWeights.ok (hr.mono (by decide)) c_BadWeights.bd .nil (fun _ _ _ _ _ _ _ z => z.elim) (by rfl) (T.glo 3 _ rfl) (pa_cons (pv 4) pa_nil)))
  pss_nil)
  pss_nil)
  (pss_cut (ps_for (passes_of rfl) rfl (pi_or (pi_list (pe_ix ix_seq (pv 1) (pv 4) (fun _ _ => rfl))) (pi_tup (pe_ix ix_seq (pv 1) (pv 4) (fun _ _ => rfl)))) (pg_name (i := 5) nd rfl (by first | exact Or.inl rfl | exact Or.inr rfl))
  (pss_cut (ps_if (pt_not (pt_val (pe_call c_is_whole.ok (hr.mono (by decide)) (by rfl) c_is_whole.mg c_is_whole.kp c_is_whole.bd .nil pass0 (pa_cons (pv 5) pa_nil))))
  (pss_cut (ps_raise rfl (takes_of rfl rfl rfl rfl) (pmk_oex (oexB_ok (T.ex 7 _ rfl)) (initB_ok (T.ex 8 _ rfl)).1 (initB_ok (T.ex 8 _ rfl)).2 c_BadWeights.ok (hr.mono (by decide)) c_BadWeights.bd .nil (fun _ _ _ _ _ _ _ z => z.elim) (by rfl) (T.glo 3 _ rfl) (pa_cons (pv 4) pa_nil)))
  pss_nil)
  pss_nil)
  pss_nil))
  (pss_cut (ps_set (i := 3) nd rfl (by first | exact Or.inl rfl | exact Or.inr rfl) (pe_op op_mulW (pv 3) (pe_callB (cr_sumA rfl) (by rfl) (T.free 38 _ rfl) (by decide +kernel) (pa_cons (pe_ix ix_seq (pv 1) (pv 4) (fun _ _ => rfl)) pa_nil))))
  pss_nil))))
  (pss_cut (ps_ret (pv 3))
  pss_nil))))), start_go hS (Nat.le_of_ble_eq_true rfl) ?_⟩
  have rW : ∀ (y : D) (n : String), y.ty = some n → (n = "int" ∨ n = "bool" ∨ n = "NoneType" ∨ n = "list" ∨ n = "tuple" ∨ n = "str") → R_is_whole K [.d y] [] (.ret (.d (.bl (decide (n = "int")))) []) := fun y n a b => ⟨y, n, rfl, rfl, a, b, rfl⟩
  have rR : ∀ (y : D) (n : String), y.ty = some n → (n = "list" ∨ n = "tuple" ∨ n = "int" ∨ n = "NoneType") → R_is_row K [.d y] [] (.ret (.d (.bl (decide (n = "list" ∨ n = "tuple")))) []) := fun y n a b => ⟨y, n, rfl, rfl, a, b, rfl⟩
  have rS : ∀ (y : D) (z : Int) (q : Res), RPs K y z q → R__place_set K [.d y, .d (.int z)] [] q := fun y z q h => ⟨y, z, q, rfl, rfl, h, rfl⟩
  have hB := oexB_ok (T.ex 7 _ rfl)
  have hN := noB_ok (T.ex 9 _ rfl)
  have sqt : ∀ {x : D} {ds : List D}, Sq x ds → ∃ n, x.ty = some n ∧ (n = "list" ∨ n = "tuple") := fun {x ds} h => by
    rcases h with e | e
    · exact ⟨"list", by rw [e]; rfl, .inl rfl⟩
    · exact ⟨"tuple", by rw [e]; rfl, .inr rfl⟩
  have isrow : ∀ {x : D} {ds : List D} {te : TE} {s : S} {E' : XK}, Sq x ds → Ev ⟨K, G, H, []⟩ te s (.d x) s → EvT ⟨K, G, H, []⟩ (tNot (tB (tCall (Prm K (R_is_row K)) [] E' (tCons te tNil)))) s false s := fun {x ds te s E'} h ht => by
    obtain ⟨n, h1, h2⟩ := sqt h
    have hd : decide (n = "list" ∨ n = "tuple") = true := decide_eq_true h2
    exact et_is (et_not (et_B (ev_call (ea_cons ht ea_nil) (rR x n h1 (h2.elim .inl fun z => .inr (.inl z)))))) (by rw [hd]; rfl)
  have hm : (BadP g ∧ res = .exc (He.ga K "BadSet") [("place", .int 0)] []) ∨ (∃ ns, GoodS g ns ∧ w = .int 7 ∧ res = .exc (He.ga K "BadWeights") [("place", .int (-1))] []) ∨
      ∃ (ns : List Int) (ms : List (List Int)) (f : List D → D) (ds : List D), GoodS g ns ∧ (∀ ds, Sq (f ds) ds) ∧ Sq w ds ∧ GoodW ns.length ms ∧ (∀ (i : Nat) (m : List Int), ms[i]? = some m → ds[i]? = some (f (m.map D.int))) ∧ ds.length ≤ 3000 ∧
      ((ds.length = ms.length ∧ res = .ret (.d (.int (prodL ms))) []) ∨ ∃ x, ms.length < ds.length ∧ ds[ms.length]? = some x ∧ BadW ns.length x ∧ res = .exc (He.ga K "BadWeights") [("place", .int ms.length)] []) := by
    cases h1 with
    | @ok ns ms f hg hf hw hW =>
      exact .inr (.inr ⟨ns, ms, f, _, hg, hf, hw, hW, fun i m hm => by rw [List.getElem?_map, hm]; rfl, by have := hW.len; rw [List.length_map]; omega, .inl ⟨by rw [List.length_map], rfl⟩⟩)
    | badS hb => exact .inl ⟨hb, rfl⟩
    | @bad7 ns hg e => exact .inr (.inl ⟨ns, hg, e, rfl⟩)
    | @badW ns ms x rest hg e hr hW hx =>
      have hl := hW.len
      exact .inr (.inr ⟨ns, ms, .lst, _, hg, fun _ => sq_l, .inl e, hW, fun i m hm => by
        have := (List.getElem?_eq_some_iff.mp hm).1
        rw [List.getElem?_append_left (by rw [List.length_map]; exact this), List.getElem?_map, hm]
        rfl, by rw [List.length_append, List.length_map, List.length_cons]; omega, .inr ⟨x, by rw [List.length_append, List.length_map, List.length_cons]; omega, by rw [List.getElem?_append_right (by rw [List.length_map]; exact Nat.le_refl _), List.length_map, Nat.sub_self]; rfl, hx, rfl⟩⟩)
  rcases hm with ⟨hb, rfl⟩ | ⟨ns, hg, rfl, rfl⟩ | ⟨ns, ms, f, ds, hg, hf, hw, hW, hd, hl, hend⟩
  · exact go_setX (ex_callS (ea_cons (ev_d rfl) (ea_cons ev_int ea_nil)) (rS g 0 _ (.bad hb))) (exc_of hP (by simp))
  · refine go_set (ev_callS (ea_cons (ev_d rfl) (ea_cons ev_int ea_nil)) (rS g 0 _ (.ok hg))) ?_
    exact go_ifR (b := true) (et_is (et_not (et_test (ev_call (ea_cons (ev_d rfl) ea_nil) (rR _ "int" rfl (by simp))))) (by simp)) (fun _ => go_raise hB hN (ev_unI ev_int) (exc_of hP (by simp))) (fun z => nomatch z)
  refine go_set (ev_callS (ea_cons (ev_d rfl) (ea_cons ev_int ea_nil)) (rS g 0 _ (.ok hg))) ?_
  refine go_ifR (b := false) (isrow hw (ev_d rfl)) (fun z => nomatch z) fun _ => ?_
  refine go_set ev_int ?_
  have hsl := (srt_perm ns).length_eq
  obtain ⟨I, hI, hno⟩ := upto ms.length fun i => ⟨[.d g, .d w, .d (.tup ((srt ns).map D.int)), .d (.int (prodL (ms.take i))), .any, .any], [], []⟩
  have hml : ms.length ≤ ds.length := by
    rcases hend with ⟨e, _⟩ | ⟨x, h, _⟩ <;> omega
  refine go_forR1 I (ea_cons (ev_lenS hw (ev_d rfl)) ea_nil) (by omega) ?_ (fun v i hi => ?_) ?_
  · rw [hI 0 (Nat.zero_le _)]
    walk_at "weak"
  · by_cases him : i < ms.length
    · obtain ⟨m, hm⟩ : ∃ m, ms[i]? = some m := ⟨_, List.getElem?_eq_getElem him⟩
      have hdi := hd i m hm
      have hmem := List.mem_of_getElem? hm
      rw [hI i (by omega), hI (i + 1) him]
      have at_ : ∀ {s : S}, s.sl[1]? = some (.d w) → s.sl[4]? = some (.d (.int i)) → Ev ⟨K, G, H, []⟩ (tOp (rIx K) (tVar 1) (tVar 4)) s (.d (f (m.map D.int))) s := fun e1 e2 => ev_ixS hw (ev_d e1) (ev_d e2) (by rw [atI_nat']; exact hdi)
      refine go_ifR (b := false) (et_is (et_or (isrow (hf _) (at_ rfl rfl)) (fun _ => et_test (ev_neI (ev_lenS (hf _) (at_ rfl rfl)) (ev_opI (ev_lenT (ev_d rfl)) ev_int)))) ?_) (fun z => nomatch z) fun _ => ?_
      · have hr := hW.row m hmem
        simp [hsl]
        omega
      refine go_forS (fun k => ⟨[.d g, .d w, .d (.tup ((srt ns).map D.int)), .d (.int (prodL (ms.take i))), .d (.int i), .any], [], [(v, .any)]⟩) (hf _) (at_ rfl rfl) (by walk_at "weak") (fun v2 k y hy => ?_) ?_
      · rw [List.getElem?_map] at hy
        cases hk : m[k]? with
        | none => rw [hk] at hy; cases hy
        | some z =>
          rw [hk] at hy
          cases hy
          exact go_ifR (b := false) (et_is (et_not (et_test (ev_call (ea_cons (ev_d rfl) ea_nil) (rW (.int z) "int" rfl (.inl rfl))))) (by simp)) (fun z => nomatch z) fun _ => by walk_at "nx"
      · refine go_set (ev_is (y := .int (prodL (ms.take (i + 1)))) (ev_opIC (ev_d rfl) (ev_sumS (hf _) (at_ rfl rfl) rfl) (L2.wide_mul (a := 60001) (b := 60) (prodL_bd (hW.take i)) (hW.sum m hmem) (by decide) (by decide) (by decide))) ?_) (by walk_at "nx")
        rw [take_one hm, prodL_snoc]
    · rcases hend with ⟨e, _⟩ | ⟨x, h, hx, hbw, rfl⟩
      · omega
      · by_cases hie : i = ms.length
        · subst hie
          rw [hI _ (Nat.le_refl _)]
          have at_ : ∀ {s : S}, s.sl[1]? = some (.d w) → s.sl[4]? = some (.d (.int ms.length)) → Ev ⟨K, G, H, []⟩ (tOp (rIx K) (tVar 1) (tVar 4)) s (.d x) s := fun e1 e2 => ev_ixS hw (ev_d e1) (ev_d e2) (by rw [atI_nat']; exact hx)
          have thr : ∀ {s : S} {D₁ : Ends}, s.sl[4]? = some (.d (.int ms.length)) → Go ⟨K, G, H, []⟩ s (tCut (fun _ σ H => tMkO (He.ga K "BadWeights") (spI "place" K) [] (tCons (tVar 4) tNil) σ H fun cls d H' => (fun cls d _ H => E cls d H) cls d σ H') tNext) D₁ := fun e1 =>
            go_raise (s' := _) hB hN (ev_d e1) (exc_of hP (by simp))
          rcases hbw with rfl | ⟨l, rfl, hbl | ⟨hbl, ys, rfl⟩⟩
          · exact go_ifR (b := true) (et_is (et_or (b := true) (et_not (et_test (ev_call (ea_cons (at_ rfl rfl) ea_nil) (rR .non "NoneType" rfl (by simp))))) (fun z => by simp at z)) (by simp)) (fun _ => thr rfl) (fun z => nomatch z)
          · refine go_ifR (b := true) (et_is (et_or (isrow sq_l (at_ rfl rfl)) (fun _ => et_test (ev_neI (ev_lenS sq_l (at_ rfl rfl)) (ev_opI (ev_lenT (ev_d rfl)) ev_int)))) ?_) (fun _ => thr rfl) (fun z => nomatch z)
            simp [hsl]
            omega
          · refine go_ifR (b := false) (et_is (et_or (isrow sq_l (at_ rfl rfl)) (fun _ => et_test (ev_neI (ev_lenS sq_l (at_ rfl rfl)) (ev_opI (ev_lenT (ev_d rfl)) ev_int)))) ?_) (fun z => nomatch z) fun _ => ?_
            · rw [hbl]
              simp [hsl]
            obtain ⟨I2, hI2, hno2⟩ := upto ys.length fun k => ⟨[.d g, .d w, .d (.tup ((srt ns).map D.int)), .d (.int (prodL (ms.take ms.length))), .d (.int ms.length), .any], [], [(v, .any)]⟩
            refine go_forS I2 sq_l (at_ rfl rfl) ?_ (fun v2 k y hy => ?_) ?_
            · rw [hI2 0 (Nat.zero_le _)]
              walk_at "weak"
            · by_cases hk : k < ys.length
              · rw [hI2 k (by omega), hI2 (k + 1) hk]
                rw [List.getElem?_append_left (by rw [List.length_map]; exact hk), List.getElem?_map, List.getElem?_eq_getElem hk] at hy
                cases hy
                exact go_ifR (b := false) (et_is (et_not (et_test (ev_call (ea_cons (ev_d rfl) ea_nil) (rW (.int _) "int" rfl (.inl rfl))))) (by simp)) (fun z => nomatch z) fun _ => by walk_at "nx"
              · have hke : k = ys.length := by
                  have := (List.getElem?_eq_some_iff.mp hy).1
                  rw [List.length_append, List.length_map] at this
                  simp at this
                  omega
                subst hke
                rw [hI2 _ (Nat.le_refl _)]
                rw [List.getElem?_append_right (by rw [List.length_map]; exact Nat.le_refl _), List.length_map, Nat.sub_self] at hy
                cases hy
                exact go_ifR (b := true) (et_is (et_not (et_test (ev_call (ea_cons (ev_d rfl) ea_nil) (rW (.bl true) "bool" rfl (.inr (.inl rfl)))))) (by simp)) (fun _ => thr rfl) (fun z => nomatch z)
            · rw [hno2 _ (by rw [List.length_append, List.length_map]; simp)]
              exact go_no
        · rw [hno i (by omega)]
          exact fun σ H ⟨G, g⟩ => by
            have nd := g.nd
            simp [S.no] at nd
  · rcases hend with ⟨e, rfl⟩ | ⟨x, h, hx, hbw, rfl⟩
    · rw [hI _ (by omega)]
      refine go_ret (ev_is (ev_d rfl) ?_) (ret_of hP (by simp) rfl)
      rw [List.take_of_length_le (by omega)]
    · rw [hno _ (by omega)]
      exact go_no
end

section
variable {P : Program} {w : World} {K : Frag} {mg : Str → Option Value} {base : Heap}
def N_starts_of : List Str := ["goal", "numbers", "here", "at", "heights", "behind", "height", "place"]
theorem sc_starts_of : FnScope N_starts_of ["goal", "numbers"] (defScope s_starts_of) := ⟨rfl, rfl, rfl, by decide +kernel, rfl, by decide +kernel, by decide +kernel⟩
theorem ok_starts_of (T : Top fa fn ex K mg) {fd : FuncData} (F0 : FunD K d_starts_of.name d_starts_of.qual d_starts_of.params d_starts_of.body d_starts_of.scope (d_starts_of.dvs K) (d_starts_of.kws K) (d_starts_of.at_ K) fd) {f__place_set : Addr} {fd__place_set : FuncData} (c__place_set : Cal P w K mg base (L2.CX P w) 3 "_place_set" ["value", "which"] (Prm K (R__place_set K)) f__place_set fd__place_set) {f_is_row : Addr} {fd_is_row : FuncData} (c_is_row : Cal P w K mg base CX0 1 "is_row" ["value"] (Prm K (R_is_row K)) f_is_row fd_is_row) {fd_BadRow : FuncData} (c_BadRow : CalI P w K mg base 1 ["self", "place"] (spI "place" K) (He.ma K (He.ga K "BadRow") "__init__") fd_BadRow) {f_is_whole : Addr} {fd_is_whole : FuncData} (c_is_whole : Cal P w K mg base CX0 1 "is_whole" ["value"] (Prm K (R_is_whole K)) f_is_whole fd_is_whole) : Cal P w K mg base (L2.CX P w) 4 "starts_of" ["goal", "numbers"] (Prm K (R_starts_of K)) (d_starts_of.at_ K) fd := by
  have F : Fun K "starts_of" "starts_of" s_starts_of _ fd := He5.fun_of F0
  refine ⟨F.okX sc_starts_of (prm_len ?_) (fun cdv A outer s H vs Q E hr h => ?_), T.glo 8 _ rfl, F.kp, F.binds (ps := ["goal", "numbers"]) fun _ _ _ _ _ _ us hl => match us, hl with | [_, _], _ => rfl⟩
  · rintro rs os res ⟨g, w, rr, rfl, _⟩; rfl
  obtain ⟨G, rs, os, res, hR, hP, hS⟩ := prm_open (N := N_starts_of) h
  obtain ⟨g, w, rr, rfl, rfl, h1, rfl⟩ := hR
  have nd := sc_starts_of.nd
  have hu := hu_of hr
  refine ⟨_, (pss_cut (ps_set (i := 2) nd rfl (by first | exact Or.inl rfl | exact Or.inr rfl) (pe_callTy call_list_of (by rfl) (T.free 32 _ rfl) (by decide +kernel) (pa_cons (pe_callS c__place_set.ok (hr.mono (by decide)) (by rfl) c__place_set.mg c__place_set.kp c__place_set.bd (fun σ => passAt (takes_of rfl rfl rfl rfl) σ) (pa_cons (pv 0) (pa_cons pe_int pa_nil))) pa_nil)))
  (pss_cut (ps_if (pt_not (pt_val (pe_call c_is_row.ok (hr.mono (by decide)) (by rfl) c_is_row.mg c_is_row.kp c_is_row.bd .nil pass0 (pa_cons (pv 1) pa_nil))))
  (pss_cut (ps_raise rfl (takes_of rfl rfl rfl rfl) (pmk_oex (oexB_ok (T.ex 1 _ rfl)) (initB_ok (T.ex 2 _ rfl)).1 (initB_ok (T.ex 2 _ rfl)).2 c_BadRow.ok (hr.mono (by decide)) c_BadRow.bd .nil (fun _ _ _ _ _ _ _ z => z.elim) (by rfl) (T.glo 1 _ rfl) (pa_cons (pe_un un_neg pe_int) pa_nil)))
  pss_nil)
  pss_nil)
  (pss_cut (ps_for (passes_of rfl) rfl (pi_range1 (by rfl) (T.free 35 _ rfl) (pa_cons (pe_callB call_len_seq (by rfl) (T.free 31 _ rfl) (by decide +kernel) (pa_cons (pv 1) pa_nil)) pa_nil)) (pg_name (i := 3) nd rfl (by first | exact Or.inl rfl | exact Or.inr rfl))
  (pss_cut (ps_if (PW.pt (pw_or (pt_not (pt_val (pe_call c_is_whole.ok (hr.mono (by decide)) (by rfl) c_is_whole.mg c_is_whole.kp c_is_whole.bd .nil pass0 (pa_cons (pe_ix ix_seq (pv 1) (pv 3) (fun _ _ => rfl)) pa_nil)))) (pw_or (pt_cmpR op_lt (pe_ix ix_seq (pv 1) (pv 3) (fun _ _ => rfl)) pe_int (nomark _)) (pw_or1 (pt_cmpR op_gt (pe_ix ix_seq (pv 1) (pv 3) (fun _ _ => rfl)) (pe_callB call_len_seq (by rfl) (T.free 31 _ rfl) (by decide +kernel) (pa_cons (pv 2) pa_nil)) (nomark _))))))
  (pss_cut (ps_raise rfl (takes_of rfl rfl rfl rfl) (pmk_oex (oexB_ok (T.ex 1 _ rfl)) (initB_ok (T.ex 2 _ rfl)).1 (initB_ok (T.ex 2 _ rfl)).2 c_BadRow.ok (hr.mono (by decide)) c_BadRow.bd .nil (fun _ _ _ _ _ _ _ z => z.elim) (by rfl) (T.glo 1 _ rfl) (pa_cons (pv 3) pa_nil)))
  pss_nil)
  pss_nil)
  pss_nil))
  (pss_cut (ps_set (i := 4) nd rfl (by first | exact Or.inl rfl | exact Or.inr rfl) (pe_lst pa_nil))
  (pss_cut (ps_for (passes_of rfl) rfl (RT.pi_revA (by rfl) (T.free 36 _ rfl) (pv 1)) (pg_name (i := 5) nd rfl (by first | exact Or.inl rfl | exact Or.inr rfl))
  (pss_cut (ps_setLc (i := 2) (own := [("place", 7)]) (g := gName 7) rfl nd rfl rfl (sw_true rfl rfl rfl (by decide +kernel)) (pi_list (pv 2)) (blkOk_by (own := [("place", 7)]) (N := N_starts_of) (sc := defScope s_starts_of) (by decide +kernel)) (fun _ _ _ _ _ => pg_name (i := 7) nd rfl (by first | exact Or.inl rfl | exact Or.inr rfl)) (fun _ _ _ _ _ => pts_nil) (fun _ _ _ _ _ => (pe_op op_add (pv 7) pe_int)))
  (pss_cut (ps_set (i := 6) nd rfl (by first | exact Or.inl rfl | exact Or.inr rfl) pe_int)
  (pss_cut (ps_if (pt_cmpR op_lt (pv 5) (pe_callB call_len_seq (by rfl) (T.free 31 _ rfl) (by decide +kernel) (pa_cons (pv 2) pa_nil)) (nomark _))
  (pss_cut (ps_set (i := 6) nd rfl (by first | exact Or.inl rfl | exact Or.inr rfl) (pe_bm PySem.F.plainAttrs_list PySem.F.slot_list_pop PySem.F.type_list_pop mt_popAt (pv 2) (pa_cons (pe_op op_sub (pe_op op_sub (pe_callB call_len_seq (by rfl) (T.free 31 _ rfl) (by decide +kernel) (pa_cons (pv 2) pa_nil)) pe_int) (pv 5)) pa_nil)))
  (pss_cut (ps_set (i := 2) nd rfl (by first | exact Or.inl rfl | exact Or.inr rfl) (pe_op op_cat (pe_lst (pa_cons pe_int pa_nil)) (pv 2)))
  pss_nil))
  pss_nil)
  (pss_cut (ps_expr (pe_bm PySem.F.plainAttrs_list PySem.F.slot_list_append PySem.F.type_list_append mt_append (pv 4) (pa_cons (pv 6) pa_nil)))
  pss_nil)))))
  (pss_cut (ps_ret (pe_tup (pa_cons (pe_callTy call_tuple_of (by rfl) (T.free 39 _ rfl) (by decide +kernel) (pa_cons (pv 2) pa_nil)) (pa_cons (RT.pe_tupRev rfl (by rfl) (T.free 39 _ rfl) (by rfl) (T.free 36 _ rfl) (pv 4)) pa_nil))))
  pss_nil)))))), start_go hS (Nat.le_of_ble_eq_true rfl) ?_⟩
  have rW : ∀ (y : D) (n : String), y.ty = some n → (n = "int" ∨ n = "bool" ∨ n = "NoneType" ∨ n = "list" ∨ n = "tuple" ∨ n = "str") → R_is_whole K [.d y] [] (.ret (.d (.bl (decide (n = "int")))) []) := fun y n a b => ⟨y, n, rfl, rfl, a, b, rfl⟩
  have rR : ∀ (y : D) (n : String), y.ty = some n → (n = "list" ∨ n = "tuple" ∨ n = "int" ∨ n = "NoneType") → R_is_row K [.d y] [] (.ret (.d (.bl (decide (n = "list" ∨ n = "tuple")))) []) := fun y n a b => ⟨y, n, rfl, rfl, a, b, rfl⟩
  have rS : ∀ (y : D) (z : Int) (q : Res), RPs K y z q → R__place_set K [.d y, .d (.int z)] [] q := fun y z q h => ⟨y, z, q, rfl, rfl, h, rfl⟩
  have hB := oexB_ok (T.ex 1 _ rfl)
  have hN := noB_ok (T.ex 3 _ rfl)
  have hm : (BadP g ∧ res = .exc (He.ga K "BadSet") [("place", .int 0)] []) ∨ (∃ ns, GoodS g ns ∧ w = .non ∧ res = .exc (He.ga K "BadRow") [("place", .int (-1))] []) ∨
      ∃ (ns ms : List Int) (ds : List D), GoodS g ns ∧ Sq w ds ∧ GoodN ns.length ms ∧ (∀ (i : Nat) (m : Int), ms[i]? = some m → ds[i]? = some (.int m)) ∧ ds.length ≤ 3000 ∧
      ((ds = ms.map D.int ∧ res = .ret (.d (.tup [.tup ((startsF ns ms).1.map D.int), .tup ((startsF ns ms).2.reverse.map D.int)])) []) ∨ ∃ x, ms.length < ds.length ∧ ds[ms.length]? = some x ∧ BadN ns.length x ∧ res = .exc (He.ga K "BadRow") [("place", .int ms.length)] []) := by
    cases h1 with
    | @ok ns ms hg hw hW =>
      exact .inr (.inr ⟨ns, ms, _, hg, hw, hW, fun i m hm => by rw [List.getElem?_map, hm]; rfl, by have := hW.len; rw [List.length_map]; omega, .inl ⟨rfl, rfl⟩⟩)
    | badS hb => exact .inl ⟨hb, rfl⟩
    | @bad0 ns hg e => exact .inr (.inl ⟨ns, hg, e, rfl⟩)
    | @badN ns ms x rest hg e hr hW hx =>
      have hl := hW.len
      exact .inr (.inr ⟨ns, ms, _, hg, .inl e, hW, fun i m hm => by
        have := (List.getElem?_eq_some_iff.mp hm).1
        rw [List.getElem?_append_left (by rw [List.length_map]; exact this), List.getElem?_map, hm]
        rfl, by rw [List.length_append, List.length_map, List.length_cons]; omega, .inr ⟨x, by rw [List.length_append, List.length_map, List.length_cons]; omega, by rw [List.getElem?_append_right (by rw [List.length_map]; exact Nat.le_refl _), List.length_map, Nat.sub_self]; rfl, hx, rfl⟩⟩)
  have cS : ∀ {s : S} {ns : List Int}, s.sl[0]? = some (.d g) → GoodS g ns → Ev ⟨K, G, H, []⟩ (tCallS (Prm K (R__place_set K)) (fun σ => WE (fun cls d x H => E cls d H) σ) (tCons (tVar 0) (tCons (tC (V.int 0)) tNil))) s (.d (.tup ((srt ns).map D.int))) s := fun e hg => ev_callS (ea_cons (ev_d e) (ea_cons ev_int ea_nil)) (rS g 0 _ (.ok hg))
  rcases hm with ⟨hb, rfl⟩ | ⟨ns, hg, rfl, rfl⟩ | ⟨ns, ms, ds, hg, hw, hW, hd, hl, hend⟩
  · exact go_setX (ex_cb1 (ex_callS (ea_cons (ev_d rfl) (ea_cons ev_int ea_nil)) (rS g 0 _ (.bad hb)))) (exc_of hP (by simp))
  · refine go_set (ev_frz (evN_listT (cS rfl hg))) ?_
    exact go_ifR (b := true) (et_is (et_not (et_test (ev_call (ea_cons (ev_d rfl) ea_nil) (rR _ "NoneType" rfl (by simp))))) (by simp)) (fun _ => go_raise hB hN (ev_unI ev_int) (exc_of hP (by simp))) (fun z => nomatch z)
  refine go_set (ev_frz (evN_listT (cS rfl hg))) ?_
  obtain ⟨tn, ht1, ht2⟩ : ∃ n, w.ty = some n ∧ (n = "list" ∨ n = "tuple") := by
    rcases hw with e | e
    · exact ⟨"list", by rw [e]; rfl, .inl rfl⟩
    · exact ⟨"tuple", by rw [e]; rfl, .inr rfl⟩
  have hrow : decide (tn = "list" ∨ tn = "tuple") = true := decide_eq_true ht2
  refine go_ifR (b := false) (et_is (et_not (et_test (ev_call (ea_cons (ev_d rfl) ea_nil) (rR w tn ht1 (ht2.elim .inl fun z => .inr (.inl z)))))) (by rw [hrow]; rfl)) (fun z => nomatch z) fun _ => ?_
  have hsl := (srt_perm ns).length_eq
  have hnl := hg.len
  obtain ⟨I, hI, hno⟩ := upto ms.length fun i => ⟨[.d g, .d w, .d (.lst ((srt ns).map D.int)), .any, .any, .any, .any, .any], [], []⟩
  refine go_forR1 I (ea_cons (ev_lenS hw (ev_d rfl)) ea_nil) (by omega) ?_ (fun v i hi => ?_) ?_
  · rw [hI 0 (Nat.zero_le _)]
    walk_at "weak"
  · by_cases him : i < ms.length
    · obtain ⟨m, hm⟩ : ∃ m, ms[i]? = some m := ⟨_, List.getElem?_eq_getElem him⟩
      have hdi := hd i m hm
      have hr := hW.rng m (List.mem_of_getElem? hm)
      rw [hI i (by omega), hI (i + 1) him]
      have at_ : ∀ {s : S}, s.sl[1]? = some (.d w) → s.sl[3]? = some (.d (.int i)) → Ev ⟨K, G, H, []⟩ (tOp (rIx K) (tVar 1) (tVar 3)) s (.d (.int m)) s := fun e1 e2 => ev_ixS hw (ev_d e1) (ev_d e2) (by rw [atI_nat']; exact hdi)
      refine go_ifR (b := false) (et_is (et_or (et_not (et_test (ev_call (ea_cons (at_ rfl rfl) ea_nil) (rW (.int m) "int" rfl (.inl rfl))))) (fun _ => et_or (et_test (ev_opB (at_ rfl rfl) ev_int)) (fun _ => et_test (ev_opB (at_ rfl rfl) (ev_lenL (ev_d rfl) .d))))) ?_) (fun z => nomatch z) fun _ => by walk_at "nx"
      simp [hsl]
      omega
    · rcases hend with ⟨e, _⟩ | ⟨x, h, hx, hbw, rfl⟩
      · subst e
        rw [List.length_map] at hi
        omega
      · by_cases hie : i = ms.length
        · subst hie
          rw [hI _ (Nat.le_refl _)]
          have at_ : ∀ {s : S}, s.sl[1]? = some (.d w) → s.sl[3]? = some (.d (.int ms.length)) → Ev ⟨K, G, H, []⟩ (tOp (rIx K) (tVar 1) (tVar 3)) s (.d x) s := fun e1 e2 => ev_ixS hw (ev_d e1) (ev_d e2) (by rw [atI_nat']; exact hx)
          have thr : ∀ {s : S} {D₁ : Ends}, s.sl[3]? = some (.d (.int ms.length)) → Go ⟨K, G, H, []⟩ s (tCut (fun _ σ H => tMkO (He.ga K "BadRow") (spI "place" K) [] (tCons (tVar 3) tNil) σ H fun cls d H' => (fun cls d _ H => E cls d H) cls d σ H') tNext) D₁ := fun e1 =>
            go_raise (s' := _) hB hN (ev_d e1) (exc_of hP (by simp))
          rcases hbw with rfl | rfl | ⟨k, rfl, hk⟩
          · exact go_ifR (b := true) (et_is (et_or (b := true) (et_not (et_test (ev_call (ea_cons (at_ rfl rfl) ea_nil) (rW .non "NoneType" rfl (by simp))))) (fun z => by simp at z)) (by simp)) (fun _ => thr rfl) (fun z => nomatch z)
          · exact go_ifR (b := true) (et_is (et_or (b := true) (et_not (et_test (ev_call (ea_cons (at_ rfl rfl) ea_nil) (rW (.bl true) "bool" rfl (by simp))))) (fun z => by simp at z)) (by simp)) (fun _ => thr rfl) (fun z => nomatch z)
          · refine go_ifR (b := true) (et_is (et_or (et_not (et_test (ev_call (ea_cons (at_ rfl rfl) ea_nil) (rW (.int k) "int" rfl (.inl rfl))))) (fun _ => et_or (et_test (ev_opB (at_ rfl rfl) ev_int)) (fun _ => et_test (ev_opB (at_ rfl rfl) (ev_lenL (ev_d rfl) .d))))) ?_) (fun _ => thr rfl) (fun z => nomatch z)
            simp [hsl]
            omega
        · rw [hno i (by omega)]
          exact fun σ H ⟨G, g⟩ => by
            have nd := g.nd
            simp [S.no] at nd
  rcases hend with ⟨e, rfl⟩ | ⟨x, h, hx, hbw, rfl⟩
  case inr =>
    rw [hno _ (by omega)]
    exact go_no
  subst e
  rw [List.length_map, Int.toNat_natCast, hI _ (Nat.le_refl _)]
  refine go_setN evN_l0 fun q => ?_
  have hnn : ∀ b, b ∈ ms.reverse → 0 ≤ b := fun b hb => (hW.rng b (List.mem_reverse.mp hb)).1
  have rev : ∀ {t u : TS} {s0 : S} (I : Nat → S), Weak ⟨K, G, H, []⟩ s0 (I 0) → s0.sl[1]? = some (.d w) →
      (∀ v (i : Nat) (x : D), (ms.map D.int).reverse[i]? = some x → Go ⟨K, G, H, []⟩ ⟨(I i).sl.set 5 (.d x), (I i).own, (v, .d w) :: (I i).tmp⟩ t (TurnE ⟨K, G, H, []⟩ { nx := fun x H' => Q V.non H', rt := Q } (I (i + 1)) v (.d w) u)) →
      Go ⟨K, G, H, []⟩ (I (ms.map D.int).length) u { nx := fun x H' => Q V.non H', rt := Q } → Go ⟨K, G, H, []⟩ s0 (tCut (tFor (RT.iRevA K (tVar 1)) (gName 5) t) u) { nx := fun x H' => Q V.non H', rt := Q } := fun I h0 e hb k => by
    rcases hw with rfl | rfl
    · exact go_revL I (ev_d e) h0 (fun _ _ => .d) hb k
    · exact go_revT I (ev_d e) h0 hb k
  refine rev (fun i => ⟨[.d g, .d w, .d (.lst (((ms.reverse.take i).foldl stepB (srt ns, [])).1.map D.int)), .any, .v (.ref q), .any, .any, .any], [(q, .lst (((ms.reverse.take i).foldl stepB (srt ns, [])).2.map D.int))], []⟩) (by walk_at "weak") rfl (fun v i x hx => ?_) ?_
  · rw [← List.map_reverse, List.getElem?_map] at hx
    cases hb : ms.reverse[i]? with
    | none => rw [hb] at hx; cases hx
    | some b =>
      rw [hb] at hx
      cases hx
      have hb0 := hnn b (List.mem_of_getElem? hb)
      have hfl := foldB_len (ms.reverse.take i) (srt ns, []) fun c hc => hnn c (List.mem_of_mem_take hc)
      rw [take_one hb, List.foldl_append]
      generalize (ms.reverse.take i).foldl stepB (srt ns, []) = p at hfl ⊢
      obtain ⟨hs, ht⟩ := p
      obtain ⟨hl1, hl2⟩ := hfl
      have hml := hW.len
      have hl3 : hs.length ≤ 1000 := by
        have e : hs.length = (srt ns).length := hl1
        omega
      have hl4 : ht.length ≤ 1000 := by
        have e : ht.length = ([] : List Int).length + (ms.reverse.take i).length := hl2
        rw [List.length_take, List.length_reverse] at e
        simp at e
        omega
      show Go _ _ _ (TurnE _ _ ⟨[.d g, .d w, .d (.lst ((stepB (hs, ht) b).1.map D.int)), .any, .v (.ref q), .any, .any, .any], [(q, .lst ((stepB (hs, ht) b).2.map D.int))], []⟩ v (.d w) _)
      refine go_setN (evN_lcL (l := hs) (enc := D.int) (fun _ => true) (fun a => .int (a + 1)) (ev_d rfl) .d (by omega) (fun _ _ a _ => et_yes) (fun _ _ a _ _ => ev_opI (ev_d rfl) ev_int)) fun q2 => ?_
      rw [List.filter_eq_self.mpr (fun _ _ => rfl), show (hs.map fun a => D.int (a + 1)) = (hs.map (· + 1)).map D.int by rw [List.map_map]; rfl]
      refine go_set ev_int ?_
      have hlen : (hs.map (· + 1)).length = hs.length := List.length_map _
      generalize eh : hs.map (· + 1) = hh at hlen
      refine go_if ⟨[.d g, .d w, .d (.lst ((stepB (hs, ht) b).1.map D.int)), .any, .v (.ref q), .d (.int b), .d (.int (if b < hs.length then (hh[((hs.length : Int) - 1 - b).toNat]?).getD 0 else 0)), .any], [(q, .lst (ht.map D.int))], [(v, .d w)]⟩ (et_test (ev_opB (ev_d rfl) (ev_lenL (ev_v rfl) (.o (k := 1) rfl)))) (fun hc => ?_) (fun hc => ?_) ?_
      · rw [List.length_map, hlen] at hc
        have hc' : b < hs.length := of_decide_eq_true hc
        have ej : seqIndex? ((hs.length : Int) - 1 - b) (hh.map D.int).length = some ((hs.length : Int) - 1 - b).toNat := PySem.seqIndex_of (by omega) (by rw [List.length_map, hlen]; omega)
        have ex : hh[((hs.length : Int) - 1 - b).toNat]? = some (hh[((hs.length : Int) - 1 - b).toNat]'(by omega)) := List.getElem?_eq_getElem _
        generalize hh[((hs.length : Int) - 1 - b).toNat]'(by omega) = z at ex
        rw [if_pos hc', ex]
        refine go_set (ev_popAt (k := 1) (ev_v rfl) (ev_opI (ev_opI (ev_lenL (ev_v rfl) (.o (k := 1) rfl)) ev_int) (ev_d rfl)) rfl rfl (by rw [List.length_map, hlen]; omega) (by rw [List.length_map, hlen] at ej ⊢; exact ej) (by rw [List.getElem?_map, ex]; rfl)) ?_
        refine go_set (ev_is (y := .lst ((stepB (hs, ht) b).1.map D.int)) (ev_frz (evN_cat (ev_l1 ev_int) (ev_v rfl) .d (.o (k := 1) rfl) ?_)) ?_) (by walk_at "nx")
        · have := List.length_eraseIdx_le (hh.map D.int) ((hs.length : Int) - 1 - b).toNat
          rw [List.length_map, hlen] at this
          simp
          omega
        · unfold stepB
          rw [if_pos hc', eh]
          dsimp only
          rw [List.map_cons, map_erase]
          rfl
      · rw [List.length_map, hlen] at hc
        have hc' : ¬ b < hs.length := of_decide_eq_false hc
        have e1 : (stepB (hs, ht) b).1 = hh := by
          unfold stepB
          rw [if_neg hc', eh]
        rw [if_neg hc', e1]
        exact go_nxP (weak_frz (k := 1) rfl (.same (.same (.frz (.same (.same (.same (.same (.same .nil)))))))) |>.trans (by walk_at "weak")) rfl
      · have e2 : (stepB (hs, ht) b).2 = ht ++ [if b < hs.length then (hh[((hs.length : Int) - 1 - b).toNat]?).getD 0 else 0] := by
          unfold stepB
          rw [eh]
          by_cases hc' : b < hs.length
          · rw [if_pos hc', if_pos hc']
          · rw [if_neg hc', if_neg hc']
        rw [e2, List.map_append]
        exact go_append (k := 0) (ev_v rfl) (ev_d rfl) rfl rfl (by rw [List.length_map]; omega) (by walk_at "nx")
  · have ef : (ms.reverse.take (ms.map D.int).length).foldl stepB (srt ns, []) = startsF ns ms := by
      unfold startsF
      rw [List.take_of_length_le (by rw [List.length_map, List.length_reverse]; exact Nat.le_refl _)]
    show Go _ ⟨[.d g, .d w, .d (.lst (((ms.reverse.take (ms.map D.int).length).foldl stepB (srt ns, [])).1.map D.int)), .any, .v (.ref q), .any, .any, .any], [(q, .lst (((ms.reverse.take (ms.map D.int).length).foldl stepB (srt ns, [])).2.map D.int))], []⟩ _ _
    rw [ef]
    refine go_ret (ev_t2 (ev_tupL (ev_d rfl) .d) (ev_is (ev_tupRev (ev_v rfl) (.o (k := 0) rfl)) ?_)) (ret_of hP (by simp) rfl)
    rw [List.map_reverse]
end

section
variable {P : Program} {w : World} {K : Frag} {mg : Str → Option Value} {base : Heap}
def N__law_great : List Str := ["script", "at", "limit", "cell"]
theorem sc__law_great : FnScope N__law_great ["script", "at", "limit"] (defScope s__law_great) := ⟨rfl, rfl, rfl, by decide +kernel, rfl, by decide +kernel, by decide +kernel⟩
theorem ok__law_great (T : Top fa fn ex K mg) {fd : FuncData} (F0 : FunD K d__law_great.name d__law_great.qual d__law_great.params d__law_great.body d__law_great.scope (d__law_great.dvs K) (d__law_great.kws K) (d__law_great.at_ K) fd) : Cal P w K mg base CX0 1 "_law_great" ["script", "at", "limit"] (Prm K (R__law_great K)) (d__law_great.at_ K) fd := by
  have F : Fun K "_law_great" "_law_great" s__law_great _ fd := He5.fun_of F0
  refine ⟨F.ok sc__law_great (prm_len ?_) (fun cdv A outer s H vs Q E hr h => ?_), T.glo 11 _ rfl, F.kp, F.binds (ps := ["script", "at", "limit"]) fun _ _ _ _ _ _ us hl => match us, hl with | [_, _, _], _ => rfl⟩
  · rintro rs os res ⟨ns, a, lim, rfl, _⟩; rfl
  obtain ⟨G, rs, os, res, hR, hP, hS⟩ := prm_open (N := N__law_great) h
  obtain ⟨ns, a, lim, rfl, rfl, h1, h2, h3, rfl⟩ := hR
  have nd := sc__law_great.nd
  have hu := hu_of hr
  refine ⟨_, (pss_cut (ps_set (i := 3) nd rfl (by first | exact Or.inl rfl | exact Or.inr rfl) pe_int)
  (pss_cut (ps_if (pt_cmpR op_lt (pv 1) (pe_callB call_len_seq (by rfl) (T.free 31 _ rfl) (by decide +kernel) (pa_cons (pv 0) pa_nil)) (nomark _))
  (pss_cut (ps_set (i := 3) nd rfl (by first | exact Or.inl rfl | exact Or.inr rfl) (pe_callTy call_int1 (by rfl) (T.free 29 _ rfl) (by decide +kernel) (pa_cons (pe_ix ix_list (pv 0) (pv 1) (fun _ _ => rfl)) pa_nil)))
  pss_nil)
  pss_nil)
  (pss_cut (ps_ret (pe_op op_sub (pe_op op_mod (pe_callTy call_int1 (by rfl) (T.free 29 _ rfl) (by decide +kernel) (pa_cons (pv 3) pa_nil)) (pe_op op_add (pe_op op_mulW pe_int (pv 2)) pe_int)) (pv 2)))
  pss_nil))), start_go hS (Nat.le_of_ble_eq_true rfl) ?_⟩
  refine go_set ev_int ?_
  refine go_if ⟨[.d (.scr ns), .d (.int a), .d (.int lim), .d (.int ((ns[a.toNat]?).getD 0))], [], []⟩ (et_test (ev_opB (ev_d rfl) (ev_lenL (ev_d rfl) .s))) (fun hb => ?_) (fun hb => ?_) ?_
  · have hb' := of_decide_eq_true hb
    rw [List.length_map] at hb'
    have e : ns[a.toNat]? = some (ns[a.toNat]'(by omega)) := List.getElem?_eq_getElem _
    generalize ns[a.toNat]'(by omega) = c at e
    rw [e]
    refine go_set (ev_int1 (ev_ixL (x := .int c) (ev_d rfl) (ev_d rfl) .s ?_)) (by walk_at "nx")
    rw [show a = ((a.toNat : Nat) : Int) by omega, atI_nat', List.getElem?_map, e]
    rfl
  · have hb' := of_decide_eq_false hb
    rw [List.length_map] at hb'
    rw [List.getElem?_eq_none (by omega)]
    walk_at "nx"
  · exact go_ret (ev_opI (ev_opIC (ev_int1 (ev_d rfl)) (ev_opI (ev_opIC ev_int (ev_d rfl) (L2.wide_mul (a := 2) (b := 60) (by decide) (by omega) (by decide) (by decide) (by decide))) ev_int) (by show (0 : Int) < 2 * lim + 1; omega)) (ev_d rfl)) (ret_of hP (by simp) rfl)
end

section
variable {P : Program} {w : World} {K : Frag} {mg : Str → Option Value} {base : Heap}
def N__law_whole : List Str := ["value"]
theorem sc__law_whole : FnScope N__law_whole ["value"] (defScope s__law_whole) := ⟨rfl, rfl, rfl, by decide +kernel, rfl, by decide +kernel, by decide +kernel⟩
theorem ok__law_whole (T : Top fa fn ex K mg) {fd : FuncData} (F0 : FunD K d__law_whole.name d__law_whole.qual d__law_whole.params d__law_whole.body d__law_whole.scope (d__law_whole.dvs K) (d__law_whole.kws K) (d__law_whole.at_ K) fd) : Cal P w K mg base CX0 1 "_law_whole" ["value"] (Prm K (R__law_whole K)) (d__law_whole.at_ K) fd := by
  have F : Fun K "_law_whole" "_law_whole" s__law_whole _ fd := He5.fun_of F0
  refine ⟨F.ok sc__law_whole (prm_len ?_) (fun cdv A outer s H vs Q E hr h => ?_), T.glo 12 _ rfl, F.kp, F.binds (ps := ["value"]) fun _ _ _ _ _ _ us hl => match us, hl with | [_], _ => rfl⟩
  · rintro rs os res ⟨i, rfl, _⟩; rfl
  obtain ⟨G, rs, os, res, hR, hP, hS⟩ := prm_open (N := N__law_whole) h
  obtain ⟨i, rfl, rfl, rfl⟩ := hR
  have nd := sc__law_whole.nd
  have hu := hu_of hr
  refine ⟨_, (pss_cut (ps_ret (pe_and (pe_callB call_isi (by rfl) (T.free 30 _ rfl) (by decide +kernel) (pa_cons (pv 0) (pa_cons (pe_bltn (v := .ty "int") (by rfl) (T.free 29 _ rfl) (by decide +kernel) rfl) pa_nil))) (pe_one (pe_not (pe_callB call_isi (by rfl) (T.free 30 _ rfl) (by decide +kernel) (pa_cons (pv 0) (pa_cons (pe_bltn (v := .ty "bool") (by rfl) (T.free 28 _ rfl) (by decide +kernel) rfl) pa_nil)))))))
  pss_nil), start_go hS (Nat.le_of_ble_eq_true rfl) ?_⟩
  exact go_ret (ev_is (ev_andV (ev_isi rfl (ev_d rfl) (b := true) (by decide +kernel)) (fun _ => ev_notV (ev_isi rfl (ev_d rfl) (b := false) (by decide +kernel)))) (by simp)) (ret_of hP (by simp) rfl)
end

section
variable {P : Program} {w : World} {K : Frag} {mg : Str → Option Value} {base : Heap}
def N__law_wholes : List Str := ["value", "one"]
theorem sc__law_wholes : FnScope N__law_wholes ["value"] (defScope s__law_wholes) := ⟨rfl, rfl, rfl, by decide +kernel, rfl, by decide +kernel, by decide +kernel⟩
theorem ok__law_wholes (T : Top fa fn ex K mg) {fd : FuncData} (F0 : FunD K d__law_wholes.name d__law_wholes.qual d__law_wholes.params d__law_wholes.body d__law_wholes.scope (d__law_wholes.dvs K) (d__law_wholes.kws K) (d__law_wholes.at_ K) fd) {f__law_whole : Addr} {fd__law_whole : FuncData} (c__law_whole : Cal P w K mg base CX0 1 "_law_whole" ["value"] (Prm K (R__law_whole K)) f__law_whole fd__law_whole) : Cal P w K mg base CX0 2 "_law_wholes" ["value"] (Prm K (R__law_wholes K)) (d__law_wholes.at_ K) fd := by
  have F : Fun K "_law_wholes" "_law_wholes" s__law_wholes _ fd := He5.fun_of F0
  refine ⟨F.ok sc__law_wholes (prm_len ?_) (fun cdv A outer s H vs Q E hr h => ?_), T.glo 13 _ rfl, F.kp, F.binds (ps := ["value"]) fun _ _ _ _ _ _ us hl => match us, hl with | [_], _ => rfl⟩
  · rintro rs os res ⟨ns, rfl, _⟩; rfl
  obtain ⟨G, rs, os, res, hR, hP, hS⟩ := prm_open (N := N__law_wholes) h
  obtain ⟨ns, rfl, rfl, rfl⟩ := hR
  have nd := sc__law_wholes.nd
  have hu := hu_of hr
  refine ⟨_, (pss_cut (ps_if (pt_not (pt_val (pe_callB call_isi (by rfl) (T.free 30 _ rfl) (by decide +kernel) (pa_cons (pv 0) (pa_cons (pe_bltn (v := .ty "tuple") (by rfl) (T.free 39 _ rfl) (by decide +kernel) rfl) pa_nil)))))
  (pss_cut (ps_ret pe_bl)
  pss_nil)
  pss_nil)
  (pss_cut (ps_for PassesOwn.never rfl (pi_tup (pv 0)) (pg_name (i := 1) nd rfl (by first | exact Or.inl rfl | exact Or.inr rfl))
  (pss_cut (ps_if (pt_not (pt_val (pe_call c__law_whole.ok (hr.mono (by decide)) (by rfl) c__law_whole.mg c__law_whole.kp c__law_whole.bd .nil pass0 (pa_cons (pv 1) pa_nil))))
  (pss_cut (ps_ret pe_bl)
  pss_nil)
  pss_nil)
  pss_nil))
  (pss_cut (ps_ret pe_bl)
  pss_nil))), start_go hS (Nat.le_of_ble_eq_true rfl) ?_⟩
  have rW : ∀ i : Int, R__law_whole K [.d (.int i)] [] (.ret (.d (.bl true)) []) := fun i => ⟨i, rfl, rfl, rfl⟩
  refine go_ifR (b := false) (et_is (et_not (et_test (ev_isi rfl (ev_d rfl) (b := true) (by decide +kernel)))) (by simp)) (fun z => nomatch z) fun _ => ?_
  refine go_forT (fun i => ⟨[.d (.tup (ns.map D.int)), .any], [], []⟩) (ev_d rfl) (by walk_at "weak") (fun v i y hy => ?_) ?_
  · rw [List.getElem?_map] at hy
    cases hi : ns[i]? with
    | none => rw [hi] at hy; cases hy
    | some m =>
      rw [hi] at hy
      cases hy
      exact go_ifR (b := false) (et_is (et_not (et_test (ev_call (ea_cons (ev_d rfl) ea_nil) (rW m)))) (by simp)) (fun z => nomatch z) fun _ => by walk_at "nx"
  · exact go_ret ev_bl (ret_of hP (by simp) rfl)
end

section
variable {P : Program} {w : World} {K : Frag} {mg : Str → Option Value} {base : Heap}
def N__law_behind : List Str := ["here", "height", "moved", "place"]
theorem sc__law_behind : FnScope N__law_behind ["here", "height"] (defScope s__law_behind) := ⟨rfl, rfl, rfl, by decide +kernel, rfl, by decide +kernel, by decide +kernel⟩
theorem ok__law_behind (T : Top fa fn ex K mg) {fd : FuncData} (F0 : FunD K d__law_behind.name d__law_behind.qual d__law_behind.params d__law_behind.body d__law_behind.scope (d__law_behind.dvs K) (d__law_behind.kws K) (d__law_behind.at_ K) fd) : Cal P w K mg base CX0 1 "_law_behind" ["here", "height"] (Prm K (R__law_behind K)) (d__law_behind.at_ K) fd := by
  have F : Fun K "_law_behind" "_law_behind" s__law_behind _ fd := He5.fun_of F0
  refine ⟨F.ok sc__law_behind (prm_len ?_) (fun cdv A outer s H vs Q E hr h => ?_), T.glo 15 _ rfl, F.kp, F.binds (ps := ["here", "height"]) fun _ _ _ _ _ _ us hl => match us, hl with | [_, _], _ => rfl⟩
  · rintro rs os res ⟨hs, h, rfl, _⟩; rfl
  obtain ⟨G, rs, os, res, hR, hP, hS⟩ := prm_open (N := N__law_behind) h
  obtain ⟨hs, h, rfl, rfl, h1, rfl⟩ := hR
  have nd := sc__law_behind.nd
  have hu := hu_of hr
  refine ⟨_, (pss_cut (ps_setLc (i := 2) (own := [("place", 3)]) (g := gName 3) rfl nd rfl rfl (sw_true rfl rfl rfl (by decide +kernel)) (pi_tup (pv 0)) (blkOk_by (own := [("place", 3)]) (N := N__law_behind) (sc := defScope s__law_behind) (by decide +kernel)) (fun _ _ _ _ _ => pg_name (i := 3) nd rfl (by first | exact Or.inl rfl | exact Or.inr rfl)) (fun _ _ _ _ _ => (pts_one (pt_cmpR op_gt (pv 3) pe_int (nomark _)))) (fun _ _ _ _ _ => (pe_op op_sub (pv 3) pe_int)))
  (pss_cut (ps_if (pt_cmpR op_gt (pv 1) pe_int (nomark _))
  (pss_cut (ps_expr (pe_bm PySem.F.plainAttrs_list PySem.F.slot_list_append PySem.F.type_list_append mt_append (pv 2) (pa_cons (pe_op op_sub (pv 1) pe_int) pa_nil)))
  pss_nil)
  pss_nil)
  (pss_cut (ps_ret (pe_callTy call_tuple_of (by rfl) (T.free 39 _ rfl) (by decide +kernel) (pa_cons (pe_callB cr_sortedA (by rfl) (T.free 37 _ rfl) (by decide +kernel) (pa_cons (pv 2) pa_nil)) pa_nil)))
  pss_nil))), start_go hS (Nat.le_of_ble_eq_true rfl) ?_⟩
  refine go_setN (evN_lcT (l := hs) (enc := D.int) (fun a => decide (0 < a)) (fun a => .int (a - 1)) (ev_d rfl) (by omega) (fun _ _ a _ => et_test (ev_opB (ev_d rfl) ev_int)) (fun _ _ a _ _ => ev_opI (ev_d rfl) ev_int)) fun p => ?_
  rw [show ((hs.filter fun a => decide (0 < a)).map fun a => D.int (a - 1)) = ((hs.filter fun a => decide (0 < a)).map (· - 1)).map D.int by rw [List.map_map]; rfl]
  have hfl : ((hs.filter fun a => decide (0 < a)).map (· - 1)).length ≤ 5000 := by
    rw [List.length_map]
    exact Nat.le_trans (List.length_filter_le _ _) h1
  generalize em : (hs.filter fun a => decide (0 < a)).map (· - 1) = mv at hfl
  refine go_if ⟨[.d (.tup (hs.map D.int)), .d (.int h), .v (.ref p), .any], [(p, .lst ((mv ++ if 0 < h then [h - 1] else []).map D.int))], []⟩ (et_test (ev_opB (ev_d rfl) ev_int)) (fun hb => ?_) (fun hb => ?_) ?_
  · have hb' : 0 < h := of_decide_eq_true hb
    rw [if_pos hb', List.map_append]
    exact go_append (k := 0) (ev_v rfl) (ev_opI (ev_d rfl) ev_int) rfl rfl (by rw [List.length_map]; omega) (by walk_at "nx")
  · have hb' : ¬ 0 < h := of_decide_eq_false hb
    rw [if_neg hb', List.append_nil]
    walk_at "nx"
  · refine go_ret (ev_is (ev_tupL (ev_frz (evN_sortSL (ev_v rfl) (.o (k := 0) rfl) rfl)) .d) ?_) (ret_of hP (by simp) rfl)
    unfold behindF
    rw [em]
end

section
variable {P : Program} {w : World} {K : Frag} {mg : Str → Option Value} {base : Heap}
def N__law_played : List Str := ["start", "heights", "here", "numbers", "height", "place"]
theorem sc__law_played : FnScope N__law_played ["start", "heights"] (defScope s__law_played) := ⟨rfl, rfl, rfl, by decide +kernel, rfl, by decide +kernel, by decide +kernel⟩
theorem ok__law_played (T : Top fa fn ex K mg) {fd : FuncData} (F0 : FunD K d__law_played.name d__law_played.qual d__law_played.params d__law_played.body d__law_played.scope (d__law_played.dvs K) (d__law_played.kws K) (d__law_played.at_ K) fd) {f__law_behind : Addr} {fd__law_behind : FuncData} (c__law_behind : Cal P w K mg base CX0 1 "_law_behind" ["here", "height"] (Prm K (R__law_behind K)) f__law_behind fd__law_behind) : Cal P w K mg base CX0 2 "_law_played" ["start", "heights"] (Prm K (R__law_played K)) (d__law_played.at_ K) fd := by
  have F : Fun K "_law_played" "_law_played" s__law_played _ fd := He5.fun_of F0
  refine ⟨F.ok sc__law_played (prm_len ?_) (fun cdv A outer s H vs Q E hr h => ?_), T.glo 16 _ rfl, F.kp, F.binds (ps := ["start", "heights"]) fun _ _ _ _ _ _ us hl => match us, hl with | [_, _], _ => rfl⟩
  · rintro rs os res ⟨hs, hts, ms, fin, rfl, _⟩; rfl
  obtain ⟨G, rs, os, res, hR, hP, hS⟩ := prm_open (N := N__law_played) h
  obtain ⟨hs, hts, ms, fin, rfl, rfl, h1, h2, h3, rfl⟩ := hR
  have nd := sc__law_played.nd
  have hu := hu_of hr
  refine ⟨_, (pss_cut (ps_set (i := 2) nd rfl (by first | exact Or.inl rfl | exact Or.inr rfl) (pe_callTy call_tuple_of (by rfl) (T.free 39 _ rfl) (by decide +kernel) (pa_cons (pv 0) pa_nil)))
  (pss_cut (ps_set (i := 3) nd rfl (by first | exact Or.inl rfl | exact Or.inr rfl) (pe_lst pa_nil))
  (pss_cut (ps_for PassesOwn.never rfl (pi_tup (pv 1)) (pg_name (i := 4) nd rfl (by first | exact Or.inl rfl | exact Or.inr rfl))
  (pss_cut (ps_if (pt_cmpR op_in_seq pe_int (pv 2) (by with_unfolding_all rfl))
  (pss_cut (ps_if (PW.pt (pw_or (pt_cmpR op_lt (pv 4) pe_int (nomark _)) (pw_or1 (pt_cmpR op_in_seq (pv 4) (pv 2) (by with_unfolding_all rfl)))))
  (pss_cut (ps_ret pe_non)
  pss_nil)
  pss_nil)
  (pss_cut (ps_expr (pe_bm PySem.F.plainAttrs_list PySem.F.slot_list_append PySem.F.type_list_append mt_append (pv 3) (pa_cons (pe_callB call_len_seq (by rfl) (T.free 31 _ rfl) (by decide +kernel) (pa_cons (pe_lc (own := [("place", 5)]) (g := gName 5) rfl nd (pi_tup (pv 2)) (blkOk_by (own := [("place", 5)]) (N := N__law_played) (sc := defScope s__law_played) (by decide +kernel)) (fun _ _ _ _ _ => pg_name (i := 5) nd rfl (by first | exact Or.inl rfl | exact Or.inr rfl)) (fun _ _ _ _ _ => (pts_one (pt_cmpR op_gt (pv 5) (pv 4) (nomark _)))) (fun _ _ _ _ _ => (pv 5))) pa_nil)) pa_nil)))
  pss_nil))
  (pss_cut (ps_if (pt_cmpR op_ne (pv 4) pe_int (nomark _))
  (pss_cut (ps_ret pe_non)
  pss_nil)
  pss_nil)
  (pss_cut (ps_expr (pe_bm PySem.F.plainAttrs_list PySem.F.slot_list_append PySem.F.type_list_append mt_append (pv 3) (pa_cons (pe_callB call_len_seq (by rfl) (T.free 31 _ rfl) (by decide +kernel) (pa_cons (pv 2) pa_nil)) pa_nil)))
  pss_nil)))
  (pss_cut (ps_set (i := 2) nd rfl (by first | exact Or.inl rfl | exact Or.inr rfl) (pe_call c__law_behind.ok (hr.mono (by decide)) (by rfl) c__law_behind.mg c__law_behind.kp c__law_behind.bd .nil pass0 (pa_cons (pv 2) (pa_cons (pv 4) pa_nil))))
  pss_nil)))
  (pss_cut (ps_ret (pe_lst (pa_cons (pv 3) (pa_cons (pv 2) pa_nil))))
  pss_nil)))), start_go hS (Nat.le_of_ble_eq_true rfl) ?_⟩
  obtain ⟨e1, e2, e3⟩ := plays_at h1
  subst e2
  refine go_set (ev_tupT (ev_d rfl)) ?_
  refine go_setN evN_l0 fun q => ?_
  refine go_forT (fun i => ⟨[.d (.tup (hs.map D.int)), .d (.tup (hts.map D.int)), .d (.tup (((hts.take i).foldl behindF hs).map D.int)), .v (.ref q), .any, .any], [(q, .lst ((ms.take i).map D.int))], []⟩) (ev_d rfl) (by walk_at "weak") (fun v i y hy => ?_) ?_
  · rw [List.getElem?_map] at hy
    cases hi : hts[i]? with
    | none => rw [hi] at hy; cases hy
    | some h =>
      rw [hi] at hy
      cases hy
      obtain ⟨ok, hm⟩ := e3 i h hi
      have hl3 := h3 i
      have hil := (List.getElem?_eq_some_iff.mp hi).1
      rw [take_one hi, take_one hm, List.foldl_append]
      generalize (hts.take i).foldl behindF hs = c at ok hm hl3 ⊢
      show Go _ _ _ (TurnE _ _ ⟨[.d (.tup (hs.map D.int)), .d (.tup (hts.map D.int)), .d (.tup ((behindF c h).map D.int)), .v (.ref q), .any, .any], [(q, .lst ((ms.take i ++ [numOf c h]).map D.int))], []⟩ v (.d (.tup (hts.map D.int))) _)
      have hql : ((ms.take i).map D.int).length < 100000 := by
        rw [List.length_map, List.length_take]
        omega
      refine go_if ⟨[.d (.tup (hs.map D.int)), .d (.tup (hts.map D.int)), .d (.tup (c.map D.int)), .v (.ref q), .d (.int h), .any], [(q, .lst ((ms.take i ++ [numOf c h]).map D.int))], [(v, .d (.tup (hts.map D.int)))]⟩ (et_test (ev_inT ev_int (ev_d rfl) rfl)) (fun hb => ?_) (fun hb => ?_) ?_
      · have h0 : (0 : Int) ∈ c := of_decide_eq_true hb
        unfold OkAt at ok
        rw [if_pos h0] at ok
        have hn : numOf c h = ((c.filter fun a => decide (h < a)).length : Int) := by
          unfold numOf
          rw [if_pos h0]
        refine go_ifR (b := false) (et_is (et_or (et_test (ev_opB (ev_d rfl) ev_int)) (fun _ => et_test (ev_inT (ev_d rfl) (ev_d rfl) rfl))) ?_) (fun z => nomatch z) fun _ => ?_
        · have : ¬ h < 1 := by omega
          simp [this, ok.2]
        · rw [hn, List.map_append]
          refine go_append (k := 0) (ev_v rfl) (ev_is (ev_lenL (ev_frz (evN_lcT (l := c) (enc := D.int) (fun a => decide (h < a)) (fun a => .int a) (ev_d rfl) (by omega) (fun _ _ a _ => et_test (ev_opB (ev_d rfl) (ev_d rfl))) (fun _ _ a _ _ => ev_d rfl))) .d) ?_) rfl rfl hql (by walk_at "nx")
          rw [List.length_map]
      · have h0 : ¬ (0 : Int) ∈ c := of_decide_eq_false hb
        unfold OkAt at ok
        rw [if_neg h0] at ok
        have hn : numOf c h = (c.length : Int) := by
          unfold numOf
          rw [if_neg h0]
        refine go_ifR (b := false) (et_is (et_test (ev_neI (ev_d rfl) ev_int)) ?_) (fun z => nomatch z) fun _ => ?_
        · simp [ok]
        · rw [hn, List.map_append]
          refine go_append (k := 0) (ev_v rfl) (ev_is (ev_lenT (ev_d rfl)) ?_) rfl rfl hql (by walk_at "nx")
          rw [List.length_map]
      · exact go_set (ev_call (ea_cons (ev_d rfl) (ea_cons (ev_d rfl) ea_nil)) ⟨c, h, rfl, rfl, hl3, rfl⟩) (by walk_at "nx")
  · rw [List.length_map]
    have ef : (hts.take hts.length).foldl behindF hs = hts.foldl behindF hs := by rw [List.take_length]
    have eg : ms.take hts.length = ms := List.take_of_length_le (by omega)
    show Go _ ⟨[.d (.tup (hs.map D.int)), .d (.tup (hts.map D.int)), .d (.tup (((hts.take hts.length).foldl behindF hs).map D.int)), .v (.ref q), .any, .any], [(q, .lst ((ms.take hts.length).map D.int))], []⟩ _ _
    rw [ef, eg]
    exact go_ret (ev_l2 (ev_vfrz (k := 0) (ev_v rfl) rfl) (ev_d rfl)) (ret_of hP (by simp) rfl)
end

section
variable {P : Program} {w : World} {K : Frag} {mg : Str → Option Value} {base : Heap}
def N__law_places : List Str := ["draws", "many", "span", "left", "found", "turn"]
theorem sc__law_places : FnScope N__law_places ["draws", "many", "span"] (defScope s__law_places) := ⟨rfl, rfl, rfl, by decide +kernel, rfl, by decide +kernel, by decide +kernel⟩
theorem ok__law_places (T : Top fa fn ex K mg) {fd : FuncData} (F0 : FunD K d__law_places.name d__law_places.qual d__law_places.params d__law_places.body d__law_places.scope (d__law_places.dvs K) (d__law_places.kws K) (d__law_places.at_ K) fd) {f__law_take : Addr} {fd__law_take : FuncData} (c__law_take : Cal P w K mg base CX0 1 "_law_take" ["draws", "many"] (Prm K (R__law_take K)) f__law_take fd__law_take) : Cal P w K mg base CX0 2 "_law_places" ["draws", "many", "span"] (Prm K (R__law_places K)) (d__law_places.at_ K) fd := by
  have F : Fun K "_law_places" "_law_places" s__law_places _ fd := He5.fun_of F0
  refine ⟨F.ok sc__law_places (prm_len ?_) (fun cdv A outer s H vs Q E hr h => ?_), T.glo 14 _ rfl, F.kp, F.binds (ps := ["draws", "many", "span"]) fun _ _ _ _ _ _ us hl => match us, hl with | [_, _, _], _ => rfl⟩
  · rintro rs os res ⟨p, ds, many, span, rfl, _⟩; rfl
  obtain ⟨G, rs, os, res, hR, hP, hS⟩ := prm_open (N := N__law_places) h
  obtain ⟨p, ds, many, span, rfl, rfl, h1, h2, rfl⟩ := hR
  have nd := sc__law_places.nd
  have hu := hu_of hr
  refine ⟨_, (pss_cut (ps_set (i := 3) nd rfl (by first | exact Or.inl rfl | exact Or.inr rfl) (pe_listRg rfl (by rfl) (T.free 32 _ rfl) (prg_1 (by rfl) (T.free 35 _ rfl) (pv 2))))
  (pss_cut (ps_set (i := 4) nd rfl (by first | exact Or.inl rfl | exact Or.inr rfl) (pe_lst pa_nil))
  (pss_cut (ps_for PassesOwn.never rfl (pi_range1 (by rfl) (T.free 35 _ rfl) (pa_cons (pv 1) pa_nil)) (pg_name (i := 5) nd rfl (by first | exact Or.inl rfl | exact Or.inr rfl))
  (pss_cut (ps_expr (pe_bm PySem.F.plainAttrs_list PySem.F.slot_list_append PySem.F.type_list_append mt_append (pv 4) (pa_cons (pe_bm PySem.F.plainAttrs_list PySem.F.slot_list_pop PySem.F.type_list_pop mt_popAt (pv 3) (pa_cons (pe_call c__law_take.ok (hr.mono (by decide)) (by rfl) c__law_take.mg c__law_take.kp c__law_take.bd .nil pass0 (pa_cons (pv 0) (pa_cons (pe_callB call_len_seq (by rfl) (T.free 31 _ rfl) (by decide +kernel) (pa_cons (pv 3) pa_nil)) pa_nil))) pa_nil)) pa_nil)))
  pss_nil))
  (pss_cut (ps_ret (pv 4))
  pss_nil)))), start_go hS (Nat.le_of_ble_eq_true rfl) ?_⟩
  refine go_setN (evN_rg1 (ev_d rfl) (by omega)) fun q => ?_
  rw [show ((List.range ((span : Int)).toNat).map fun (i : Nat) => D.int i) = (rng span).map D.int by unfold rng; rw [List.map_map]; rfl]
  refine go_setN evN_l0 fun q2 => ?_
  refine go_forR1 (fun t => ⟨[.v (.ref p), .d (.int many), .d (.int span), .v (.ref q), .v (.ref q2), .any], [(p, .lst (drw (plcI span ds t).2.2)), (q, .lst ((plcI span ds t).1.map D.int)), (q2, .lst ((plcI span ds t).2.1.map D.int))], []⟩) (ea_cons (ev_d rfl) ea_nil) (by omega) (by walk_at "weak") (fun v t ht => ?_) ?_
  · have hinv := plc_inv (span := span) (ds := ds) (t := t) (by omega)
    show Go _ _ _ (TurnE _ _ ⟨[.v (.ref p), .d (.int many), .d (.int span), .v (.ref q), .v (.ref q2), .any], [(p, .lst (drw (plcI span ds t).2.2.tail)), (q, .lst (((plcI span ds t).1.eraseIdx (tk (plcI span ds t).2.2 (plcI span ds t).1.length).toNat).map D.int)), (q2, .lst (((plcI span ds t).2.1 ++ [((plcI span ds t).1[(tk (plcI span ds t).2.2 (plcI span ds t).1.length).toNat]?).getD 0]).map D.int))], []⟩ v .any _)
    generalize plcI span ds t = z at hinv ⊢
    obtain ⟨l, f, d⟩ := z
    obtain ⟨g1, g2, g3⟩ := hinv
    dsimp only at g1 g2 g3 ⊢
    have hp : (0 : Int) < l.length := by omega
    have j1 := tk_nn d hp
    have j2 := tk_lt d hp
    have eL : ((l.map D.int).length : Int) = l.length := by rw [List.length_map]
    generalize ej : tk d l.length = jj at j1 j2 ⊢
    have hx : l[jj.toNat]? = some (l[jj.toNat]'(by omega)) := List.getElem?_eq_getElem _
    generalize l[jj.toNat]'(by omega) = x at hx
    rw [hx, List.map_append, map_erase]
    refine go_append (k := 2) (x := .int x) (s2 := ⟨[.v (.ref p), .d (.int many), .d (.int span), .v (.ref q), .v (.ref q2), .d (.int t)], [(p, .lst (drw d.tail)), (q, .lst ((l.map D.int).eraseIdx jj.toNat)), (q2, .lst (f.map D.int))], [(v, .any)]⟩) (ev_v rfl) (ev_st (ev_popAt (k := 1) (j := jj.toNat) (i := jj) (xs := l.map D.int) (ev_v rfl) (ev_is (ev_call1 (k := 0) (ea_cons (ev_v rfl) (ea_cons (ev_lenL (ev_v rfl) (.o (k := 1) rfl)) ea_nil)) rfl ⟨p, d, _, rfl, rfl, by rw [List.length_map]; exact hp, rfl⟩) (by rw [eL, ej])) rfl rfl (by omega) ?_ ?_) rfl) rfl rfl (by rw [List.length_map]; omega) (by walk_at "nx")
    · exact PySem.seqIndex_of (by omega) (by rw [List.length_map]; omega)
    · rw [List.getElem?_map, hx]
      rfl
  · rw [Int.toNat_natCast]
    exact go_ret (ev_vfrz (k := 2) (ev_v rfl) rfl) (ret_of hP (by simp [plcD]) rfl)
end

section
variable {P : Program} {w : World} {K : Frag} {mg : Str → Option Value} {base : Heap}
def N__law_all_rows : List Str := ["beats", "most", "found", "beat", "longer", "row", "number"]
theorem sc__law_all_rows : FnScope N__law_all_rows ["beats", "most"] (defScope s__law_all_rows) := ⟨rfl, rfl, rfl, by decide +kernel, rfl, by decide +kernel, by decide +kernel⟩
theorem ok__law_all_rows (T : Top fa fn ex K mg) {fd : FuncData} (F0 : FunD K d__law_all_rows.name d__law_all_rows.qual d__law_all_rows.params d__law_all_rows.body d__law_all_rows.scope (d__law_all_rows.dvs K) (d__law_all_rows.kws K) (d__law_all_rows.at_ K) fd) : Cal P w K mg base CX0 1 "_law_all_rows" ["beats", "most"] (Prm K (R__law_all_rows K)) (d__law_all_rows.at_ K) fd := by
  have F : Fun K "_law_all_rows" "_law_all_rows" s__law_all_rows _ fd := He5.fun_of F0
  refine ⟨F.ok sc__law_all_rows (prm_len ?_) (fun cdv A outer s H vs Q E hr h => ?_), T.glo 17 _ rfl, F.kp, F.binds (ps := ["beats", "most"]) fun _ _ _ _ _ _ us hl => match us, hl with | [_, _], _ => rfl⟩
  · rintro rs os res ⟨n, most, rfl, _⟩; rfl
  obtain ⟨G, rs, os, res, hR, hP, hS⟩ := prm_open (N := N__law_all_rows) h
  obtain ⟨n, most, rfl, rfl, h1, h2, rfl⟩ := hR
  have nd := sc__law_all_rows.nd
  have hu := hu_of hr
  refine ⟨_, (pss_cut (ps_set (i := 2) nd rfl (by first | exact Or.inl rfl | exact Or.inr rfl) (pe_lst (pa_cons (pe_lst pa_nil) pa_nil)))
  (pss_cut (ps_for PassesOwn.never rfl (pi_range1 (by rfl) (T.free 35 _ rfl) (pa_cons (pv 0) pa_nil)) (pg_name (i := 3) nd rfl (by first | exact Or.inl rfl | exact Or.inr rfl))
  (pss_cut (ps_set (i := 4) nd rfl (by first | exact Or.inl rfl | exact Or.inr rfl) (pe_lst pa_nil))
  (pss_cut (ps_for PassesOwn.never rfl (pi_list (pv 2)) (pg_name (i := 5) nd rfl (by first | exact Or.inl rfl | exact Or.inr rfl))
  (pss_cut (ps_for PassesOwn.never rfl (pi_range1 (by rfl) (T.free 35 _ rfl) (pa_cons (pe_op op_add (pv 1) pe_int) pa_nil)) (pg_name (i := 6) nd rfl (by first | exact Or.inl rfl | exact Or.inr rfl))
  (pss_cut (ps_expr (pe_bm PySem.F.plainAttrs_list PySem.F.slot_list_append PySem.F.type_list_append mt_append (pv 4) (pa_cons (pe_op op_cat (pv 5) (pe_lst (pa_cons (pv 6) pa_nil))) pa_nil)))
  pss_nil))
  pss_nil))
  (pss_cut (ps_set (i := 2) nd rfl (by first | exact Or.inl rfl | exact Or.inr rfl) (pe_callTy call_list_of (by rfl) (T.free 32 _ rfl) (by decide +kernel) (pa_cons (pv 4) pa_nil)))
  pss_nil))))
  (pss_cut (ps_ret (pv 2))
  pss_nil))), start_go hS (Nat.le_of_ble_eq_true rfl) ?_⟩
  refine go_set (ev_l1 (ev_l0)) ?_
  have bnd : ∀ i, i ≤ 3 → (rowsF most i).length ≤ 64 := fun i hi => by
    rw [rows_len]
    refine Nat.le_trans (Nat.pow_le_pow_left (show most + 1 ≤ 4 by omega) i) ?_
    exact Nat.le_trans (Nat.pow_le_pow_right (by decide) hi) (by decide)
  refine go_forR1 (fun i => ⟨[.d (.int n), .d (.int most), .d (.lst ((rowsF most i).map fun r => .lst (r.map D.int))), .any, .any, .any, .any], [], []⟩) (ea_cons (ev_d rfl) ea_nil) (by omega) (by walk_at "weak") (fun v i hi => ?_) ?_
  · have hb1 := bnd i (by omega)
    have hb2 := bnd (i + 1) (by omega)
    refine go_setN evN_l0 fun q => ?_
    let enc : List Int → D := fun r => .lst (r.map D.int)
    let ext : List Int → List (List Int) := fun r => (rng (most + 1)).map fun k => r ++ [k]
    show Go _ _ _ (TurnE _ _ ⟨[.d (.int n), .d (.int most), .d (.lst (((rowsF most i).flatMap ext).map enc)), .any, .any, .any, .any], [], []⟩ v .any _)
    have hlf : ∀ k, (((rowsF most i).take k).flatMap ext).length = ((rowsF most i).take k).length * (most + 1) := fun k => flat_len fun a _ => by show ((rng (most + 1)).map _).length = _; unfold rng; simp
    refine go_forL (ds := (rowsF most i).map enc) (fun k => ⟨[.d (.int n), .d (.int most), .d (.lst ((rowsF most i).map enc)), .any, .v (.ref q), .any, .any], [(q, .lst ((((rowsF most i).take k).flatMap ext).map enc))], [(v, .any)]⟩) (ev_d rfl) (by walk_at "weak") (fun _ _ => .d) (fun v2 k y hy => ?_) ?_
    · rw [List.getElem?_map] at hy
      cases hr : (rowsF most i)[k]? with
      | none => rw [hr] at hy; cases hy
      | some r =>
        rw [hr] at hy
        cases hy
        have hrl := (rows_ok (List.mem_of_getElem? hr)).1
        have hpre := hlf k
        rw [List.length_take] at hpre
        have hpre2 : (((rowsF most i).take k).flatMap ext).length ≤ 256 := by
          rw [hpre]
          exact Nat.le_trans (Nat.mul_le_mul (Nat.le_trans (Nat.min_le_right _ _) hb1) (show most + 1 ≤ 4 by omega)) (by decide)
        rw [take_one hr, List.flatMap_append]
        generalize ((rowsF most i).take k).flatMap ext = pre at hpre2 ⊢
        refine go_forR1 (fun z => ⟨[.d (.int n), .d (.int most), .d (.lst ((rowsF most i).map enc)), .any, .v (.ref q), .d (enc r), .any], [(q, .lst ((pre ++ (rng z).map fun k => r ++ [k]).map enc))], [(v2, .d (.lst ((rowsF most i).map enc))), (v, .any)]⟩) (ea_cons (ev_opI (ev_d rfl) ev_int) ea_nil) (by omega) ?_ (fun v3 z hz => ?_) ?_
        · show Weak _ _ ⟨_, [(q, .lst ((pre ++ []).map enc))], _⟩
          rw [List.append_nil]
          walk_at "weak"
        · have er : (pre ++ (rng (z + 1)).map fun k => r ++ [k]).map enc = ((pre ++ (rng z).map fun k => r ++ [k]).map enc) ++ [.lst (r.map D.int ++ [.int z])] := by
            rw [rng_succ, show (rng z ++ [(z : Int)]).map (fun k => r ++ [k]) = (rng z).map (fun k => r ++ [k]) ++ [r ++ [(z : Int)]] from List.map_append, ← List.append_assoc]
            generalize (pre ++ (rng z).map fun k => r ++ [k]) = pq
            rw [List.map_append]
            show _ ++ [D.lst ((r ++ [(z : Int)]).map D.int)] = _
            rw [List.map_append]
            rfl
          rw [er]
          refine go_append (k := 0) (ev_v rfl) (ev_frz (evN_cat (ev_d rfl) (ev_l1 (ev_d rfl)) .d .d (by rw [List.length_map]; simp; omega))) rfl rfl ?_ (by walk_at "nx")
          unfold rng
          simp
          omega
        · rw [show ((most : Int) + 1).toNat = most + 1 by omega]
          have e9 : (pre ++ [r].flatMap ext) = pre ++ (rng (most + 1)).map fun k => r ++ [k] := by simp [ext]
          rw [e9]
          walk_at "nx"
    · rw [List.length_map]
      have e8 : (rowsF most i).take (rowsF most i).length = rowsF most i := List.take_length
      show Go _ ⟨[.d (.int n), .d (.int most), .d (.lst ((rowsF most i).map enc)), .any, .v (.ref q), .any, .any], [(q, .lst ((((rowsF most i).take (rowsF most i).length).flatMap ext).map enc))], [(v, .any)]⟩ _ _
      rw [e8]
      exact go_set (ev_frz (evN_listL (ev_v rfl) (.o (k := 0) rfl))) (by walk_at "nx")
  · rw [Int.toNat_natCast]
    exact go_ret (ev_d rfl) (ret_of hP (by simp) rfl)
end

section
variable {P : Program} {w : World} {K : Frag} {mg : Str → Option Value} {base : Heap}
def N__law_all_sets : List Str := ["many", "span", "found", "turn", "longer", "one", "place"]
theorem sc__law_all_sets : FnScope N__law_all_sets ["many", "span"] (defScope s__law_all_sets) := ⟨rfl, rfl, rfl, by decide +kernel, rfl, by decide +kernel, by decide +kernel⟩
theorem ok__law_all_sets (T : Top fa fn ex K mg) {fd : FuncData} (F0 : FunD K d__law_all_sets.name d__law_all_sets.qual d__law_all_sets.params d__law_all_sets.body d__law_all_sets.scope (d__law_all_sets.dvs K) (d__law_all_sets.kws K) (d__law_all_sets.at_ K) fd) : Cal P w K mg base CX0 1 "_law_all_sets" ["many", "span"] (Prm K (R__law_all_sets K)) (d__law_all_sets.at_ K) fd := by
  have F : Fun K "_law_all_sets" "_law_all_sets" s__law_all_sets _ fd := He5.fun_of F0
  refine ⟨F.ok sc__law_all_sets (prm_len ?_) (fun cdv A outer s H vs Q E hr h => ?_), T.glo 18 _ rfl, F.kp, F.binds (ps := ["many", "span"]) fun _ _ _ _ _ _ us hl => match us, hl with | [_, _], _ => rfl⟩
  · rintro rs os res ⟨n, span, rfl, _⟩; rfl
  obtain ⟨G, rs, os, res, hR, hP, hS⟩ := prm_open (N := N__law_all_sets) h
  obtain ⟨n, span, rfl, rfl, h1, h2, rfl⟩ := hR
  have nd := sc__law_all_sets.nd
  have hu := hu_of hr
  refine ⟨_, (pss_cut (ps_set (i := 2) nd rfl (by first | exact Or.inl rfl | exact Or.inr rfl) (pe_lst (pa_cons (pe_tup pa_nil) pa_nil)))
  (pss_cut (ps_for PassesOwn.never rfl (pi_range1 (by rfl) (T.free 35 _ rfl) (pa_cons (pv 0) pa_nil)) (pg_name (i := 3) nd rfl (by first | exact Or.inl rfl | exact Or.inr rfl))
  (pss_cut (ps_set (i := 4) nd rfl (by first | exact Or.inl rfl | exact Or.inr rfl) (pe_lst pa_nil))
  (pss_cut (ps_for PassesOwn.never rfl (pi_list (pv 2)) (pg_name (i := 5) nd rfl (by first | exact Or.inl rfl | exact Or.inr rfl))
  (pss_cut (ps_for PassesOwn.never rfl (pi_range1 (by rfl) (T.free 35 _ rfl) (pa_cons (pv 1) pa_nil)) (pg_name (i := 6) nd rfl (by first | exact Or.inl rfl | exact Or.inr rfl))
  (pss_cut (ps_if (PW.pt (pw_or (pt_cmpR op_eq (pe_callB call_len_seq (by rfl) (T.free 31 _ rfl) (by decide +kernel) (pa_cons (pv 5) pa_nil)) pe_int (nomark _)) (pw_or1 (pt_cmpR op_gt (pv 6) (pe_ix ix_tup (pv 5) (pe_un un_neg pe_int) (fun _ _ => rfl)) (nomark _)))))
  (pss_cut (ps_expr (pe_bm PySem.F.plainAttrs_list PySem.F.slot_list_append PySem.F.type_list_append mt_append (pv 4) (pa_cons (pe_op op_catA (pv 5) (pe_tup (pa_cons (pv 6) pa_nil))) pa_nil)))
  pss_nil)
  pss_nil)
  pss_nil))
  pss_nil))
  (pss_cut (ps_set (i := 2) nd rfl (by first | exact Or.inl rfl | exact Or.inr rfl) (pe_callTy call_list_of (by rfl) (T.free 32 _ rfl) (by decide +kernel) (pa_cons (pv 4) pa_nil)))
  pss_nil))))
  (pss_cut (ps_ret (pv 2))
  pss_nil))), start_go hS (Nat.le_of_ble_eq_true rfl) ?_⟩
  refine go_set (ev_l1 (ev_t0)) ?_
  have bnd : ∀ i, i ≤ 3 → (setsF span i).length ≤ 1728 := fun i hi => by
    refine Nat.le_trans (sets_le i) (Nat.le_trans (Nat.pow_le_pow_left h2 i) ?_)
    exact Nat.le_trans (Nat.pow_le_pow_right (by decide) hi) (by decide)
  have slen : ∀ (i : Nat) (r : List Int), r ∈ setsF span i → r.length = i := fun i => by
    induction i with
    | zero =>
      intro r hr
      have : r = [] := by simpa [setsF] using hr
      rw [this]
      rfl
    | succ i ih =>
      intro r hr
      obtain ⟨q, hq, h2⟩ := List.mem_flatMap.mp hr
      obtain ⟨k, hk, rfl⟩ := List.mem_map.mp h2
      rw [List.length_append, ih q hq]
      rfl
  refine go_forR1 (fun i => ⟨[.d (.int n), .d (.int span), .d (.lst ((setsF span i).map fun r => .tup (r.map D.int))), .any, .any, .any, .any], [], []⟩) (ea_cons (ev_d rfl) ea_nil) (by omega) (by walk_at "weak") (fun v i hi => ?_) ?_
  · have hb1 := bnd i (by omega)
    refine go_setN evN_l0 fun q => ?_
    let enc : List Int → D := fun r => .tup (r.map D.int)
    let ext : List Int → List (List Int) := fun r => ((rng span).filter fun p => lastLt r p).map fun p => r ++ [p]
    show Go _ _ _ (TurnE _ _ ⟨[.d (.int n), .d (.int span), .d (.lst (((setsF span i).flatMap ext).map enc)), .any, .any, .any, .any], [], []⟩ v .any _)
    have hlf : ∀ k, (((setsF span i).take k).flatMap ext).length ≤ ((setsF span i).take k).length * 12 := fun k => flat_le fun a _ => by
      show (((rng span).filter _).map _).length ≤ 12
      rw [List.length_map]
      exact Nat.le_trans (List.length_filter_le _ _) (by rw [rng_len]; exact h2)
    refine go_forL (ds := (setsF span i).map enc) (fun k => ⟨[.d (.int n), .d (.int span), .d (.lst ((setsF span i).map enc)), .any, .v (.ref q), .any, .any], [(q, .lst ((((setsF span i).take k).flatMap ext).map enc))], [(v, .any)]⟩) (ev_d rfl) (by walk_at "weak") (fun _ _ => .d) (fun v2 k y hy => ?_) ?_
    · rw [List.getElem?_map] at hy
      cases hr : (setsF span i)[k]? with
      | none => rw [hr] at hy; cases hy
      | some r =>
        rw [hr] at hy
        cases hy
        have hrl := slen i r (List.mem_of_getElem? hr)
        have hpre := hlf k
        rw [List.length_take] at hpre
        have hpre2 : (((setsF span i).take k).flatMap ext).length ≤ 30000 := by
          have : min k (setsF span i).length * 12 ≤ 1728 * 12 := Nat.mul_le_mul_right _ (Nat.le_trans (Nat.min_le_right _ _) hb1)
          omega
        rw [take_one hr, List.flatMap_append]
        generalize ((setsF span i).take k).flatMap ext = pre at hpre2 ⊢
        refine go_forR1 (fun z => ⟨[.d (.int n), .d (.int span), .d (.lst ((setsF span i).map enc)), .any, .v (.ref q), .d (enc r), .any], [(q, .lst ((pre ++ ((rng z).filter fun p => lastLt r p).map fun p => r ++ [p]).map enc))], [(v2, .d (.lst ((setsF span i).map enc))), (v, .any)]⟩) (ea_cons (ev_d rfl) ea_nil) (by omega) ?_ (fun v3 z hz => ?_) ?_
        · show Weak _ _ ⟨_, [(q, .lst ((pre ++ []).map enc))], _⟩
          rw [List.append_nil]
          walk_at "weak"
        · have hfl : ((rng z).filter fun p => lastLt r p).length ≤ 12 := Nat.le_trans (List.length_filter_le _ _) (by rw [rng_len]; omega)
          have ec : (decide (((r.map D.int).length : Int) = 0) || decide (((r.getLast?).getD 0) < (z : Int))) = lastLt r z := by
            unfold lastLt
            cases r with
            | nil => rfl
            | cons a r => 
              cases hgl : (a :: r).getLast? with
              | none => simp at hgl
              | some y =>
                have : ¬ (((a :: r).map D.int).length : Int) = 0 := by rw [List.length_map, List.length_cons]; omega
                rw [decide_eq_false this]
                rfl
          refine go_if ⟨[.d (.int n), .d (.int span), .d (.lst ((setsF span i).map enc)), .any, .v (.ref q), .d (enc r), .d (.int z)], [(q, .lst ((pre ++ ((rng (z + 1)).filter fun p => lastLt r p).map fun p => r ++ [p]).map enc))], [(v3, .any), (v2, .d (.lst ((setsF span i).map enc))), (v, .any)]⟩ (et_is (et_or (b := decide (((r.getLast?).getD 0) < (z : Int))) (et_test (ev_eqI (ev_lenT (ev_d rfl)) ev_int)) (fun hz => et_test (ev_opB (ev_d rfl) (ev_ixT (x := .int ((r.getLast?).getD 0)) (ev_d rfl) (ev_unI ev_int) ?_)))) ec) (fun hb => ?_) (fun hb => ?_) (by walk_at "nx")
          · have hne : r ≠ [] := fun z0 => by subst z0; simp at hz
            have hl : 0 < r.length := List.length_pos_iff.mpr hne
            unfold L2.atI ixN
            rw [List.length_map, if_neg (by omega), if_pos (by omega), show ((-1 : Int) + (r.length : Int)).toNat = r.length - 1 by omega]
            show (r.map D.int)[r.length - 1]? = _
            rw [List.getElem?_map, ← List.getLast?_eq_getElem?]
            cases hgl : r.getLast? with
            | none => exact absurd (List.getLast?_eq_none_iff.mp hgl) hne
            | some y => rfl
          · have er : (pre ++ ((rng (z + 1)).filter fun p => lastLt r p).map fun p => r ++ [p]).map enc = ((pre ++ ((rng z).filter fun p => lastLt r p).map fun p => r ++ [p]).map enc) ++ [.tup (r.map D.int ++ [.int z])] := by
              rw [rng_succ, List.filter_append, show [(z : Int)].filter (fun p => lastLt r p) = [(z : Int)] by simp [hb], show ((rng z).filter (fun p => lastLt r p) ++ [(z : Int)]).map (fun k => r ++ [k]) = ((rng z).filter fun p => lastLt r p).map (fun k => r ++ [k]) ++ [r ++ [(z : Int)]] from List.map_append, ← List.append_assoc]
              generalize (pre ++ ((rng z).filter fun p => lastLt r p).map fun k => r ++ [k]) = pq
              rw [List.map_append]
              show _ ++ [D.tup ((r ++ [(z : Int)]).map D.int)] = _
              rw [List.map_append]
              rfl
            rw [er]
            refine go_append (k := 0) (ev_v rfl) (ev_catT (ev_d rfl) (ev_t1 (ev_d rfl)) (by rw [List.length_map]; simp; omega)) rfl rfl ?_ (by walk_at "nx")
            rw [List.length_map, List.length_append, List.length_map]
            omega
          · have er : (rng (z + 1)).filter (fun p => lastLt r p) = (rng z).filter fun p => lastLt r p := by
              rw [rng_succ, List.filter_append, show [(z : Int)].filter (fun p => lastLt r p) = [] by simp [hb], List.append_nil]
            rw [er]
            walk_at "nx"
        · rw [Int.toNat_natCast]
          have e9 : (pre ++ [r].flatMap ext) = pre ++ ((rng span).filter fun p => lastLt r p).map fun p => r ++ [p] := by simp [ext]
          rw [e9]
          walk_at "nx"
    · rw [List.length_map]
      have e8 : (setsF span i).take (setsF span i).length = setsF span i := List.take_length
      show Go _ ⟨[.d (.int n), .d (.int span), .d (.lst ((setsF span i).map enc)), .any, .v (.ref q), .any, .any], [(q, .lst ((((setsF span i).take (setsF span i).length).flatMap ext).map enc))], [(v, .any)]⟩ _ _
      rw [e8]
      exact go_set (ev_frz (evN_listL (ev_v rfl) (.o (k := 0) rfl))) (by walk_at "nx")
  · rw [Int.toNat_natCast]
    exact go_ret (ev_d rfl) (ret_of hP (by simp) rfl)
end

section
variable {P : Program} {w : World} {K : Frag} {mg : Str → Option Value} {base : Heap}
def N__law_product : List Str := ["weights", "total", "row"]
theorem sc__law_product : FnScope N__law_product ["weights"] (defScope s__law_product) := ⟨rfl, rfl, rfl, by decide +kernel, rfl, by decide +kernel, by decide +kernel⟩
theorem ok__law_product (T : Top fa fn ex K mg) {fd : FuncData} (F0 : FunD K d__law_product.name d__law_product.qual d__law_product.params d__law_product.body d__law_product.scope (d__law_product.dvs K) (d__law_product.kws K) (d__law_product.at_ K) fd) : Cal P w K mg base CX0 1 "_law_product" ["weights"] (Prm K (R__law_product K)) (d__law_product.at_ K) fd := by
  have F : Fun K "_law_product" "_law_product" s__law_product _ fd := He5.fun_of F0
  refine ⟨F.ok sc__law_product (prm_len ?_) (fun cdv A outer s H vs Q E hr h => ?_), T.glo 20 _ rfl, F.kp, F.binds (ps := ["weights"]) fun _ _ _ _ _ _ us hl => match us, hl with | [_], _ => rfl⟩
  · rintro rs os res ⟨k, ms, rfl, _⟩; rfl
  obtain ⟨G, rs, os, res, hR, hP, hS⟩ := prm_open (N := N__law_product) h
  obtain ⟨k, ms, rfl, rfl, h1, rfl⟩ := hR
  have nd := sc__law_product.nd
  have hu := hu_of hr
  refine ⟨_, (pss_cut (ps_set (i := 1) nd rfl (by first | exact Or.inl rfl | exact Or.inr rfl) pe_int)
  (pss_cut (ps_for PassesOwn.never rfl (pi_list (pv 0)) (pg_name (i := 2) nd rfl (by first | exact Or.inl rfl | exact Or.inr rfl))
  (pss_cut (ps_set (i := 1) nd rfl (by first | exact Or.inl rfl | exact Or.inr rfl) (pe_op op_mulW (pv 1) (pe_callB (cr_sumA rfl) (by rfl) (T.free 38 _ rfl) (by decide +kernel) (pa_cons (pv 2) pa_nil))))
  pss_nil))
  (pss_cut (ps_ret (pv 1))
  pss_nil))), start_go hS (Nat.le_of_ble_eq_true rfl) ?_⟩
  refine go_set ev_int ?_
  refine go_forL (fun i => ⟨[.d (.lst (ms.map fun m => .lst (m.map D.int))), .d (.int (prodL (ms.take i))), .any], [], []⟩) (ev_d rfl) (by walk_at "weak") (fun _ _ => .d) (fun v i y hy => ?_) ?_
  · rw [List.getElem?_map] at hy
    cases hm : ms[i]? with
    | none => rw [hm] at hy; cases hy
    | some m =>
      rw [hm] at hy
      cases hy
      refine go_set (ev_is (y := .int (prodL (ms.take (i + 1)))) (ev_opIC (ev_d rfl) (ev_sumSL (ev_d rfl) .d rfl) (L2.wide_mul (a := 60001) (b := 60) (prodL_bd (h1.take i)) (h1.sum m (List.mem_of_getElem? hm)) (by decide) (by decide) (by decide))) ?_) (by walk_at "nx")
      rw [take_one hm, prodL_snoc]
  · rw [List.length_map]
    have e : ms.take ms.length = ms := List.take_length
    show Go _ ⟨[.d (.lst (ms.map fun m => .lst (m.map D.int))), .d (.int (prodL (ms.take ms.length))), .any], [], []⟩ _ _
    rw [e]
    exact go_ret (ev_d rfl) (ret_of hP (by simp) rfl)
end

section
variable {P : Program} {w : World} {K : Frag} {mg : Str → Option Value} {base : Heap}
def N__law_weights : List Str := ["draws", "script", "beats", "many", "found", "beat", "row", "number", "weight"]
theorem sc__law_weights : FnScope N__law_weights ["draws", "script", "beats", "many"] (defScope s__law_weights) := ⟨rfl, rfl, rfl, by decide +kernel, rfl, by decide +kernel, by decide +kernel⟩
theorem ok__law_weights (T : Top fa fn ex K mg) {fd : FuncData} (F0 : FunD K d__law_weights.name d__law_weights.qual d__law_weights.params d__law_weights.body d__law_weights.scope (d__law_weights.dvs K) (d__law_weights.kws K) (d__law_weights.at_ K) fd) {f__law_take : Addr} {fd__law_take : FuncData} (c__law_take : Cal P w K mg base CX0 1 "_law_take" ["draws", "many"] (Prm K (R__law_take K)) f__law_take fd__law_take) {f__law_great : Addr} {fd__law_great : FuncData} (c__law_great : Cal P w K mg base CX0 1 "_law_great" ["script", "at", "limit"] (Prm K (R__law_great K)) f__law_great fd__law_great) : Cal P w K mg base CX0 2 "_law_weights" ["draws", "script", "beats", "many"] (Prm K (R__law_weights K)) (d__law_weights.at_ K) fd := by
  have F : Fun K "_law_weights" "_law_weights" s__law_weights _ fd := He5.fun_of F0
  refine ⟨F.ok sc__law_weights (prm_len ?_) (fun cdv A outer s H vs Q E hr h => ?_), T.glo 22 _ rfl, F.kp, F.binds (ps := ["draws", "script", "beats", "many"]) fun _ _ _ _ _ _ us hl => match us, hl with | [_, _, _, _], _ => rfl⟩
  · rintro rs os res ⟨p, ds, ns, beats, many, rfl, _⟩; rfl
  obtain ⟨G, rs, os, res, hR, hP, hS⟩ := prm_open (N := N__law_weights) h
  obtain ⟨p, ds, ns, beats, many, rfl, rfl, h1, h2, rfl⟩ := hR
  have nd := sc__law_weights.nd
  have hu := hu_of hr
  refine ⟨_, (pss_cut (ps_set (i := 4) nd rfl (by first | exact Or.inl rfl | exact Or.inr rfl) (pe_lst pa_nil))
  (pss_cut (ps_for PassesOwn.never rfl (pi_range1 (by rfl) (T.free 35 _ rfl) (pa_cons (pv 2) pa_nil)) (pg_name (i := 5) nd rfl (by first | exact Or.inl rfl | exact Or.inr rfl))
  (pss_cut (ps_set (i := 6) nd rfl (by first | exact Or.inl rfl | exact Or.inr rfl) (pe_lst pa_nil))
  (pss_cut (ps_for PassesOwn.never rfl (pi_range1 (by rfl) (T.free 35 _ rfl) (pa_cons (pe_op op_add (pv 3) pe_int) pa_nil)) (pg_name (i := 7) nd rfl (by first | exact Or.inl rfl | exact Or.inr rfl))
  (pss_cut (ps_set (i := 8) nd rfl (by first | exact Or.inl rfl | exact Or.inr rfl) (pe_op op_sub (pe_call c__law_take.ok (hr.mono (by decide)) (by rfl) c__law_take.mg c__law_take.kp c__law_take.bd .nil pass0 (pa_cons (pv 0) (pa_cons pe_int pa_nil))) pe_int))
  (pss_cut (ps_if (pt_cmpR op_eq (pe_call c__law_take.ok (hr.mono (by decide)) (by rfl) c__law_take.mg c__law_take.kp c__law_take.bd .nil pass0 (pa_cons (pv 0) (pa_cons pe_int pa_nil))) pe_int (nomark _))
  (pss_cut (ps_set (i := 8) nd rfl (by first | exact Or.inl rfl | exact Or.inr rfl) (pe_call c__law_great.ok (hr.mono (by decide)) (by rfl) c__law_great.mg c__law_great.kp c__law_great.bd .nil pass0 (pa_cons (pv 1) (pa_cons (pv 7) (pa_cons (pe_op op_pow pe_int pe_int) pa_nil)))))
  pss_nil)
  pss_nil)
  (pss_cut (ps_expr (pe_bm PySem.F.plainAttrs_list PySem.F.slot_list_append PySem.F.type_list_append mt_append (pv 6) (pa_cons (pv 8) pa_nil)))
  pss_nil))))
  (pss_cut (ps_expr (pe_bm PySem.F.plainAttrs_list PySem.F.slot_list_append PySem.F.type_list_append mt_append (pv 4) (pa_cons (pv 6) pa_nil)))
  pss_nil))))
  (pss_cut (ps_ret (pv 4))
  pss_nil))), start_go hS (Nat.le_of_ble_eq_true rfl) ?_⟩
  refine go_setN evN_l0 fun q => ?_
  let enc : List Int → D := fun m => .lst (m.map D.int)
  refine go_forR1 (fun b => ⟨[.v (.ref p), .d (.scr ns), .d (.int beats), .d (.int many), .v (.ref q), .any, .any, .any, .any], [(p, .lst (drw (wRows ns ds many b).2)), (q, .lst ((wRows ns ds many b).1.map enc))], []⟩) (ea_cons (ev_d rfl) ea_nil) (by omega) (by walk_at "weak") (fun v b hb => ?_) ?_
  · have hl := (wRows_ok ns ds many h2 b).1
    show Go _ _ _ (TurnE _ _ ⟨[.v (.ref p), .d (.scr ns), .d (.int beats), .d (.int many), .v (.ref q), .any, .any, .any, .any], [(p, .lst (drw (wRow ns (wRows ns ds many b).2 (many + 1)).2)), (q, .lst (((wRows ns ds many b).1 ++ [(wRow ns (wRows ns ds many b).2 (many + 1)).1]).map enc))], []⟩ v .any _)
    generalize wRows ns ds many b = z at hl ⊢
    obtain ⟨ws, d⟩ := z
    dsimp only at hl ⊢
    refine go_setN evN_l0 fun q2 => ?_
    refine go_forR1 (fun k => ⟨[.v (.ref p), .d (.scr ns), .d (.int beats), .d (.int many), .v (.ref q), .any, .v (.ref q2), .any, .any], [(p, .lst (drw (wRow ns d k).2)), (q, .lst (ws.map enc)), (q2, .lst ((wRow ns d k).1.map D.int))], [(v, .any)]⟩) (ea_cons (ev_opI (ev_d rfl) ev_int) ea_nil) (by omega) (by walk_at "weak") (fun v2 k hk => ?_) ?_
    · have hl2 := (wRow_ok ns d k).1
      show Go _ _ _ (TurnE _ _ ⟨[.v (.ref p), .d (.scr ns), .d (.int beats), .d (.int many), .v (.ref q), .any, .v (.ref q2), .any, .any], [(p, .lst (drw (wRow ns d k).2.tail.tail)), (q, .lst (ws.map enc)), (q2, .lst (((wRow ns d k).1 ++ [wgt ns (wRow ns d k).2 k]).map D.int))], [(v, .any)]⟩ v2 .any _)
      generalize wRow ns d k = y at hl2 ⊢
      obtain ⟨w, d2⟩ := y
      dsimp only at hl2 ⊢
      refine go_set (ev_opI (ev_call1 (k := 0) (ea_cons (ev_v rfl) (ea_cons ev_int ea_nil)) rfl ⟨p, d2, 9, rfl, rfl, by decide, rfl⟩) ev_int) ?_
      refine go_if ⟨[.v (.ref p), .d (.scr ns), .d (.int beats), .d (.int many), .v (.ref q), .any, .v (.ref q2), .d (.int k), .d (.int (wgt ns d2 k))], [(p, .lst (drw d2.tail.tail)), (q, .lst (ws.map enc)), (q2, .lst (w.map D.int))], [(v2, .any), (v, .any)]⟩ (et_test (ev_eqI (ev_call1 (k := 0) (ea_cons (ev_v rfl) (ea_cons ev_int ea_nil)) rfl ⟨p, d2.tail, 8, rfl, rfl, by decide, rfl⟩) ev_int)) (fun hb => ?_) (fun hb => ?_) ?_
      · have hb' : tk d2.tail 8 = 7 := of_decide_eq_true hb
        have e : wgt ns d2 k = great ns k 1000000000000 := if_pos hb'
        rw [e]
        exact go_set (ev_call (ea_cons (ev_d rfl) (ea_cons (ev_d rfl) (ea_cons (ev_opIC ev_int ev_int ⟨by decide, by decide, by decide⟩) ea_nil))) ⟨ns, k, 1000000000000, rfl, rfl, by omega, by decide, by decide, rfl⟩) (by walk_at "nx")
      · have hb' : ¬ tk d2.tail 8 = 7 := of_decide_eq_false hb
        have e : wgt ns d2 k = tk d2 9 - 4 := if_neg hb'
        rw [e]
        walk_at "nx"
      · rw [show (w ++ [wgt ns d2 k]).map D.int = w.map D.int ++ [D.int (wgt ns d2 k)] from List.map_append]
        exact go_append (k := 2) (ev_v rfl) (ev_d rfl) rfl rfl (by rw [List.length_map]; omega) (by walk_at "nx")
    · rw [show ((many : Int) + 1).toNat = many + 1 by omega, show (ws ++ [(wRow ns d (many + 1)).1]).map enc = ws.map enc ++ [enc (wRow ns d (many + 1)).1] from List.map_append]
      refine go_append (k := 1) (x := enc (wRow ns d (many + 1)).1) (s2 := ⟨[.v (.ref p), .d (.scr ns), .d (.int beats), .d (.int many), .v (.ref q), .any, .v (.ref q2), .any, .any], [(p, .lst (drw (wRow ns d (many + 1)).2)), (q, .lst (ws.map enc))], [(v, .any)]⟩) (ev_v rfl) (ev_st (ev_vfrz (k := 2) (ev_v rfl) rfl) rfl) rfl rfl (by rw [List.length_map]; omega) ?_
      exact go_nxP (weak_of (.same (.same (.same (.same (.same (.drop (.drop (.drop (.drop .nil))))))))) (by walk_at "sub") (by walk_at "sub")) rfl
  · rw [Int.toNat_natCast]
    exact go_ret (ev_vfrz (k := 1) (ev_v rfl) rfl) (ret_of hP (by simp) rfl)
end

section
variable {P : Program} {w : World} {K : Frag} {mg : Str → Option Value} {base : Heap}
def N__law_one_way : List Str := ["goal", "numbers", "handed", "told", "at"]
theorem sc__law_one_way : FnScope N__law_one_way ["goal", "numbers"] (defScope s__law_one_way) := ⟨rfl, rfl, rfl, by decide +kernel, rfl, by decide +kernel, by decide +kernel⟩
theorem ok__law_one_way (T : Top fa fn ex K mg) {fd : FuncData} (F0 : FunD K d__law_one_way.name d__law_one_way.qual d__law_one_way.params d__law_one_way.body d__law_one_way.scope (d__law_one_way.dvs K) (d__law_one_way.kws K) (d__law_one_way.at_ K) fd) {f_starts_of : Addr} {fd_starts_of : FuncData} (c_starts_of : Cal P w K mg base (L2.CX P w) 4 "starts_of" ["goal", "numbers"] (Prm K (R_starts_of K)) f_starts_of fd_starts_of) {f__law_played : Addr} {fd__law_played : FuncData} (c__law_played : Cal P w K mg base CX0 2 "_law_played" ["start", "heights"] (Prm K (R__law_played K)) f__law_played fd__law_played) {f__law_wholes : Addr} {fd__law_wholes : FuncData} (c__law_wholes : Cal P w K mg base CX0 2 "_law_wholes" ["value"] (Prm K (R__law_wholes K)) f__law_wholes fd__law_wholes) : Cal P w K mg base CX0 5 "_law_one_way" ["goal", "numbers"] (Prm K (R__law_one_way K)) (d__law_one_way.at_ K) fd := by
  have F : Fun K "_law_one_way" "_law_one_way" s__law_one_way _ fd := He5.fun_of F0
  refine ⟨F.ok sc__law_one_way (prm_len ?_) (fun cdv A outer s H vs Q E hr h => ?_), T.glo 21 _ rfl, F.kp, F.binds (ps := ["goal", "numbers"]) fun _ _ _ _ _ _ us hl => match us, hl with | [_, _], _ => rfl⟩
  · rintro rs os res ⟨ns, ms, rfl, _⟩; rfl
  obtain ⟨G, rs, os, res, hR, hP, hS⟩ := prm_open (N := N__law_one_way) h
  obtain ⟨ns, ms, rfl, rfl, h1, h2, rfl⟩ := hR
  have nd := sc__law_one_way.nd
  have hu := hu_of hr
  refine ⟨_, (pss_cut (ps_set (i := 2) nd rfl (by first | exact Or.inl rfl | exact Or.inr rfl) (pe_callTy call_list_of (by rfl) (T.free 32 _ rfl) (by decide +kernel) (pa_cons (pv 1) pa_nil)))
  (pss_cut (ps_set (i := 3) nd rfl (by first | exact Or.inl rfl | exact Or.inr rfl) (pe_call c_starts_of.ok (hr.mono (by decide)) (by rfl) c_starts_of.mg c_starts_of.kp c_starts_of.bd .nil passL (pa_cons (pe_callTy call_list_of (by rfl) (T.free 32 _ rfl) (by decide +kernel) (pa_cons (pv 0) pa_nil)) (pa_cons (pv 2) pa_nil))))
  (pss_cut (ps_if (PW.pt (pw_or (pt_not (pt_val (pe_callB call_isi (by rfl) (T.free 30 _ rfl) (by decide +kernel) (pa_cons (pv 3) (pa_cons (pe_bltn (v := .ty "tuple") (by rfl) (T.free 39 _ rfl) (by decide +kernel) rfl) pa_nil))))) (pw_or (pt_cmpR op_ne (pe_callB call_len_seq (by rfl) (T.free 31 _ rfl) (by decide +kernel) (pa_cons (pv 3) pa_nil)) pe_int (nomark _)) (pw_or1 (pt_cmpR (op_neD hr.units) (pv 2) (pv 1) (nomark _))))))
  (pss_cut (ps_ret pe_bl)
  pss_nil)
  pss_nil)
  (pss_cut (ps_if (PW.pt (pw_or (pt_not (pt_val (pe_call c__law_wholes.ok (hr.mono (by decide)) (by rfl) c__law_wholes.mg c__law_wholes.kp c__law_wholes.bd .nil pass0 (pa_cons (pe_ix ix_tup (pv 3) pe_int (fun _ _ => rfl)) pa_nil)))) (pw_or1 (pt_not (pt_val (pe_call c__law_wholes.ok (hr.mono (by decide)) (by rfl) c__law_wholes.mg c__law_wholes.kp c__law_wholes.bd .nil pass0 (pa_cons (pe_ix ix_tup (pv 3) pe_int (fun _ _ => rfl)) pa_nil)))))))
  (pss_cut (ps_ret pe_bl)
  pss_nil)
  pss_nil)
  (pss_cut (ps_if (PW.pt (pw_or (pt_cmpR op_ne (pe_callB call_len_seq (by rfl) (T.free 31 _ rfl) (by decide +kernel) (pa_cons (pe_ix ix_tup (pv 3) pe_int (fun _ _ => rfl)) pa_nil)) (pe_callB call_len_seq (by rfl) (T.free 31 _ rfl) (by decide +kernel) (pa_cons (pv 1) pa_nil)) (nomark _)) (pw_or1 (pt_cmpR op_ne (pe_callB call_len_seq (by rfl) (T.free 31 _ rfl) (by decide +kernel) (pa_cons (pe_ix ix_tup (pv 3) pe_int (fun _ _ => rfl)) pa_nil)) (pe_callB call_len_seq (by rfl) (T.free 31 _ rfl) (by decide +kernel) (pa_cons (pv 0) pa_nil)) (nomark _)))))
  (pss_cut (ps_ret pe_bl)
  pss_nil)
  pss_nil)
  (pss_cut (ps_for PassesOwn.never rfl (pi_range1 (by rfl) (T.free 35 _ rfl) (pa_cons (pe_callB call_len_seq (by rfl) (T.free 31 _ rfl) (by decide +kernel) (pa_cons (pe_ix ix_tup (pv 3) pe_int (fun _ _ => rfl)) pa_nil)) pa_nil)) (pg_name (i := 4) nd rfl (by first | exact Or.inl rfl | exact Or.inr rfl))
  (pss_cut (ps_if (PW.pt (pw_or (pt_cmpR op_lt (pe_ix ix_tup (pe_ix ix_tup (pv 3) pe_int (fun _ _ => rfl)) (pv 4) (fun _ _ => rfl)) pe_int (nomark _)) (pw_or1 (PW.pt (pw_and (pt_cmpR op_gt (pv 4) pe_int (nomark _)) (pw_and1 (pt_cmpR op_le (pe_ix ix_tup (pe_ix ix_tup (pv 3) pe_int (fun _ _ => rfl)) (pv 4) (fun _ _ => rfl)) (pe_ix ix_tup (pe_ix ix_tup (pv 3) pe_int (fun _ _ => rfl)) (pe_op op_sub (pv 4) pe_int) (fun _ _ => rfl)) (nomark _))))))))
  (pss_cut (ps_ret pe_bl)
  pss_nil)
  pss_nil)
  pss_nil))
  (pss_cut (ps_ret (pe_cmpR (op_eqD hr.units) (pe_call c__law_played.ok (hr.mono (by decide)) (by rfl) c__law_played.mg c__law_played.kp c__law_played.bd .nil pass0 (pa_cons (pe_ix ix_tup (pv 3) pe_int (fun _ _ => rfl)) (pa_cons (pe_ix ix_tup (pv 3) pe_int (fun _ _ => rfl)) pa_nil))) (pe_lst (pa_cons (pv 1) (pa_cons (pe_callTy call_tuple_of (by rfl) (T.free 39 _ rfl) (by decide +kernel) (pa_cons (pe_callB cr_sortedA (by rfl) (T.free 37 _ rfl) (by decide +kernel) (pa_cons (pv 0) pa_nil)) pa_nil)) pa_nil))) (nomark _)))
  pss_nil))))))), start_go hS (Nat.le_of_ble_eq_true rfl) ?_⟩
  obtain ⟨g1, g2, g3, g4⟩ := starts_ok h1.NN h2.rng
  have eS : RSt K (.lst (ns.map D.int)) (.lst (ms.map D.int)) (.ret (.d (.tup [.tup ((startsF ns ms).1.map D.int), .tup ((startsF ns ms).2.reverse.map D.int)])) []) := .ok h1 sq_l h2
  have g3' : (startsF ns ms).2.reverse.length = ms.length := by rw [List.length_reverse, g3]
  generalize (startsF ns ms).1 = st at g1 g2 g4 eS
  generalize (startsF ns ms).2.reverse = hts at g3' g4 eS
  have l1 := h1.len
  have l2 := h2.len
  refine go_set (ev_frz (evN_listL (ev_d rfl) .d)) ?_
  refine go_set (ev_call (ea_cons (ev_frz (evN_listL (ev_d rfl) .d)) (ea_cons (ev_d rfl) ea_nil)) ⟨_, _, _, rfl, rfl, eS, rfl⟩) ?_
  refine go_ifR (b := false) (et_is (et_or (et_not (et_test (ev_isi rfl (ev_d rfl) (b := true) (by decide +kernel)))) (fun _ => et_or (et_test (ev_neI (ev_lenT (ev_d rfl)) ev_int)) (fun _ => et_test (ev_neDr (n := 1) (ev_d rfl) (ev_d rfl) .d .d (.lst pd_ints))))) (by simp)) (fun z => nomatch z) fun _ => ?_
  have t0 : ∀ {s : S}, s.sl[3]? = some (.d (.tup [.tup (st.map D.int), .tup (hts.map D.int)])) → Ev ⟨K, G, H, []⟩ (tOp (rIxT K) (tVar 3) (tC (.int 0))) s (.d (.tup (st.map D.int))) s := fun e => ev_ixT (ev_d e) ev_int rfl
  have t1 : ∀ {s : S}, s.sl[3]? = some (.d (.tup [.tup (st.map D.int), .tup (hts.map D.int)])) → Ev ⟨K, G, H, []⟩ (tOp (rIxT K) (tVar 3) (tC (.int 1))) s (.d (.tup (hts.map D.int))) s := fun e => ev_ixT (ev_d e) ev_int rfl
  refine go_ifR (b := false) (et_is (et_or (et_not (et_test (ev_call (ea_cons (t0 rfl) ea_nil) ⟨st, rfl, rfl, rfl⟩))) (fun _ => et_not (et_test (ev_call (ea_cons (t1 rfl) ea_nil) ⟨hts, rfl, rfl, rfl⟩)))) (by simp)) (fun z => nomatch z) fun _ => ?_
  refine go_ifR (b := false) (et_is (et_or (et_test (ev_neI (ev_lenT (t1 rfl)) (ev_lenL (ev_d rfl) .d))) (fun _ => et_test (ev_neI (ev_lenT (t0 rfl)) (ev_lenL (ev_d rfl) .d)))) (by simp [g2, g3'])) (fun z => nomatch z) fun _ => ?_
  refine go_forR1 (fun i => ⟨[.d (.lst (ns.map D.int)), .d (.lst (ms.map D.int)), .any, .d (.tup [.tup (st.map D.int), .tup (hts.map D.int)]), .any], [], []⟩) (ea_cons (ev_lenT (t0 rfl)) ea_nil) (by rw [List.length_map]; omega) (by walk_at "weak") (fun v i hi => ?_) ?_
  · rw [List.length_map] at hi
    have e1 : st[i]? = some (st[i]'(by omega)) := List.getElem?_eq_getElem _
    have n1 := g1.nn _ (List.mem_of_getElem? e1)
    have hd : 0 < i → decide (st[i]'(by omega) ≤ (st[i - 1]'(by omega))) = false := fun h0 => by
      have := List.pairwise_iff_getElem.mp g1.asc (i - 1) i (by omega) (by omega) (by omega)
      exact decide_eq_false (by omega)
    have e2 : 0 < i → st[i - 1]? = some (st[i - 1]'(by omega)) := fun h0 => List.getElem?_eq_getElem _
    generalize st[i]'(by omega) = a at e1 n1 hd
    generalize st[i - 1]'(by omega) = c at e2 hd
    refine go_ifR (b := false) (et_is (et_or (b := false) (et_test (ev_opB (ev_ixT (x := .int a) (t0 rfl) (ev_d rfl) (by rw [atI_nat', List.getElem?_map, e1]; rfl)) ev_int)) (fun _ => et_is (et_and (b := false) (et_test (ev_opB (ev_d rfl) ev_int)) (fun hz => ?_)) (by simp))) (by simp; omega)) (fun z => nomatch z) fun _ => by walk_at "nx"
    have h0 : 0 < i := by simpa using hz
    refine et_is (et_test (ev_opB (ev_ixT (x := .int a) (t0 rfl) (ev_d rfl) (by rw [atI_nat', List.getElem?_map, e1]; rfl)) (ev_ixT (x := .int c) (t0 rfl) (ev_opI (ev_d rfl) ev_int) ?_))) (hd h0)
    rw [show ((i : Int) - 1) = ((i - 1 : Nat) : Int) by omega, atI_nat', List.getElem?_map, e2 h0]
    rfl
  · have hlen : ∀ i, ((hts.take i).foldl behindF st).length ≤ 5000 := fun i => by
      have := fold_behind_len (hts.take i) st
      rw [List.length_take] at this
      omega
    exact go_ret (ev_eqDr (n := 2) (ev_call (ea_cons (t0 rfl) (ea_cons (t1 rfl) ea_nil)) ⟨st, hts, ms, srt ns, rfl, rfl, g4, by omega, hlen, rfl⟩) (ev_l2 (ev_d rfl) (ev_tupL (ev_frz (evN_sortSL (ev_d rfl) .d rfl)) .d)) .d .d (.lst fun d hd => by
      rcases List.mem_cons.mp hd with rfl | hd
      · exact .lst pd_ints
      · cases List.mem_singleton.mp hd
        exact .tup pd_ints)) (ret_of hP (by simp) rfl)
end

section
variable {P : Program} {w : World} {K : Frag} {mg : Str → Option Value} {base : Heap}
def N__law_trouble : List Str := ["asked", "goal", "row", "told", "set_problem", "row_problem", "weight_problem"]
theorem sc__law_trouble : FnScope N__law_trouble ["asked", "goal", "row"] (defScope s__law_trouble) := ⟨rfl, rfl, rfl, by decide +kernel, rfl, by decide +kernel, by decide +kernel⟩
theorem ok__law_trouble (T : Top fa fn ex K mg) {fd : FuncData} (F0 : FunD K d__law_trouble.name d__law_trouble.qual d__law_trouble.params d__law_trouble.body d__law_trouble.scope (d__law_trouble.dvs K) (d__law_trouble.kws K) (d__law_trouble.at_ K) fd) {f_starts_of : Addr} {fd_starts_of : FuncData} (c_starts_of : Cal P w K mg base (L2.CX P w) 4 "starts_of" ["goal", "numbers"] (Prm K (R_starts_of K)) f_starts_of fd_starts_of) {f_ways_into : Addr} {fd_ways_into : FuncData} (c_ways_into : Cal P w K mg base (L2.CX P w) 4 "ways_into" ["goal", "weights"] (Prm K (R_ways_into K)) f_ways_into fd_ways_into) : Cal P w K mg base CX0 5 "_law_trouble" ["asked", "goal", "row"] (Prm K (R__law_trouble K)) (d__law_trouble.at_ K) fd := by
  have F : Fun K "_law_trouble" "_law_trouble" s__law_trouble _ fd := He5.fun_of F0
  refine ⟨F.ok sc__law_trouble (prm_len ?_) (fun cdv A outer s H vs Q E hr h => ?_), T.glo 23 _ rfl, F.kp, F.binds (ps := ["asked", "goal", "row"]) fun _ _ _ _ _ _ us hl => match us, hl with | [_, _, _], _ => rfl⟩
  · rintro rs os res ⟨a, g, w, x, rfl, _⟩; rfl
  obtain ⟨G, rs, os, res, hR, hP, hS⟩ := prm_open (N := N__law_trouble) h
  obtain ⟨a, g, w, x, rfl, rfl, h1, rfl⟩ := hR
  have nd := sc__law_trouble.nd
  have hu := hu_of hr
  refine ⟨_, (pss_cut (ps_set (i := 3) nd rfl (by first | exact Or.inl rfl | exact Or.inr rfl) pe_non)
  (pss_cut (ps_tryMk rfl rfl nd takes0 (fun W pn xe tk po => (pss_cut (ps_if (pt_cmpR op_eq (pv 0) pe_int (nomark _))
  (pss_cut (ps_expr (pe_callS c_starts_of.ok (hr.mono (by decide)) (by rfl) c_starts_of.mg c_starts_of.kp c_starts_of.bd (fun σ => passAt tk σ) (pa_cons (pv 1) (pa_cons (pv 2) pa_nil))))
  pss_nil)
  (pss_cut (ps_expr (pe_callS c_ways_into.ok (hr.mono (by decide)) (by rfl) c_ways_into.mg c_ways_into.kp c_ways_into.bd (fun σ => passAt tk σ) (pa_cons (pv 1) (pa_cons (pv 2) pa_nil))))
  pss_nil))
  pss_nil)) (.as_ (i := 4) rfl rfl ⟨rfl, by decide, .inl (T.glo 2 _ rfl)⟩ (fun a oe cls d pn hz hf => (pss_cut (ps_set (i := 3) nd rfl (by first | exact Or.inl rfl | exact Or.inr rfl) (pe_tup (pa_cons pe_str (pa_cons (pe_xf (xfB_ok (T.ex 24 _ rfl)) (noB_ok (T.ex 6 _ rfl)) hz hf (pv 4)) pa_nil))))
  pss_nil)) (.as_ (i := 5) rfl rfl ⟨rfl, by decide, .inl (T.glo 1 _ rfl)⟩ (fun a oe cls d pn hz hf => (pss_cut (ps_set (i := 3) nd rfl (by first | exact Or.inl rfl | exact Or.inr rfl) (pe_tup (pa_cons pe_str (pa_cons (pe_xf (xfB_ok (T.ex 23 _ rfl)) (noB_ok (T.ex 3 _ rfl)) hz hf (pv 5)) pa_nil))))
  pss_nil)) (.as_ (i := 6) rfl rfl ⟨rfl, by decide, .inl (T.glo 3 _ rfl)⟩ (fun a oe cls d pn hz hf => (pss_cut (ps_set (i := 3) nd rfl (by first | exact Or.inl rfl | exact Or.inr rfl) (pe_tup (pa_cons pe_str (pa_cons (pe_xf (xfB_ok (T.ex 25 _ rfl)) (noB_ok (T.ex 9 _ rfl)) hz hf (pv 6)) pa_nil))))
  pss_nil)) .nil))))
  (pss_cut (ps_ret (pv 3))
  pss_nil))), start_go hS (Nat.le_of_ble_eq_true rfl) ?_⟩
  refine go_set ev_non ?_
  refine go_try ⟨[.d (.int a), .d g, .d w, .d x, .any, .any, .any], [], []⟩ ?_ (go_ret (ev_d rfl) (ret_of hP (by simp) rfl))
  have hset : ∀ {Wo : WX} {ts ts2 ts3 : Addr → Value → Option Addr → TS} {s : S} {z : Int} {D₁ : Ends}, (∀ q dd, Go ⟨K, G, H, []⟩ ⟨s.sl.set 4 (.v (.ref q)), s.own, (.ref dd, .d (.xd [("place", .int z)])) :: s.tmp⟩ (ts q (.ref (He.ga K "BadSet")) (some dd)) (unE 4 D₁)) →
      XOk ⟨K, G, H, []⟩ (wMk K Wo D₁ [(.ref (He.ga K "BadSet"), some 4, ts), (.ref (He.ga K "BadRow"), some 5, ts2), (.ref (He.ga K "BadWeights"), some 6, ts3)]) (He.ga K "BadSet") [("place", .int z)] s := fun h => xok_as (exmB_ok (T.ex 16 _ rfl)) h
  have hrow : ∀ {Wo : WX} {ts ts2 ts3 : Addr → Value → Option Addr → TS} {s : S} {z : Int} {D₁ : Ends}, (∀ q dd, Go ⟨K, G, H, []⟩ ⟨s.sl.set 5 (.v (.ref q)), s.own, (.ref dd, .d (.xd [("place", .int z)])) :: s.tmp⟩ (ts2 q (.ref (He.ga K "BadRow")) (some dd)) (unE 5 D₁)) →
      XOk ⟨K, G, H, []⟩ (wMk K Wo D₁ [(.ref (He.ga K "BadSet"), some 4, ts), (.ref (He.ga K "BadRow"), some 5, ts2), (.ref (He.ga K "BadWeights"), some 6, ts3)]) (He.ga K "BadRow") [("place", .int z)] s := fun h => xok_skip (exmB_ok (T.ex 15 _ rfl)) (xok_as (exmB_ok (T.ex 11 _ rfl)) h)
  have hwts : ∀ {Wo : WX} {ts ts2 ts3 : Addr → Value → Option Addr → TS} {s : S} {z : Int} {D₁ : Ends}, (∀ q dd, Go ⟨K, G, H, []⟩ ⟨s.sl.set 6 (.v (.ref q)), s.own, (.ref dd, .d (.xd [("place", .int z)])) :: s.tmp⟩ (ts3 q (.ref (He.ga K "BadWeights")) (some dd)) (unE 6 D₁)) →
      XOk ⟨K, G, H, []⟩ (wMk K Wo D₁ [(.ref (He.ga K "BadSet"), some 4, ts), (.ref (He.ga K "BadRow"), some 5, ts2), (.ref (He.ga K "BadWeights"), some 6, ts3)]) (He.ga K "BadWeights") [("place", .int z)] s := fun h => xok_skip (exmB_ok (T.ex 17 _ rfl)) (xok_skip (exmB_ok (T.ex 13 _ rfl)) (xok_as (exmB_ok (T.ex 21 _ rfl)) h))
  have aS : ∀ {q : Res}, RSt K g w q → R_starts_of K [.d g, .d w] [] q := fun h => ⟨g, w, _, rfl, rfl, h, rfl⟩
  have aW : ∀ {q : Res}, RWi K g w q → R_ways_into K [.d g, .d w] [] q := fun h => ⟨g, w, _, rfl, rfl, h, rfl⟩
  cases h1 with
  | set0 e h =>
    subst e
    exact go_ifT S.no (et_is (et_test (ev_eqI (ev_d rfl) ev_int)) (by simp)) (go_dropX (ex_callS (ea_cons (ev_d rfl) (ea_cons (ev_d rfl) ea_nil)) (aS h)) (hset fun q dd => go_set (ev_t2 ev_str (ev_xf (ev_v rfl) List.mem_cons_self rfl)) (go_nxU (by walk_at "weak") rfl))) go_no
  | set1 e h =>
    subst e
    exact go_if S.no (et_is (b := false) (et_test (ev_eqI (ev_d rfl) ev_int)) (by simp)) (fun z => nomatch z) (fun _ => go_dropX (ex_callS (ea_cons (ev_d rfl) (ea_cons (ev_d rfl) ea_nil)) (aW h)) (hset fun q dd => go_set (ev_t2 ev_str (ev_xf (ev_v rfl) List.mem_cons_self rfl)) (go_nxU (by walk_at "weak") rfl))) go_no
  | row e h =>
    subst e
    exact go_ifT S.no (et_is (et_test (ev_eqI (ev_d rfl) ev_int)) (by simp)) (go_dropX (ex_callS (ea_cons (ev_d rfl) (ea_cons (ev_d rfl) ea_nil)) (aS h)) (hrow fun q dd => go_set (ev_t2 ev_str (ev_xf (ev_v rfl) List.mem_cons_self rfl)) (go_nxU (by walk_at "weak") rfl))) go_no
  | wts e h =>
    subst e
    exact go_if S.no (et_is (b := false) (et_test (ev_eqI (ev_d rfl) ev_int)) (by simp)) (fun z => nomatch z) (fun _ => go_dropX (ex_callS (ea_cons (ev_d rfl) (ea_cons (ev_d rfl) ea_nil)) (aW h)) (hwts fun q dd => go_set (ev_t2 ev_str (ev_xf (ev_v rfl) List.mem_cons_self rfl)) (go_nxU (by walk_at "weak") rfl))) go_no
end

section
variable {P : Program} {w : World} {K : Frag} {mg : Str → Option Value} {base : Heap}
def N__law_refusals : List Str := ["draws", "goal", "many", "bad", "asked", "at", "wrong", "good", "turn", "number"]
theorem sc__law_refusals : FnScope N__law_refusals ["draws", "goal"] (defScope s__law_refusals) := ⟨rfl, rfl, rfl, by decide +kernel, rfl, by decide +kernel, by decide +kernel⟩
theorem ok__law_refusals (T : Top fa fn ex K mg) {fd : FuncData} (F0 : FunD K d__law_refusals.name d__law_refusals.qual d__law_refusals.params d__law_refusals.body d__law_refusals.scope (d__law_refusals.dvs K) (d__law_refusals.kws K) (d__law_refusals.at_ K) fd) {f__law_take : Addr} {fd__law_take : FuncData} (c__law_take : Cal P w K mg base CX0 1 "_law_take" ["draws", "many"] (Prm K (R__law_take K)) f__law_take fd__law_take) {f__law_trouble : Addr} {fd__law_trouble : FuncData} (c__law_trouble : Cal P w K mg base CX0 5 "_law_trouble" ["asked", "goal", "row"] (Prm K (R__law_trouble K)) f__law_trouble fd__law_trouble) : Cal P w K mg base CX0 6 "_law_refusals" ["draws", "goal"] (Prm K (R__law_refusals K)) (d__law_refusals.at_ K) fd := by
  have F : Fun K "_law_refusals" "_law_refusals" s__law_refusals _ fd := He5.fun_of F0
  refine ⟨F.ok sc__law_refusals (prm_len ?_) (fun cdv A outer s H vs Q E hr h => ?_), T.glo 24 _ rfl, F.kp, F.binds (ps := ["draws", "goal"]) fun _ _ _ _ _ _ us hl => match us, hl with | [_, _], _ => rfl⟩
  · rintro rs os res ⟨p, ds, ns, rfl, _⟩; rfl
  obtain ⟨G, rs, os, res, hR, hP, hS⟩ := prm_open (N := N__law_refusals) h
  obtain ⟨p, ds, ns, rfl, rfl, h1, rfl⟩ := hR
  have nd := sc__law_refusals.nd
  have hu := hu_of hr
  refine ⟨_, (pss_cut (ps_set (i := 2) nd rfl (by first | exact Or.inl rfl | exact Or.inr rfl) (pe_callB call_len_seq (by rfl) (T.free 31 _ rfl) (by decide +kernel) (pa_cons (pv 1) pa_nil)))
  (pss_cut (ps_set (i := 3) nd rfl (by first | exact Or.inl rfl | exact Or.inr rfl) (pe_ix ix_list (pe_lst (pa_cons pe_non (pa_cons (pe_lst (pa_cons pe_int (pa_cons pe_int pa_nil))) (pa_cons (pe_lst (pa_cons (pe_un un_neg pe_int) pa_nil)) (pa_cons (pe_lst (pa_cons pe_bl pa_nil)) (pa_cons pe_int pa_nil)))))) (pe_call c__law_take.ok (hr.mono (by decide)) (by rfl) c__law_take.mg c__law_take.kp c__law_take.bd .nil pass0 (pa_cons (pv 0) (pa_cons pe_int pa_nil))) (fun _ _ => rfl)))
  (pss_cut (ps_for PassesOwn.never rfl (pi_range1 (by rfl) (T.free 35 _ rfl) (pa_cons pe_int pa_nil)) (pg_name (i := 4) nd rfl (by first | exact Or.inl rfl | exact Or.inr rfl))
  (pss_cut (ps_if (pt_cmpR (op_neD hr.units) (pe_call c__law_trouble.ok (hr.mono (by decide)) (by rfl) c__law_trouble.mg c__law_trouble.kp c__law_trouble.bd .nil pass0 (pa_cons (pv 4) (pa_cons (pv 3) (pa_cons pe_non pa_nil)))) (pe_tup (pa_cons pe_str (pa_cons pe_int pa_nil))) (nomark _))
  (pss_cut (ps_ret pe_bl)
  pss_nil)
  pss_nil)
  pss_nil))
  (pss_cut (ps_if (PW.pt (pw_or (pt_cmpR (op_neD hr.units) (pe_call c__law_trouble.ok (hr.mono (by decide)) (by rfl) c__law_trouble.mg c__law_trouble.kp c__law_trouble.bd .nil pass0 (pa_cons pe_int (pa_cons (pv 1) (pa_cons pe_non pa_nil)))) (pe_tup (pa_cons pe_str (pa_cons (pe_un un_neg pe_int) pa_nil))) (nomark _)) (pw_or1 (pt_cmpR (op_neD hr.units) (pe_call c__law_trouble.ok (hr.mono (by decide)) (by rfl) c__law_trouble.mg c__law_trouble.kp c__law_trouble.bd .nil pass0 (pa_cons pe_int (pa_cons (pv 1) (pa_cons pe_int pa_nil)))) (pe_tup (pa_cons pe_str (pa_cons (pe_un un_neg pe_int) pa_nil))) (nomark _)))))
  (pss_cut (ps_ret pe_bl)
  pss_nil)
  pss_nil)
  (pss_cut (ps_set (i := 5) nd rfl (by first | exact Or.inl rfl | exact Or.inr rfl) (pe_call c__law_take.ok (hr.mono (by decide)) (by rfl) c__law_take.mg c__law_take.kp c__law_take.bd .nil pass0 (pa_cons (pv 0) (pa_cons pe_int pa_nil))))
  (pss_cut (ps_set (i := 6) nd rfl (by first | exact Or.inl rfl | exact Or.inr rfl) (pe_ix ix_list (pe_lst (pa_cons (pe_op op_add (pv 2) pe_int) (pa_cons (pe_un un_neg pe_int) (pa_cons pe_non (pa_cons pe_bl pa_nil))))) (pe_call c__law_take.ok (hr.mono (by decide)) (by rfl) c__law_take.mg c__law_take.kp c__law_take.bd .nil pass0 (pa_cons (pv 0) (pa_cons pe_int pa_nil))) (fun _ _ => rfl)))
  (pss_cut (ps_if (pt_cmpR (op_neD hr.units) (pe_call c__law_trouble.ok (hr.mono (by decide)) (by rfl) c__law_trouble.mg c__law_trouble.kp c__law_trouble.bd .nil pass0 (pa_cons pe_int (pa_cons (pv 1) (pa_cons (pe_op op_cat (pe_lc (own := [("turn", 8)]) (g := gName 8) rfl nd (pi_range1 (by rfl) (T.free 35 _ rfl) (pa_cons (pv 5) pa_nil)) (blkOk_by (own := [("turn", 8)]) (N := N__law_refusals) (sc := defScope s__law_refusals) (by decide +kernel)) (fun _ _ _ _ _ => pg_name (i := 8) nd rfl (by first | exact Or.inl rfl | exact Or.inr rfl)) (fun _ _ _ _ _ => pts_nil) (fun _ _ _ _ _ => (pv 2))) (pe_lst (pa_cons (pv 6) (pa_cons (pe_un un_neg pe_int) pa_nil)))) pa_nil)))) (pe_tup (pa_cons pe_str (pa_cons (pv 5) pa_nil))) (nomark _))
  (pss_cut (ps_ret pe_bl)
  pss_nil)
  pss_nil)
  (pss_cut (ps_set (i := 7) nd rfl (by first | exact Or.inl rfl | exact Or.inr rfl) (pe_lc (own := [("number", 9)]) (g := gName 9) rfl nd (pi_range1 (by rfl) (T.free 35 _ rfl) (pa_cons (pe_op op_add (pv 2) pe_int) pa_nil)) (blkOk_by (own := [("number", 9)]) (N := N__law_refusals) (sc := defScope s__law_refusals) (by decide +kernel)) (fun _ _ _ _ _ => pg_name (i := 9) nd rfl (by first | exact Or.inl rfl | exact Or.inr rfl)) (fun _ _ _ _ _ => pts_nil) (fun _ _ _ _ _ => pe_int)))
  (pss_cut (ps_set (i := 6) nd rfl (by first | exact Or.inl rfl | exact Or.inr rfl) (pe_ix ix_list (pe_lst (pa_cons (pe_op op_cat (pv 7) (pe_lst (pa_cons pe_int pa_nil))) (pa_cons (pe_slice sl_list (pv 7) (po_some pe_int) po_none) (pa_cons pe_non (pa_cons (pe_op op_cat (pe_slice sl_list (pv 7) (po_some pe_int) po_none) (pe_lst (pa_cons pe_bl pa_nil))) pa_nil))))) (pe_call c__law_take.ok (hr.mono (by decide)) (by rfl) c__law_take.mg c__law_take.kp c__law_take.bd .nil pass0 (pa_cons (pv 0) (pa_cons pe_int pa_nil))) (fun _ _ => rfl)))
  (pss_cut (ps_ret (pe_cmpR (op_eqD hr.units) (pe_call c__law_trouble.ok (hr.mono (by decide)) (by rfl) c__law_trouble.mg c__law_trouble.kp c__law_trouble.bd .nil pass0 (pa_cons pe_int (pa_cons (pv 1) (pa_cons (pe_op op_cat (pe_lc (own := [("turn", 8)]) (g := gName 8) rfl nd (pi_range1 (by rfl) (T.free 35 _ rfl) (pa_cons (pv 5) pa_nil)) (blkOk_by (own := [("turn", 8)]) (N := N__law_refusals) (sc := defScope s__law_refusals) (by decide +kernel)) (fun _ _ _ _ _ => pg_name (i := 8) nd rfl (by first | exact Or.inl rfl | exact Or.inr rfl)) (fun _ _ _ _ _ => pts_nil) (fun _ _ _ _ _ => (pe_callTy (lstK (K := K) rfl) (by rfl) (T.free 32 _ rfl) (by decide +kernel) (pa_cons (pv 7) pa_nil)))) (pe_lst (pa_cons (pv 6) (pa_cons pe_non pa_nil)))) pa_nil)))) (pe_tup (pa_cons pe_str (pa_cons (pv 5) pa_nil))) (nomark _)))
  pss_nil)))))))))), start_go hS (Nat.le_of_ble_eq_true rfl) ?_⟩
  have hl := h1.len
  have dr : ∀ {s : S} {d : List Int} {m : Int} {E' : XK}, s.sl[0]? = some (.v (.ref p)) → s.own[0]? = some (p, .lst (drw d)) → 0 < m → Ev ⟨K, G, H, [p]⟩ (tCall (Prm K (R__law_take K)) [] E' (tCons (tVar 0) (tCons (tC (.int m)) tNil))) s (.d (.int (tk d m))) ⟨s.sl, s.own.set 0 (p, .lst (drw d.tail)), s.tmp⟩ := fun e1 e2 h0 => ev_call1 (k := 0) (ea_cons (ev_v e1) (ea_cons ev_int ea_nil)) e2 ⟨p, _, _, rfl, rfl, h0, rfl⟩
  have pS : ∀ {z : PySem.Str} {i : Int}, PyData.strOk z = true → Pd 1 (.tup [.str z, .int i]) := fun h => .tup fun d hd => by
    rcases List.mem_cons.mp hd with rfl | hd
    · exact .str h
    · cases List.mem_singleton.mp hd
      exact .int
  refine go_set (ev_lenL (ev_d rfl) .d) ?_
  rw [List.length_map]
  obtain ⟨bad, hb1, hb2⟩ : ∃ x, L2.atI [D.non, .lst [.int 1, .int 1], .lst [.int (-1)], .lst [.bl true], .int 0] (tk ds 5) = some x ∧ BadP x := pick5 ⟨tk_nn _ (by decide), tk_lt _ (by decide)⟩ (by simp [BadP]) (by simp [BadP]) (by simp [BadP]) (by simp [BadP]) (by simp [BadP])
  refine go_set (ev_ixL (ev_l5 ev_non (ev_l2 ev_int ev_int) (ev_l1 (ev_unI ev_int)) (ev_l1 ev_bl) ev_int) (dr rfl rfl (by decide)) .d hb1) ?_
  refine go_forR1 (fun i => ⟨[.v (.ref p), .d (.lst (ns.map D.int)), .d (.int ns.length), .d bad, .any, .any, .any, .any, .any, .any], [(p, .lst (drw ds.tail))], []⟩) (ea_cons ev_int ea_nil) (by decide) (by walk_at "weak") (fun v i hi => ?_) ?_ (by decide)
  · have hT : RTr K i bad .non (.tup [.str "set", .int 0]) := by
      have : i = 0 ∨ i = 1 := by omega
      rcases this with rfl | rfl
      · exact .set0 rfl (.badS hb2)
      · exact .set1 rfl (.badS hb2)
    exact go_ifR (b := false) (et_test (ev_neDr (n := 1) (ev_call (ea_cons (ev_d rfl) (ea_cons (ev_d rfl) (ea_cons ev_non ea_nil))) ⟨_, _, _, _, rfl, rfl, hT, rfl⟩) (ev_t2 ev_str ev_int) .d .d (pS (by decide +kernel)))) (fun z => nomatch z) fun _ => by walk_at "nx"
  have hT0 : RTr K 0 (.lst (ns.map D.int)) .non (.tup [.str "row", .int (-1)]) := .row rfl (.bad0 h1 rfl)
  have hT1 : RTr K 1 (.lst (ns.map D.int)) (.int 7) (.tup [.str "weights", .int (-1)]) := .wts rfl (.bad7 h1 rfl)
  refine go_ifR (b := false) (et_is (et_or (et_test (ev_neDr (n := 1) (ev_call (ea_cons ev_int (ea_cons (ev_d rfl) (ea_cons ev_non ea_nil))) ⟨_, _, _, _, rfl, rfl, hT0, rfl⟩) (ev_t2 ev_str (ev_unI ev_int)) .d .d (pS (by decide +kernel)))) (fun _ => et_test (ev_neDr (n := 1) (ev_call (ea_cons ev_int (ea_cons (ev_d rfl) (ea_cons ev_int ea_nil))) ⟨_, _, _, _, rfl, rfl, hT1, rfl⟩) (ev_t2 ev_str (ev_unI ev_int)) .d .d (pS (by decide +kernel))))) rfl) (fun z => nomatch z) fun _ => ?_
  refine go_set (dr rfl rfl (by decide)) ?_
  have ha1 := tk_nn ds.tail (n := 3) (by decide)
  have ha2 := tk_lt ds.tail (n := 3) (by decide)
  generalize tk ds.tail 3 = at_ at ha1 ha2
  obtain ⟨wr, hw1, hw2⟩ : ∃ x, L2.atI [D.int ((ns.length : Int) + 1), .int (-1), .non, .bl true] (tk ds.tail.tail 4) = some x ∧ BadN ns.length x := pick4 ⟨tk_nn _ (by decide), tk_lt _ (by decide)⟩ (.inr (.inr ⟨_, rfl, .inr (by omega)⟩)) (.inr (.inr ⟨_, rfl, .inl (by decide)⟩)) (.inl rfl) (.inr (.inl rfl))
  refine go_set (ev_ixL (ev_l4 (ev_opI (ev_d rfl) ev_int) (ev_unI ev_int) ev_non ev_bl) (dr rfl rfl (by decide)) .d hw1) ?_
  have hT2 : RTr K 0 (.lst (ns.map D.int)) (.lst ((List.replicate at_.toNat (ns.length : Int)).map D.int ++ [wr, .int (-7)])) (.tup [.str "row", .int at_]) := by
    have := RTr.row (K := K) (a := 0) rfl (RSt.badN (K := K) (ms := List.replicate at_.toNat (ns.length : Int)) (rest := [.int (-7)]) h1 rfl (by decide) ⟨fun m hm => by
      rw [List.eq_of_mem_replicate hm]
      omega, by rw [List.length_replicate]; omega⟩ hw2)
    rw [List.length_replicate, show ((at_.toNat : Nat) : Int) = at_ by omega] at this
    exact this
  have eL : ∀ (x : D), ((List.range (at_ - 0).toNat).filter fun _ => true).map (fun _ => x) = List.replicate at_.toNat x := fun x => by rw [Int.sub_zero]; exact rep_map
  refine go_ifR (b := false) (et_test (ev_neDr (n := 1) (ev_call (ea_cons ev_int (ea_cons (ev_d rfl) (ea_cons (ev_is (ev_frz (evN_cat (ev_frz (evN_lcR (fun _ => true) (fun _ => .int ns.length) (.inl ⟨rfl, rfl, ea_cons (ev_d rfl) ea_nil⟩) (by omega) (fun _ _ _ _ => et_yes) (fun _ _ _ _ _ => ev_d rfl))) (ev_l2 (ev_d rfl) (ev_unI ev_int)) .d .d (by rw [eL, List.length_replicate]; simp; omega))) (by rw [eL, ← List.map_replicate])) ea_nil))) ⟨_, _, _, _, rfl, rfl, hT2, rfl⟩) (ev_t2 ev_str (ev_d rfl)) .d .d (pS (by decide +kernel)))) (fun z => nomatch z) fun _ => ?_
  have eG : ((List.range ((ns.length : Int) + 1 - 0).toNat).filter fun _ => true).map (fun _ => D.int 0) = .int 0 :: (List.replicate ns.length (0 : Int)).map D.int := by
    rw [rep_map, show ((ns.length : Int) + 1 - 0).toNat = ns.length + 1 by omega, List.map_replicate]
    rfl
  refine go_set (ev_is (ev_frz (evN_lcR (fun _ => true) (fun _ => .int 0) (.inl ⟨rfl, rfl, ea_cons (ev_opI (ev_d rfl) ev_int) ea_nil⟩) (by omega) (fun _ _ _ _ => et_yes) (fun _ _ _ _ _ => ev_int))) (congrArg D.lst eG)) ?_
  generalize ez : (List.replicate ns.length (0 : Int)).map D.int = zs
  have hz : zs.length = ns.length := by rw [← ez]; simp
  obtain ⟨w2, hx1, hx2⟩ : ∃ x, L2.atI [D.lst ((.int 0 :: zs) ++ [.int 1]), .lst (cut (.int 0 :: zs) (some 1) none), .non, .lst (cut (.int 0 :: zs) (some 1) none ++ [.bl true])] (tk ds.tail.tail.tail 4) = some x ∧ BadW ns.length x := by
    rw [cut_tail]
    refine pick4 ⟨tk_nn _ (by decide), tk_lt _ (by decide)⟩ (.inr ⟨_, rfl, .inl (by simp [hz])⟩) (.inr ⟨_, rfl, .inl (by rw [hz]; omega)⟩) (.inl rfl) (.inr ⟨_, rfl, .inr ⟨by simp [hz], _, by rw [← ez]⟩⟩)
  have cutE : ∀ {s : S}, s.sl[7]? = some (.d (.lst (.int 0 :: zs))) → Ev ⟨K, G, H, [p]⟩ (tSl (rSlL K) (tVar 7) (tPart (tC (.int 1))) tNoPart) s (.d (.lst (cut (.int 0 :: zs) (some 1) none))) s := fun e => ev_frz (evN_slL (ev_d e) (eo_some ev_int) eo_none .d)
  refine go_set (ev_ixL (ev_l4 (ev_frz (evN_cat (ev_d rfl) (ev_l1 ev_int) .d .d (by simp [hz]; omega))) (cutE rfl) ev_non (ev_frz (evN_cat (cutE rfl) (ev_l1 ev_bl) .d .d (by rw [cut_tail]; simp [hz]; omega)))) (dr rfl rfl (by decide)) .d hx1) ?_
  have hT3 : RTr K 1 (.lst (ns.map D.int)) (.lst (List.replicate at_.toNat (.lst (.int 0 :: zs)) ++ [w2, .non])) (.tup [.str "weights", .int at_]) := by
    have := RTr.wts (K := K) (a := 1) rfl (RWi.badW (K := K) (ms := List.replicate at_.toNat (0 :: List.replicate ns.length (0 : Int))) (rest := [.non]) h1 rfl (by decide) ⟨fun m hm => by
      rw [List.eq_of_mem_replicate hm]
      simp, fun m hm => by
      rw [List.eq_of_mem_replicate hm]
      have : (0 :: List.replicate ns.length (0 : Int)).sum = 0 := by
        rw [List.sum_cons]
        have : ∀ n, (List.replicate n (0 : Int)).sum = 0 := fun n => by
          induction n with
          | zero => rfl
          | succ n ih => rw [List.replicate_succ, List.sum_cons, ih]; rfl
        rw [this]
        rfl
      rw [this]
      decide, by rw [List.length_replicate]; omega⟩ hx2)
    rw [List.length_replicate, show ((at_.toNat : Nat) : Int) = at_ by omega, List.map_replicate, List.map_cons, ez] at this
    exact this
  refine go_ret (ev_eqDr (n := 1) (ev_call (ea_cons ev_int (ea_cons (ev_d rfl) (ea_cons (ev_is (ev_frz (evN_cat (ev_frz (evN_lcR (fun _ => true) (fun _ => .lst (.int 0 :: zs)) (.inl ⟨rfl, rfl, ea_cons (ev_d rfl) ea_nil⟩) (by omega) (fun _ _ _ _ => et_yes) (fun _ _ _ _ _ => ev_frz (evN_listL (ev_d rfl) .d)))) (ev_l2 (ev_d rfl) ev_non) .d .d (by rw [eL, List.length_replicate]; simp; omega))) (by rw [eL])) ea_nil))) ⟨_, _, _, _, rfl, rfl, hT3, rfl⟩) (ev_t2 ev_str (ev_d rfl)) .d .d (pS (by decide +kernel))) (ret_of hP (by simp) rfl)
end

section
variable {P : Program} {w : World} {K : Frag} {mg : Str → Option Value} {base : Heap}
def N__law_great_ways : List Str := ["draws", "script", "goal", "beats", "numbers", "weights", "told", "beat"]
theorem sc__law_great_ways : FnScope N__law_great_ways ["draws", "script"] (defScope s__law_great_ways) := ⟨rfl, rfl, rfl, by decide +kernel, rfl, by decide +kernel, by decide +kernel⟩
theorem ok__law_great_ways (T : Top fa fn ex K mg) {fd : FuncData} (F0 : FunD K d__law_great_ways.name d__law_great_ways.qual d__law_great_ways.params d__law_great_ways.body d__law_great_ways.scope (d__law_great_ways.dvs K) (d__law_great_ways.kws K) (d__law_great_ways.at_ K) fd) {f__law_places : Addr} {fd__law_places : FuncData} (c__law_places : Cal P w K mg base CX0 2 "_law_places" ["draws", "many", "span"] (Prm K (R__law_places K)) f__law_places fd__law_places) {f__law_take : Addr} {fd__law_take : FuncData} (c__law_take : Cal P w K mg base CX0 1 "_law_take" ["draws", "many"] (Prm K (R__law_take K)) f__law_take fd__law_take) {f__law_weights : Addr} {fd__law_weights : FuncData} (c__law_weights : Cal P w K mg base CX0 2 "_law_weights" ["draws", "script", "beats", "many"] (Prm K (R__law_weights K)) f__law_weights fd__law_weights) {f_ways_into : Addr} {fd_ways_into : FuncData} (c_ways_into : Cal P w K mg base (L2.CX P w) 4 "ways_into" ["goal", "weights"] (Prm K (R_ways_into K)) f_ways_into fd_ways_into) {f__law_one_way : Addr} {fd__law_one_way : FuncData} (c__law_one_way : Cal P w K mg base CX0 5 "_law_one_way" ["goal", "numbers"] (Prm K (R__law_one_way K)) f__law_one_way fd__law_one_way) {f__law_whole : Addr} {fd__law_whole : FuncData} (c__law_whole : Cal P w K mg base CX0 1 "_law_whole" ["value"] (Prm K (R__law_whole K)) f__law_whole fd__law_whole) {f__law_product : Addr} {fd__law_product : FuncData} (c__law_product : Cal P w K mg base CX0 1 "_law_product" ["weights"] (Prm K (R__law_product K)) f__law_product fd__law_product) : Cal P w K mg base CX0 6 "_law_great_ways" ["draws", "script"] (Prm K (R__law_great_ways K)) (d__law_great_ways.at_ K) fd := by
  have F : Fun K "_law_great_ways" "_law_great_ways" s__law_great_ways _ fd := He5.fun_of F0
  refine ⟨F.ok sc__law_great_ways (prm_len ?_) (fun cdv A outer s H vs Q E hr h => ?_), T.glo 25 _ rfl, F.kp, F.binds (ps := ["draws", "script"]) fun _ _ _ _ _ _ us hl => match us, hl with | [_, _], _ => rfl⟩
  · rintro rs os res ⟨p, ds, ns, rfl, _⟩; rfl
  obtain ⟨G, rs, os, res, hR, hP, hS⟩ := prm_open (N := N__law_great_ways) h
  obtain ⟨p, ds, ns, rfl, rfl, rfl⟩ := hR
  have nd := sc__law_great_ways.nd
  have hu := hu_of hr
  refine ⟨_, (pss_cut (ps_set (i := 2) nd rfl (by first | exact Or.inl rfl | exact Or.inr rfl) (pe_call c__law_places.ok (hr.mono (by decide)) (by rfl) c__law_places.mg c__law_places.kp c__law_places.bd .nil pass0 (pa_cons (pv 0) (pa_cons (pe_call c__law_take.ok (hr.mono (by decide)) (by rfl) c__law_take.mg c__law_take.kp c__law_take.bd .nil pass0 (pa_cons (pv 0) (pa_cons pe_int pa_nil))) (pa_cons (pe_op op_add pe_int (pe_call c__law_take.ok (hr.mono (by decide)) (by rfl) c__law_take.mg c__law_take.kp c__law_take.bd .nil pass0 (pa_cons (pv 0) (pa_cons pe_int pa_nil)))) pa_nil)))))
  (pss_cut (ps_set (i := 3) nd rfl (by first | exact Or.inl rfl | exact Or.inr rfl) (pe_call c__law_take.ok (hr.mono (by decide)) (by rfl) c__law_take.mg c__law_take.kp c__law_take.bd .nil pass0 (pa_cons (pv 0) (pa_cons pe_int pa_nil))))
  (pss_cut (ps_setLc (i := 4) (own := [("beat", 7)]) (g := gName 7) rfl nd rfl rfl (sw_true rfl rfl rfl (by decide +kernel)) (pi_range1 (by rfl) (T.free 35 _ rfl) (pa_cons (pv 3) pa_nil)) (blkOk_by (own := [("beat", 7)]) (N := N__law_great_ways) (sc := defScope s__law_great_ways) (by decide +kernel)) (fun _ _ _ _ _ => pg_name (i := 7) nd rfl (by first | exact Or.inl rfl | exact Or.inr rfl)) (fun _ _ _ _ _ => pts_nil) (fun _ _ _ _ _ => (pe_call c__law_take.ok (hr.mono (by decide)) (by rfl) c__law_take.mg c__law_take.kp c__law_take.bd .nil pass0 (pa_cons (pv 0) (pa_cons (pe_op op_add (pe_callB (lenK (K := K) rfl) (by rfl) (T.free 31 _ rfl) (by decide +kernel) (pa_cons (pv 2) pa_nil)) pe_int) pa_nil)))))
  (pss_cut (ps_if (pt_not (pt_val (pe_call c__law_one_way.ok (hr.mono (by decide)) (by rfl) c__law_one_way.mg c__law_one_way.kp c__law_one_way.bd .nil pass0 (pa_cons (pv 2) (pa_cons (pv 4) pa_nil)))))
  (pss_cut (ps_ret pe_bl)
  pss_nil)
  pss_nil)
  (pss_cut (ps_set (i := 5) nd rfl (by first | exact Or.inl rfl | exact Or.inr rfl) (pe_call c__law_weights.ok (hr.mono (by decide)) (by rfl) c__law_weights.mg c__law_weights.kp c__law_weights.bd .nil pass0 (pa_cons (pv 0) (pa_cons (pv 1) (pa_cons (pv 3) (pa_cons (pe_callB call_len_seq (by rfl) (T.free 31 _ rfl) (by decide +kernel) (pa_cons (pv 2) pa_nil)) pa_nil))))))
  (pss_cut (ps_set (i := 6) nd rfl (by first | exact Or.inl rfl | exact Or.inr rfl) (pe_call c_ways_into.ok (hr.mono (by decide)) (by rfl) c_ways_into.mg c_ways_into.kp c_ways_into.bd .nil passL (pa_cons (pe_callTy call_tuple_of (by rfl) (T.free 39 _ rfl) (by decide +kernel) (pa_cons (pv 2) pa_nil)) (pa_cons (pv 5) pa_nil))))
  (pss_cut (ps_ret (pe_and (pe_call c__law_whole.ok (hr.mono (by decide)) (by rfl) c__law_whole.mg c__law_whole.kp c__law_whole.bd .nil pass0 (pa_cons (pv 6) pa_nil)) (pe_one (pe_cmpR op_eq (pv 6) (pe_call c__law_product.ok (hr.mono (by decide)) (by rfl) c__law_product.mg c__law_product.kp c__law_product.bd .nil pass0 (pa_cons (pv 5) pa_nil)) (nomark _)))))
  pss_nil))))))), start_go hS (Nat.le_of_ble_eq_true rfl) ?_⟩
  have m1 := tk_nn ds (n := 21) (by decide)
  have m2 := tk_lt ds (n := 21) (by decide)
  have sp1 := tk_nn ds.tail (n := 60) (by decide)
  have sp2 := tk_lt ds.tail (n := 60) (by decide)
  generalize em : tk ds 21 = many at m1 m2 hP ⊢
  generalize es : tk ds.tail 60 = sp at sp1 sp2 hP ⊢
  have hls : many.toNat ≤ (20 + sp).toNat := by omega
  have hgood := plc_good (ds := ds.tail.tail) hls (by omega)
  have hlen := (plc_ok (ds := ds.tail.tail) hls).1
  have dr : ∀ {s : S} {d : List Int} {m : Int} {E' : XK}, s.sl[0]? = some (.v (.ref p)) → s.own[0]? = some (p, .lst (drw d)) → 0 < m → Ev ⟨K, G, H, [p]⟩ (tCall (Prm K (R__law_take K)) [] E' (tCons (tVar 0) (tCons (tC (.int m)) tNil))) s (.d (.int (tk d m))) ⟨s.sl, s.own.set 0 (p, .lst (drw d.tail)), s.tmp⟩ := fun e1 e2 h0 => ev_call1 (k := 0) (ea_cons (ev_v e1) (ea_cons ev_int ea_nil)) e2 ⟨p, _, _, rfl, rfl, h0, rfl⟩
  have ePl : R__law_places K [.v (.ref p), .d (.int many), .d (.int (20 + sp))] [(p, .lst (drw ds.tail.tail))] (.ret (.d (.lst ((plc many.toNat (20 + sp).toNat ds.tail.tail).map D.int))) [(p, .lst (drw (plcD many.toNat (20 + sp).toNat ds.tail.tail)))]) :=
    ⟨p, ds.tail.tail, many.toNat, (20 + sp).toNat, by rw [show ((many.toNat : Nat) : Int) = many by omega, show (((20 + sp).toNat : Nat) : Int) = 20 + sp by omega], rfl, hls, by omega, rfl⟩
  generalize plcD many.toNat (20 + sp).toNat ds.tail.tail = d3 at hP ePl
  generalize plc many.toNat (20 + sp).toNat ds.tail.tail = gl at hgood hlen ePl
  refine go_set (ev_call1 (k := 0) (ea_cons (ev_v rfl) (ea_cons (ev_is (dr rfl rfl (by decide)) (by rw [em])) (ea_cons (ev_opI ev_int (ev_is (dr rfl rfl (by decide)) (by rw [es]))) ea_nil))) rfl ePl) ?_
  refine go_set (dr rfl rfl (by decide)) ?_
  have b1 := tk_nn d3 (n := 121) (by decide)
  have b2 := tk_lt d3 (n := 121) (by decide)
  generalize tk d3 121 = beats at b1 b2 hP
  refine go_setN (evN_lcRS (fun i => [(p, .lst (drw (dro d3.tail i)))]) (fun _ => true) (fun i => .int (tk (dro d3.tail i) ((many.toNat : Int) + 1))) (.inl ⟨rfl, rfl, ea_cons (ev_d rfl) ea_nil⟩) rfl (fun _ => rfl) (by omega) (fun q acc i hi => ⟨_, et_yes, (fun z => nomatch z), fun _ => ⟨_, ev_call1 (k := 0) (ea_cons (ev_v rfl) (ea_cons (ev_opI (ev_is (ev_lenL (ev_d rfl) .d) (by rw [List.length_map, hlen])) ev_int) ea_nil)) rfl ⟨p, _, _, rfl, rfl, by omega, rfl⟩, Weak.refl⟩⟩)) fun q => ?_
  rw [Int.sub_zero, List.filter_eq_self.mpr fun _ _ => rfl, show ((List.range beats.toNat).map fun i => D.int (tk (dro d3.tail i) ((many.toNat : Int) + 1))) = (gNum d3.tail many.toNat beats.toNat).map D.int by unfold gNum; rw [List.map_map]; rfl]
  have hN := gNum_good (ds := d3.tail) (k := many.toNat) (n := beats.toNat) (by omega)
  generalize gNum d3.tail many.toNat beats.toNat = nums at hN
  refine Go.weak (weak_frz (k := 1) rfl (.same (.same (.same (.same (.frz (.same (.same (.same .nil))))))))) ?_
  refine go_ifR (b := false) (et_is (et_not (et_test (ev_call (ea_cons (ev_d rfl) (ea_cons (ev_d rfl) ea_nil)) ⟨gl, nums, rfl, rfl, hgood, by rw [hlen]; exact hN, rfl⟩))) (by simp)) (fun z => nomatch z) fun _ => ?_
  have hW := wRows_good (ns := ns) (ds := dro d3.tail beats.toNat) (many := many.toNat) (b := beats.toNat) (by omega) (by omega)
  have eW : R__law_weights K [.v (.ref p), .d (.scr ns), .d (.int beats), .d (.int many)] [(p, .lst (drw (dro d3.tail beats.toNat)))] (.ret (.d (.lst ((wRows ns (dro d3.tail beats.toNat) many.toNat beats.toNat).1.map fun m => .lst (m.map D.int)))) [(p, .lst (drw (wRows ns (dro d3.tail beats.toNat) many.toNat beats.toNat).2))]) :=
    ⟨p, _, ns, beats.toNat, many.toNat, by rw [show ((many.toNat : Nat) : Int) = many by omega, show ((beats.toNat : Nat) : Int) = beats by omega], rfl, by omega, by omega, rfl⟩
  generalize (wRows ns (dro d3.tail beats.toNat) many.toNat beats.toNat).2 = d5 at hP eW
  generalize (wRows ns (dro d3.tail beats.toNat) many.toNat beats.toNat).1 = ws at hW eW
  refine go_set (ev_call1 (k := 0) (ea_cons (ev_v rfl) (ea_cons (ev_d rfl) (ea_cons (ev_d rfl) (ea_cons (ev_is (ev_lenL (ev_d rfl) .d) (by rw [List.length_map, hlen, show ((many.toNat : Nat) : Int) = many by omega])) ea_nil)))) rfl eW) ?_
  have hWi : RWi K (.tup (gl.map D.int)) (.lst (ws.map fun m => .lst (m.map D.int))) (.ret (.d (.int (prodL ws))) []) := RWi.ok (f := .lst) ⟨sq_t, hgood.nn, hgood.nd, hgood.len⟩ (fun _ => sq_l) sq_l (by rw [hlen]; exact hW)
  refine go_set (ev_call (ea_cons (ev_tupL (ev_d rfl) .d) (ea_cons (ev_d rfl) ea_nil)) ⟨_, _, _, rfl, rfl, hWi, rfl⟩) ?_
  refine go_ret (ev_is (ev_andV (ev_call (ea_cons (ev_d rfl) ea_nil) ⟨_, rfl, rfl, rfl⟩) (fun _ => ev_eqI (ev_d rfl) (ev_call (ea_cons (ev_d rfl) ea_nil) ⟨_, _, rfl, rfl, hW, rfl⟩))) (by simp)) (ret_of hP (by simp) rfl)
end

section
variable {P : Program} {w : World} {K : Frag} {mg : Str → Option Value} {base : Heap}
def N__law_counted : List Str := ["goal", "weights", "beats", "far", "sums", "start", "beat", "fresh", "here", "heights", "height", "later", "behind", "place"]
theorem sc__law_counted : FnScope N__law_counted ["goal", "weights"] (defScope s__law_counted) := ⟨rfl, rfl, rfl, by decide +kernel, rfl, by decide +kernel, by decide +kernel⟩
theorem ok__law_counted (T : Top fa fn ex K mg) {fd : FuncData} (F0 : FunD K d__law_counted.name d__law_counted.qual d__law_counted.params d__law_counted.body d__law_counted.scope (d__law_counted.dvs K) (d__law_counted.kws K) (d__law_counted.at_ K) fd) {f__law_all_sets : Addr} {fd__law_all_sets : FuncData} (c__law_all_sets : Cal P w K mg base CX0 1 "_law_all_sets" ["many", "span"] (Prm K (R__law_all_sets K)) f__law_all_sets fd__law_all_sets) {f__law_behind : Addr} {fd__law_behind : FuncData} (c__law_behind : Cal P w K mg base CX0 1 "_law_behind" ["here", "height"] (Prm K (R__law_behind K)) f__law_behind fd__law_behind) : Cal P w K mg base CX0 2 "_law_counted" ["goal", "weights"] (Prm K (R__law_counted K)) (d__law_counted.at_ K) fd := by
  have F : Fun K "_law_counted" "_law_counted" s__law_counted _ fd := He5.fun_of F0
  refine ⟨F.ok sc__law_counted (prm_len ?_) (fun cdv A outer s H vs Q E hr h => ?_), T.glo 19 _ rfl, F.kp, F.binds (ps := ["goal", "weights"]) fun _ _ _ _ _ _ us hl => match us, hl with | [_, _], _ => rfl⟩
  · rintro rs os res ⟨ns, ms, rfl, _⟩; rfl
  obtain ⟨G, rs, os, res, hR, hP, hS⟩ := prm_open (N := N__law_counted) h
  obtain ⟨ns, ms, rfl, rfl, h1, h2, h3, h4, h5, h6, rfl⟩ := hR
  have nd := sc__law_counted.nd
  have hu := hu_of hr
  refine ⟨_, (pss_cut (ps_set (i := 2) nd rfl (by first | exact Or.inl rfl | exact Or.inr rfl) (pe_callB call_len_seq (by rfl) (T.free 31 _ rfl) (by decide +kernel) (pa_cons (pv 1) pa_nil)))
  (pss_cut (ps_set (i := 3) nd rfl (by first | exact Or.inl rfl | exact Or.inr rfl) (pe_callB (cr_max rfl) (by rfl) (T.free 33 _ rfl) (by decide +kernel) (pa_cons (pe_op op_cat (pe_lst (pa_cons pe_int pa_nil)) (pe_callTy call_list_of (by rfl) (T.free 32 _ rfl) (by decide +kernel) (pa_cons (pv 0) pa_nil))) pa_nil)))
  (pss_cut (ps_set (i := 4) nd rfl (by first | exact Or.inl rfl | exact Or.inr rfl) pe_dnewT)
  (pss_cut (ps_for PassesOwn.never rfl (pi_list (pe_call c__law_all_sets.ok (hr.mono (by decide)) (by rfl) c__law_all_sets.mg c__law_all_sets.kp c__law_all_sets.bd .nil pass0 (pa_cons (pe_callB call_len_seq (by rfl) (T.free 31 _ rfl) (by decide +kernel) (pa_cons (pv 0) pa_nil)) (pa_cons (pe_op op_add (pe_op op_add (pv 2) (pv 3)) pe_int) pa_nil)))) (pg_name (i := 5) nd rfl (by first | exact Or.inl rfl | exact Or.inr rfl))
  (pss_cut (ps_dput hu (pv 4) (pv 5) pe_int rfl)
  pss_nil))
  (pss_cut (ps_for PassesOwn.never rfl (pi_range1 (by rfl) (T.free 35 _ rfl) (pa_cons (pv 2) pa_nil)) (pg_name (i := 6) nd rfl (by first | exact Or.inl rfl | exact Or.inr rfl))
  (pss_cut (ps_set (i := 7) nd rfl (by first | exact Or.inl rfl | exact Or.inr rfl) pe_dnewT)
  (pss_cut (ps_for PassesOwn.never rfl (pi_list (pe_callB (cr_sortedD rfl) (by rfl) (T.free 37 _ rfl) (by decide +kernel) (pa_cons (pv 4) pa_nil))) (pg_name (i := 8) nd rfl (by first | exact Or.inl rfl | exact Or.inr rfl))
  (pss_cut (ps_set (i := 9) nd rfl (by first | exact Or.inl rfl | exact Or.inr rfl) (pe_lst (pa_cons pe_int pa_nil)))
  (pss_cut (ps_if (pt_cmpR op_in_seq pe_int (pv 8) (by with_unfolding_all rfl))
  (pss_cut (ps_setLc (i := 9) (own := [("height", 10)]) (g := gName 10) rfl nd rfl rfl (sw_true rfl rfl rfl (by decide +kernel)) (pi_range2 (by rfl) (T.free 35 _ rfl) (pa_cons pe_int (pa_cons (pe_op op_add (pe_op op_add (pe_op op_sub (pv 2) (pv 6)) (pv 3)) pe_int) pa_nil))) (blkOk_by (own := [("height", 10)]) (N := N__law_counted) (sc := defScope s__law_counted) (by decide +kernel)) (fun _ _ _ _ _ => pg_name (i := 10) nd rfl (by first | exact Or.inl rfl | exact Or.inr rfl)) (fun _ _ _ _ _ => (pts_one (pt_cmpR (ninK (K := K) rfl) (pv 10) (pv 8) (by with_unfolding_all rfl)))) (fun _ _ _ _ _ => (pv 10)))
  pss_nil)
  pss_nil)
  (pss_cut (ps_for PassesOwn.never rfl (pi_list (pv 9)) (pg_name (i := 10) nd rfl (by first | exact Or.inl rfl | exact Or.inr rfl))
  (pss_cut (ps_set (i := 11) nd rfl (by first | exact Or.inl rfl | exact Or.inr rfl) (pe_callB call_len_seq (by rfl) (T.free 31 _ rfl) (by decide +kernel) (pa_cons (pv 8) pa_nil)))
  (pss_cut (ps_if (pt_cmpR op_gt (pv 10) pe_int (nomark _))
  (pss_cut (ps_set (i := 11) nd rfl (by first | exact Or.inl rfl | exact Or.inr rfl) (pe_callB call_len_seq (by rfl) (T.free 31 _ rfl) (by decide +kernel) (pa_cons (pe_lc (own := [("place", 13)]) (g := gName 13) rfl nd (pi_tup (pv 8)) (blkOk_by (own := [("place", 13)]) (N := N__law_counted) (sc := defScope s__law_counted) (by decide +kernel)) (fun _ _ _ _ _ => pg_name (i := 13) nd rfl (by first | exact Or.inl rfl | exact Or.inr rfl)) (fun _ _ _ _ _ => (pts_one (pt_cmpR op_gt (pv 13) (pv 10) (nomark _)))) (fun _ _ _ _ _ => (pv 13))) pa_nil)))
  pss_nil)
  pss_nil)
  (pss_cut (ps_set (i := 12) nd rfl (by first | exact Or.inl rfl | exact Or.inr rfl) (pe_call c__law_behind.ok (hr.mono (by decide)) (by rfl) c__law_behind.mg c__law_behind.kp c__law_behind.bd .nil pass0 (pa_cons (pv 8) (pa_cons (pv 10) pa_nil))))
  (pss_cut (ps_dput hu (pv 7) (pv 12) (pe_op op_add (pe_dget2 hu (pv 7) (pv 12) pe_int ⟨by rfl, by rfl, by rfl, by rfl⟩) (pe_op op_mulW (pe_dget hu (pv 4) (pv 8) (fun _ _ => rfl)) (pe_ix ix_list (pe_ix ix_list (pv 1) (pv 6) (fun _ _ => rfl)) (pv 11) (fun _ _ => rfl)))) rfl)
  pss_nil)))))
  pss_nil))))
  (pss_cut (ps_set (i := 4) nd rfl (by first | exact Or.inl rfl | exact Or.inr rfl) pe_dnewT)
  (pss_cut (ps_for PassesOwn.never rfl (pi_list (pe_callB (cr_sortedD rfl) (by rfl) (T.free 37 _ rfl) (by decide +kernel) (pa_cons (pv 7) pa_nil))) (pg_name (i := 12) nd rfl (by first | exact Or.inl rfl | exact Or.inr rfl))
  (pss_cut (ps_dput hu (pv 4) (pv 12) (pe_dget hu (pv 7) (pv 12) (fun _ _ => rfl)) rfl)
  pss_nil))
  pss_nil)))))
  (pss_cut (ps_ret (pe_dget2 hu (pv 4) (pe_callTy call_tuple_of (by rfl) (T.free 39 _ rfl) (by decide +kernel) (pa_cons (pe_callB cr_sortedA (by rfl) (T.free 37 _ rfl) (by decide +kernel) (pa_cons (pv 0) pa_nil)) pa_nil)) pe_int ⟨by rfl, by rfl, by rfl, by rfl⟩))
  pss_nil)))))), start_go hS (Nat.le_of_ble_eq_true rfl) ?_⟩
  obtain ⟨hg, h3, h6, hW, hB, hw⟩ := And.intro h1 (And.intro h2 (And.intro ‹∀ x, x ∈ ns → x < 6› (And.intro ‹GoodW ns.length ms› (And.intro ‹ms.length ≤ 3› ‹∀ m, m ∈ ms → ∀ x, x ∈ m → x.natAbs ≤ 1000000000000›))))
  obtain ⟨far, hf1, hf2⟩ := max_of 0 ns
  have hf0 : 0 ≤ far := hf2 0 List.mem_cons_self
  have hf5 : far ≤ 5 := by
    rcases List.mem_cons.mp hf1 with e | e
    · omega
    · have := h6 _ e
      omega
  generalize eM : ns.length = M at h3 hW
  generalize eB : ms.length = B at hB
  let encT : List Int → D := fun r => .tup (r.map D.int)
  let Lb : Nat → Int := fun b => (B : Int) - b + far + 1
  let base_ : Slot → Slot → Slot → List Slot := fun sums beat fresh => [.d (.lst (ns.map D.int)), .d (.lst (ms.map fun m => .lst (m.map D.int))), .d (.int B), .d (.int far), sums, .any, beat, fresh, .any, .any, .any, .any, .any, .any]
  refine go_set (ev_is (ev_lenL (ev_d rfl) .d) (by rw [List.length_map, eB])) ?_
  refine go_set (ev_max (ns := 0 :: ns) (m := far) (ev_frz (evN_cat (ev_l1 ev_int) (ev_frz (evN_listL (ev_d rfl) .d)) .d .d (by simp; omega))) .d rfl hf1 hf2) ?_
  refine go_setN evN_dT fun q => ?_
  have hset0 : ∀ T, T ∈ setsF ((B : Int) + far + 1).toNat M ↔ SetIn M (Lb 0) T := fun T => by
    rw [mem_sets, show ((((B : Int) + far + 1).toNat : Nat) : Int) = Lb 0 by show _ = (B : Int) - ((0 : Nat) : Int) + far + 1; omega]
  have hs728 : ∀ (L : Int) (ks : List (List Int)), L ≤ 12 → ks.Nodup → (∀ T, T ∈ ks → SetIn M L T) → ks.length ≤ 1728 := fun L ks hL nd hk => by
    have h := nodup_le (m := setsF 12 M) nd fun T hT => mem_sets.mpr ⟨(hk T hT).1, (hk T hT).2.1, fun x hx => ⟨((hk T hT).2.2 x hx).1, by have := ((hk T hT).2.2 x hx).2; omega⟩⟩
    refine Nat.le_trans h (Nat.le_trans (sets_le M) ?_)
    exact Nat.le_trans (Nat.pow_le_pow_right (by decide) h3) (by decide)
  -- all sets, once each
  refine go_forL (ds := (setsF ((B : Int) + far + 1).toNat M).map encT) (fun i => ⟨base_ (.v (.ref q)) .any .any, [(q, .dT (conF 1 ((setsF ((B : Int) + far + 1).toNat M).take i)))], []⟩) (ev_call (ea_cons (ev_is (ev_lenL (ev_d rfl) .d) (by rw [List.length_map, eM])) (ea_cons (ev_opI (ev_opI (ev_d rfl) (ev_d rfl)) ev_int) ea_nil)) ⟨M, ((B : Int) + far + 1).toNat, by rw [show ((((B : Int) + far + 1).toNat : Nat) : Int) = (B : Int) + far + 1 by omega], rfl, h3, by omega, rfl⟩) (by walk_at "weak") (fun _ _ => .d) (fun v i y hy => ?_) ?_
  · rw [List.getElem?_map] at hy
    cases hr : (setsF ((B : Int) + far + 1).toNat M)[i]? with
    | none => rw [hr] at hy; cases hy
    | some r =>
      rw [hr] at hy
      cases hy
      have hil := (List.getElem?_eq_some_iff.mp hr).1
      have hsl : (setsF ((B : Int) + far + 1).toNat M).length ≤ 1728 := by
        refine Nat.le_trans (sets_le M) (Nat.le_trans (Nat.pow_le_pow_left (show ((B : Int) + far + 1).toNat ≤ 12 by omega) M) ?_)
        exact Nat.le_trans (Nat.pow_le_pow_right (by decide) h3) (by decide)
      rw [take_one hr, con_snoc]
      refine go_putT (n := 0) (x := .int 1) ev_int (ev_v rfl) (ev_d rfl) rfl ?_ (by walk_at "nx")
      have := con_len 1 ((setsF ((B : Int) + far + 1).toNat M).take i)
      rw [List.length_take] at this
      omega
  rw [List.length_map, List.take_length]
  refine go_forR1E (fun b s1 => ∃ (q : Addr) (l : List (List Int)), (∀ T, T ∈ l ↔ SetIn M (Lb b) T) ∧ s1 = ⟨base_ (.v (.ref q)) .any .any, [(q, .dT (conF (prodL (ms.take b)) l))], []⟩) (ea_cons (ev_d rfl) ea_nil) (by omega) ⟨q, _, hset0, rfl⟩ (fun b s1 hb ⟨q, l, hl, es⟩ => ?_) (fun s1 ⟨q, l, hl, es⟩ => ?_)
  · subst es
    have hbB : b < B := by omega
    obtain ⟨m, hm⟩ : ∃ m, ms[b]? = some m := ⟨_, List.getElem?_eq_getElem (by omega)⟩
    have hmm := List.mem_of_getElem? hm
    have hml := hW.row m hmm
    have hL1 : 1 ≤ Lb b := by show 1 ≤ (B : Int) - b + far + 1; omega
    have hL12 : Lb b ≤ 12 := by show (B : Int) - b + far + 1 ≤ 12; omega
    have eLb : Lb (b + 1) = Lb b - 1 := by show (B : Int) - ((b + 1 : Nat) : Int) + far + 1 = (B : Int) - b + far + 1 - 1; omega
    have hv := prodL_bd (hW.take b)
    have ev' : prodL (ms.take (b + 1)) = prodL (ms.take b) * m.sum := by rw [take_one hm, prodL_snoc]
    rw [ev', eLb]
    generalize prodL (ms.take b) = vv at hv ev' ⊢
    have eLdef : (B : Int) - b + far + 1 = Lb b := rfl
    generalize Lb b = L at hl hL1 hL12 eLb eLdef ⊢
    obtain ⟨ks, hk1, hk2⟩ := con_ok vv l
    have hks : ∀ T, T ∈ ks ↔ SetIn M L T := fun T => by rw [hk2, hl]
    have hksl := hs728 L ks hL12 hk1.nd fun T hT => (hks T).mp hT
    have srtP := srtL_perm ks
    have hsk : ∀ T, T ∈ srtL ks ↔ SetIn M L T := fun T => by rw [srtP.mem_iff, hks]
    have hsn : (srtL ks).Nodup := srtP.nodup_iff.mpr hk1.nd
    have hsl : (srtL ks).length ≤ 1728 := by rw [srtP.length_eq]; exact hksl
    have hne : ∀ (k2 : List (List Int)) (L' : Int), k2.Nodup → (∀ T, T ∈ k2 ↔ SetIn M L' T) → 2 ≤ k2.length → [] ∉ k2 := fun k2 L' nd hk h2 h0 => by
      have hM0 := ((hk []).mp h0).2.1
      have : k2.length ≤ 1 := nodup_le (m := [[]]) nd fun T hT => by
        have := ((hk T).mp hT).2.1
        rw [← hM0] at this
        rw [List.eq_nil_of_length_eq_zero this]
        exact List.mem_singleton.mpr rfl
      omega
    refine go_setN evN_dT fun q2 => ?_
    let pr : List Int → List (List Int × Int) := fun hs => (hts hs L).map fun h => (hs, h)
    have hpl : ∀ l : List (List Int), (l.flatMap pr).length ≤ l.length * 12 := fun l => flat_le fun a _ => by show ((hts a L).map _).length ≤ 12; rw [List.length_map]; exact hts_len a L hL12
    refine go_forL (ds := (srtL ks).map encT) (fun i => ⟨base_ (.v (.ref q)) (.d (.int b)) (.v (.ref q2)), [(q, .dT (conF vv l)), (q2, .dT (kvF (adds vv m (((srtL ks).take i).flatMap pr))))], []⟩) (ev_frz (evN_sortD (n := 0) (ev_v rfl) rfl hk1.keys (hne ks L hk1.nd hks))) (by walk_at "weak") (fun _ _ => .d) (fun v i y hy => ?_) ?_
    · rw [List.getElem?_map] at hy
      cases hr : (srtL ks)[i]? with
      | none => rw [hr] at hy; cases hy
      | some hs =>
        rw [hr] at hy
        cases hy
        have hin := (hsk hs).mp (List.mem_of_getElem? hr)
        have hpre := hpl ((srtL ks).take i)
        have hpre2 : (((srtL ks).take i).flatMap pr).length ≤ 30000 := by
          rw [List.length_take] at hpre
          have : min i (srtL ks).length * 12 ≤ 1728 * 12 := Nat.mul_le_mul_right _ (Nat.le_trans (Nat.min_le_right _ _) hsl)
          omega
        have hval : valD (conF vv l) (kI hs) = some (.int vv) := by
          rw [hk1.val, if_pos ((hks hs).mpr hin)]
        rw [take_one hr, List.flatMap_append, show [hs].flatMap pr = pr hs by simp]
        generalize ((srtL ks).take i).flatMap pr = pp at hpre2 ⊢
        have hhl := hts_len hs L hL12
        let sl9 : Slot → Slot → Slot → Slot → List Slot := fun heights height later behind => [.d (.lst (ns.map D.int)), .d (.lst (ms.map fun m => .lst (m.map D.int))), .d (.int B), .d (.int far), .v (.ref q), .any, .d (.int b), .v (.ref q2), .d (encT hs), heights, height, later, behind, .any]
        refine go_set (ev_l1 ev_int) ?_
        refine go_if ⟨sl9 (.d (.lst ((hts hs L).map D.int))) .any .any .any, [(q, .dT (conF vv l)), (q2, .dT (kvF (adds vv m pp)))], [(v, .d (.lst ((srtL ks).map encT)))]⟩ (et_test (ev_inT ev_int (ev_d rfl) rfl)) (fun hb0 => ?_) (fun hb0 => ?_) ?_
        · have h0 : (0 : Int) ∈ hs := of_decide_eq_true hb0
          have eh : (((List.range (L - 1).toNat).filter fun (i : Nat) => !decide (1 + (i : Int) ∈ hs)).map fun (i : Nat) => D.int (1 + i)) = (hts hs L).map D.int := by
            unfold hts
            rw [if_pos h0, List.filter_map, List.map_map]
            rfl
          refine go_set (ev_is (ev_frz (evN_lcR (fun (i : Nat) => !decide (1 + (i : Int) ∈ hs)) (fun (i : Nat) => .int (1 + i)) (.inr ⟨rfl, ea_cons ev_int (ea_cons (ev_is (ev_opI (ev_opI (ev_opI (ev_d rfl) (ev_d rfl)) (ev_d rfl)) ev_int) (congrArg D.int eLdef)) ea_nil)⟩) (by omega) (fun _ _ i _ => et_test (ev_is (ev_inT (neg := true) (ev_d rfl) (ev_d rfl) rfl) rfl)) (fun _ _ _ _ _ => ev_d rfl))) (congrArg D.lst eh)) (by walk_at "nx")
        · have h0 : ¬ (0 : Int) ∈ hs := of_decide_eq_false hb0
          have eh : hts hs L = [0] := by
            unfold hts
            rw [if_neg h0]
          rw [eh]
          walk_at "nx"
        refine go_forL (ds := (hts hs L).map D.int) (fun j => ⟨sl9 (.d (.lst ((hts hs L).map D.int))) .any .any .any, [(q, .dT (conF vv l)), (q2, .dT (kvF (adds vv m (pp ++ ((hts hs L).take j).map fun h => (hs, h)))))], [(v, .d (.lst ((srtL ks).map encT)))]⟩) (ev_d rfl) ?_ (fun _ _ => .d) (fun v2 j y2 hy2 => ?_) ?_
        · show Weak _ _ ⟨_, [(q, .dT (conF vv l)), (q2, .dT (kvF (adds vv m (pp ++ []))))], _⟩
          rw [List.append_nil]
          walk_at "weak"
        · rw [List.getElem?_map] at hy2
          cases hr2 : (hts hs L)[j]? with
          | none => rw [hr2] at hy2; cases hy2
          | some h =>
            rw [hr2] at hy2
            cases hy2
            have hh := List.mem_of_getElem? hr2
            have hok := hts_ok hh
            have hjl := (List.getElem?_eq_some_iff.mp hr2).1
            obtain ⟨_, _, _, g4, g5, _⟩ := step_back (ht := []) hin.NN hok
            rw [hin.2.1] at g5
            rw [take_one hr2, List.map_append, ← List.append_assoc]
            have eadd : kvF (adds vv m ((pp ++ ((hts hs L).take j).map fun h => (hs, h)) ++ [h].map fun h => (hs, h))) = putD (kvF (adds vv m (pp ++ ((hts hs L).take j).map fun h => (hs, h)))) (kI (behindF hs h)) (.int (atT (adds vv m (pp ++ ((hts hs L).take j).map fun h => (hs, h))) (behindF hs h) + wv vv m (hs, h))) := by
              rw [show ∀ a b, adds vv m (a ++ b) = adds vv m a ++ adds vv m b from fun a b => List.map_append]
              exact kvF_snoc _ _
            rw [eadd]
            have hplen : (pp ++ ((hts hs L).take j).map fun h => (hs, h)).length ≤ 40000 := by
              rw [List.length_append, List.length_map, List.length_take]
              omega
            generalize (pp ++ ((hts hs L).take j).map fun h => (hs, h)) = pq at hplen ⊢
            refine go_set (ev_lenT (ev_d rfl)) ?_
            refine go_if ⟨sl9 (.d (.lst ((hts hs L).map D.int))) (.d (.int h)) (.d (.int (numOf hs h))) .any, [(q, .dT (conF vv l)), (q2, .dT (kvF (adds vv m pq)))], [(v2, .d (.lst ((hts hs L).map D.int))), (v, .d (.lst ((srtL ks).map encT)))]⟩ (et_test (ev_opB (ev_d rfl) ev_int)) (fun hb1 => ?_) (fun hb1 => ?_) ?_
            · have hpos : 0 < h := of_decide_eq_true hb1
              have h0 : (0 : Int) ∈ hs := by
                rcases mem_hts.mp hh with z | z
                · exact z.1
                · omega
              have en : numOf hs h = ((hs.filter fun a => decide (h < a)).length : Int) := by
                unfold numOf
                rw [if_pos h0]
              rw [en]
              refine go_set (ev_is (ev_lenL (ev_frz (evN_lcT (l := hs) (enc := D.int) (fun a => decide (h < a)) (fun a => .int a) (ev_d rfl) (by rw [hin.2.1]; omega) (fun _ _ a _ => et_test (ev_opB (ev_d rfl) (ev_d rfl))) (fun _ _ a _ _ => ev_d rfl))) .d) ?_) (by walk_at "nx")
              rw [List.length_map]
            · have hpos : ¬ 0 < h := of_decide_eq_false hb1
              have h0 : ¬ (0 : Int) ∈ hs := by
                rcases mem_hts.mp hh with z | z
                · omega
                · exact z.1
              have en : numOf hs h = ((hs.map D.int).length : Int) := by
                unfold numOf
                rw [if_neg h0, List.length_map]
              rw [en]
              walk_at "nx"
            · refine go_set (ev_call (ea_cons (ev_d rfl) (ea_cons (ev_d rfl) ea_nil)) ⟨hs, h, rfl, rfl, by rw [hin.2.1]; omega, rfl⟩) ?_
              obtain ⟨kq, hq1, hq2⟩ := kvF_ok (adds vv m pq)
              have hx : m[(numOf hs h).toNat]? = some (m[(numOf hs h).toNat]'(by omega)) := List.getElem?_eq_getElem _
              have hxm := List.mem_of_getElem? hx
              have ewv : wv vv m (hs, h) = vv * m[(numOf hs h).toNat]'(by omega) := by
                unfold wv
                rw [hx]
                rfl
              generalize m[(numOf hs h).toNat]'(by omega) = wt at hx hxm ewv
              have hwt := hw m hmm wt hxm
              rw [ewv]
              refine go_putT (n := 1) (ev_opI (ev_is (y := .int (atT (adds vv m pq) (behindF hs h))) (ev_get2T (n := 1) (ev_v rfl) rfl (ev_d rfl) ev_int rfl) ?_) (ev_opIC (ev_getT (n := 0) (x := .int vv) (ev_v rfl) (ev_d rfl) rfl hval) (ev_ixL (x := .int wt) (ev_ixL (x := .lst (m.map D.int)) (ev_d rfl) (ev_d rfl) .d ?_) (ev_d rfl) .d ?_) (L2.wide_mul (a := 60001) (b := 60) hv (by omega) (by decide) (by decide) (by decide)))) (ev_v rfl) (ev_d rfl) rfl ?_ (by walk_at "nx")
              · rw [hq1.val]
                by_cases hT : behindF hs h ∈ kq
                · rw [if_pos hT]
                  rfl
                · rw [if_neg hT]
                  have e0 : atT (adds vv m pq) (behindF hs h) = 0 := by
                    unfold atT
                    rw [List.filter_eq_nil_iff.mpr fun a ha hd => hT ((hq2 _).mpr ⟨a, ha, of_decide_eq_true hd⟩)]
                    rfl
                  rw [e0]
                  rfl
              · rw [atI_nat', List.getElem?_map, hm]
                rfl
              · rw [show numOf hs h = (((numOf hs h).toNat : Nat) : Int) by omega, atI_nat', List.getElem?_map, hx]
                rfl
              · have := kvF_len (adds vv m pq)
                have e : (adds vv m pq).length = pq.length := List.length_map _
                omega
        · rw [List.length_map]
          have e8 : (hts hs L).take (hts hs L).length = hts hs L := List.take_length
          show Go _ ⟨sl9 (.d (.lst ((hts hs L).map D.int))) .any .any .any, [(q, .dT (conF vv l)), (q2, .dT (kvF (adds vv m (pp ++ ((hts hs L).take (hts hs L).length).map fun h => (hs, h)))))], [(v, .d (.lst ((srtL ks).map encT)))]⟩ _ _
          rw [e8]
          walk_at "nx"
    · rw [List.length_map]
      have e8 : (srtL ks).take (srtL ks).length = srtL ks := List.take_length
      show Go _ ⟨base_ (.v (.ref q)) (.d (.int b)) (.v (.ref q2)), [(q, .dT (conF vv l)), (q2, .dT (kvF (adds vv m (((srtL ks).take (srtL ks).length).flatMap pr))))], []⟩ _ _
      rw [e8]
      show Go _ ⟨base_ (.v (.ref q)) (.d (.int b)) (.v (.ref q2)), [(q, .dT (conF vv l)), (q2, .dT (kvF (adds vv m (prs (srtL ks) L))))], []⟩ _ _
      obtain ⟨k2, g1, g2, g3⟩ := beat_ok (v := vv) hL1 hsn hsk hml
      generalize adds vv m (prs (srtL ks) L) = ad at g1 g3
      have hk2l := hs728 (L - 1) k2 (by omega) g1.nd fun T hT => (g2 T).mp hT
      have s2P := srtL_perm k2
      refine go_setN evN_dT fun q3 => ?_
      refine go_forL (ds := (srtL k2).map encT) (fun i => ⟨base_ (.v (.ref q3)) .any (.v (.ref q2)), [(q2, .dT (kvF ad)), (q3, .dT (conF (vv * m.sum) ((srtL k2).take i)))], []⟩) (ev_frz (evN_sortD (n := 1) (ev_v rfl) rfl g1.keys (hne k2 (L - 1) g1.nd g2))) (by walk_at "weak") (fun _ _ => .d) (fun v i y hy => ?_) ?_
      · rw [List.getElem?_map] at hy
        cases hr : (srtL k2)[i]? with
        | none => rw [hr] at hy; cases hy
        | some T =>
          rw [hr] at hy
          cases hy
          have hT := s2P.mem_iff.mp (List.mem_of_getElem? hr)
          have hil := (List.getElem?_eq_some_iff.mp hr).1
          rw [s2P.length_eq] at hil
          rw [take_one hr, con_snoc]
          refine go_putT (n := 1) (x := .int (vv * m.sum)) (ev_getT (n := 0) (ev_v rfl) (ev_d rfl) rfl (by rw [g1.val, if_pos hT, g3 T hT])) (ev_v rfl) (ev_d rfl) rfl ?_ (by walk_at "nx")
          have := con_len (vv * m.sum) ((srtL k2).take i)
          rw [List.length_take] at this
          omega
      · rw [List.length_map]
        have e9 : (srtL k2).take (srtL k2).length = srtL k2 := List.take_length
        show Go _ ⟨base_ (.v (.ref q3)) .any (.v (.ref q2)), [(q2, .dT (kvF ad)), (q3, .dT (conF (vv * m.sum) ((srtL k2).take (srtL k2).length)))], []⟩ _ _
        rw [e9]
        exact go_nxE ⟨base_ (.v (.ref q3)) .any .any, [(q3, .dT (conF (vv * m.sum) (srtL k2)))], []⟩ (by walk_at "weak") ⟨q3, srtL k2, fun T => by rw [s2P.mem_iff, g2], rfl⟩ rfl
  · subst es
    rw [Int.toNat_natCast] at hl ⊢
    obtain ⟨ks, hk1, hk2⟩ := con_ok (prodL (ms.take B)) l
    have hin : SetIn M (Lb B) (srt ns) := ⟨srt_nd hg.nd, by rw [(srt_perm ns).length_eq, eM], fun x hx => by
      have hx' := (srt_perm ns).mem_iff.mp hx
      have h2 := hf2 x (List.mem_cons_of_mem _ hx')
      exact ⟨hg.nn x hx', by show x < (B : Int) - (B : Int) + far + 1; omega⟩⟩
    have hval : valD (conF (prodL (ms.take B)) l) (kI (srt ns)) = some (.int (prodL ms)) := by
      rw [hk1.val, if_pos ((hk2 _).mpr ((hl _).mpr hin)), List.take_of_length_le (by omega)]
    refine go_ret (ev_is (ev_get2T (n := 0) (k := srt ns) (ev_v rfl) rfl (ev_tupL (ev_frz (evN_sortSL (ev_d rfl) .d rfl)) .d) ev_int rfl) ?_) (ret_of hP (by simp) rfl)
    rw [hval]
    rfl
end

section
variable {P : Program} {w : World} {K : Frag} {mg : Str → Option Value} {base : Heap}
def N_law : List Str := ["script", "draws", "many", "goal", "beats", "numbers", "weights", "handed", "told", "ones", "row", "beat", "number"]
theorem sc_law : FnScope N_law ["script"] (defScope s_law) := ⟨rfl, rfl, rfl, by decide +kernel, rfl, by decide +kernel, by decide +kernel⟩
theorem ok_law (T : Top fa fn ex K mg) {fd : FuncData} (F0 : FunD K d_law.name d_law.qual d_law.params d_law.body d_law.scope (d_law.dvs K) (d_law.kws K) (d_law.at_ K) fd) {f__law_draws : Addr} {fd__law_draws : FuncData} (c__law_draws : Cal P w K mg base CX0 1 "_law_draws" ["script"] (Prm K (R__law_draws K)) f__law_draws fd__law_draws) {f__law_take : Addr} {fd__law_take : FuncData} (c__law_take : Cal P w K mg base CX0 1 "_law_take" ["draws", "many"] (Prm K (R__law_take K)) f__law_take fd__law_take) {f__law_places : Addr} {fd__law_places : FuncData} (c__law_places : Cal P w K mg base CX0 2 "_law_places" ["draws", "many", "span"] (Prm K (R__law_places K)) f__law_places fd__law_places) {f__law_all_rows : Addr} {fd__law_all_rows : FuncData} (c__law_all_rows : Cal P w K mg base CX0 1 "_law_all_rows" ["beats", "most"] (Prm K (R__law_all_rows K)) f__law_all_rows fd__law_all_rows) {f__law_weights : Addr} {fd__law_weights : FuncData} (c__law_weights : Cal P w K mg base CX0 2 "_law_weights" ["draws", "script", "beats", "many"] (Prm K (R__law_weights K)) f__law_weights fd__law_weights) {f_ways_into : Addr} {fd_ways_into : FuncData} (c_ways_into : Cal P w K mg base (L2.CX P w) 4 "ways_into" ["goal", "weights"] (Prm K (R_ways_into K)) f_ways_into fd_ways_into) {f__law_refusals : Addr} {fd__law_refusals : FuncData} (c__law_refusals : Cal P w K mg base CX0 6 "_law_refusals" ["draws", "goal"] (Prm K (R__law_refusals K)) f__law_refusals fd__law_refusals) {f__law_great_ways : Addr} {fd__law_great_ways : FuncData} (c__law_great_ways : Cal P w K mg base CX0 6 "_law_great_ways" ["draws", "script"] (Prm K (R__law_great_ways K)) f__law_great_ways fd__law_great_ways) {f__law_one_way : Addr} {fd__law_one_way : FuncData} (c__law_one_way : Cal P w K mg base CX0 5 "_law_one_way" ["goal", "numbers"] (Prm K (R__law_one_way K)) f__law_one_way fd__law_one_way) {f__law_whole : Addr} {fd__law_whole : FuncData} (c__law_whole : Cal P w K mg base CX0 1 "_law_whole" ["value"] (Prm K (R__law_whole K)) f__law_whole fd__law_whole) {f__law_counted : Addr} {fd__law_counted : FuncData} (c__law_counted : Cal P w K mg base CX0 2 "_law_counted" ["goal", "weights"] (Prm K (R__law_counted K)) f__law_counted fd__law_counted) {f__law_product : Addr} {fd__law_product : FuncData} (c__law_product : Cal P w K mg base CX0 1 "_law_product" ["weights"] (Prm K (R__law_product K)) f__law_product fd__law_product) : Cal P w K mg base CX0 7 "law" ["script"] (Prm K (R_law K)) (d_law.at_ K) fd := by
  have F : Fun K "law" "law" s_law _ fd := He5.fun_of F0
  refine ⟨F.ok sc_law (prm_len ?_) (fun cdv A outer s H vs Q E hr h => ?_), T.glo 26 _ rfl, F.kp, F.binds (ps := ["script"]) fun _ _ _ _ _ _ us hl => match us, hl with | [_], _ => rfl⟩
  · rintro rs os res ⟨ns, rfl, _⟩; rfl
  obtain ⟨G, rs, os, res, hR, hP, hS⟩ := prm_open (N := N_law) h
  obtain ⟨ns, rfl, rfl, rfl⟩ := hR
  have nd := sc_law.nd
  have hu := hu_of hr
  refine ⟨_, (pss_cut (ps_set (i := 1) nd rfl (by first | exact Or.inl rfl | exact Or.inr rfl) (pe_call c__law_draws.ok (hr.mono (by decide)) (by rfl) c__law_draws.mg c__law_draws.kp c__law_draws.bd .nil pass0 (pa_cons (pv 0) pa_nil)))
  (pss_cut (ps_if (pt_cmpR op_eq (pe_call c__law_take.ok (hr.mono (by decide)) (by rfl) c__law_take.mg c__law_take.kp c__law_take.bd .nil pass0 (pa_cons (pv 1) (pa_cons pe_int pa_nil))) pe_int (nomark _))
  (pss_cut (ps_ret (pe_call c__law_great_ways.ok (hr.mono (by decide)) (by rfl) c__law_great_ways.mg c__law_great_ways.kp c__law_great_ways.bd .nil pass0 (pa_cons (pv 1) (pa_cons (pv 0) pa_nil))))
  pss_nil)
  pss_nil)
  (pss_cut (ps_set (i := 2) nd rfl (by first | exact Or.inl rfl | exact Or.inr rfl) (pe_call c__law_take.ok (hr.mono (by decide)) (by rfl) c__law_take.mg c__law_take.kp c__law_take.bd .nil pass0 (pa_cons (pv 1) (pa_cons pe_int pa_nil))))
  (pss_cut (ps_set (i := 3) nd rfl (by first | exact Or.inl rfl | exact Or.inr rfl) (pe_call c__law_places.ok (hr.mono (by decide)) (by rfl) c__law_places.mg c__law_places.kp c__law_places.bd .nil pass0 (pa_cons (pv 1) (pa_cons (pv 2) (pa_cons (pe_op op_add (pe_op op_add (pv 2) pe_int) (pe_call c__law_take.ok (hr.mono (by decide)) (by rfl) c__law_take.mg c__law_take.kp c__law_take.bd .nil pass0 (pa_cons (pv 1) (pa_cons pe_int pa_nil)))) pa_nil)))))
  (pss_cut (ps_set (i := 4) nd rfl (by first | exact Or.inl rfl | exact Or.inr rfl) (pe_call c__law_take.ok (hr.mono (by decide)) (by rfl) c__law_take.mg c__law_take.kp c__law_take.bd .nil pass0 (pa_cons (pv 1) (pa_cons pe_int pa_nil))))
  (pss_cut (ps_for PassesOwn.never rfl (pi_list (pe_call c__law_all_rows.ok (hr.mono (by decide)) (by rfl) c__law_all_rows.mg c__law_all_rows.kp c__law_all_rows.bd .nil pass0 (pa_cons (pv 4) (pa_cons (pv 2) pa_nil)))) (pg_name (i := 5) nd rfl (by first | exact Or.inl rfl | exact Or.inr rfl))
  (pss_cut (ps_if (pt_not (pt_val (pe_call c__law_one_way.ok (hr.mono (by decide)) (by rfl) c__law_one_way.mg c__law_one_way.kp c__law_one_way.bd .nil pass0 (pa_cons (pv 3) (pa_cons (pv 5) pa_nil)))))
  (pss_cut (ps_ret pe_bl)
  pss_nil)
  pss_nil)
  pss_nil))
  (pss_cut (ps_set (i := 6) nd rfl (by first | exact Or.inl rfl | exact Or.inr rfl) (pe_call c__law_weights.ok (hr.mono (by decide)) (by rfl) c__law_weights.mg c__law_weights.kp c__law_weights.bd .nil pass0 (pa_cons (pv 1) (pa_cons (pv 0) (pa_cons (pv 4) (pa_cons (pv 2) pa_nil))))))
  (pss_cut (ps_setLc (i := 7) (own := [("row", 10)]) (g := gName 10) rfl nd rfl rfl (sw_true rfl rfl rfl (by decide +kernel)) (pi_list (pv 6)) (blkOk_by (own := [("row", 10)]) (N := N_law) (sc := defScope s_law) (by decide +kernel)) (fun _ _ _ _ _ => pg_name (i := 10) nd rfl (by first | exact Or.inl rfl | exact Or.inr rfl)) (fun _ _ _ _ _ => pts_nil) (fun _ _ _ _ _ => (pe_callTy (tupK (K := K) rfl) (by rfl) (T.free 39 _ rfl) (by decide +kernel) (pa_cons (pv 10) pa_nil))))
  (pss_cut (ps_set (i := 8) nd rfl (by first | exact Or.inl rfl | exact Or.inr rfl) (pe_call c_ways_into.ok (hr.mono (by decide)) (by rfl) c_ways_into.mg c_ways_into.kp c_ways_into.bd .nil passL (pa_cons (pe_callTy call_list_of (by rfl) (T.free 32 _ rfl) (by decide +kernel) (pa_cons (pv 3) pa_nil)) (pa_cons (pv 7) pa_nil))))
  (pss_cut (ps_if (PW.pt (pw_or (pt_not (pt_val (pe_call c__law_whole.ok (hr.mono (by decide)) (by rfl) c__law_whole.mg c__law_whole.kp c__law_whole.bd .nil pass0 (pa_cons (pv 8) pa_nil)))) (pw_or (pt_cmpR op_ne (pv 8) (pe_call c__law_counted.ok (hr.mono (by decide)) (by rfl) c__law_counted.mg c__law_counted.kp c__law_counted.bd .nil pass0 (pa_cons (pv 3) (pa_cons (pv 6) pa_nil))) (nomark _)) (pw_or1 (pt_cmpR op_ne (pv 8) (pe_call c__law_product.ok (hr.mono (by decide)) (by rfl) c__law_product.mg c__law_product.kp c__law_product.bd .nil pass0 (pa_cons (pv 6) pa_nil)) (nomark _))))))
  (pss_cut (ps_ret pe_bl)
  pss_nil)
  pss_nil)
  (pss_cut (ps_setLc (i := 9) (own := [("beat", 11)]) (g := gName 11) rfl nd rfl rfl (sw_true rfl rfl rfl (by decide +kernel)) (pi_range1 (by rfl) (T.free 35 _ rfl) (pa_cons (pv 4) pa_nil)) (blkOk_by (own := [("beat", 11)]) (N := N_law) (sc := defScope s_law) (by decide +kernel)) (fun _ _ _ _ _ => pg_name (i := 11) nd rfl (by first | exact Or.inl rfl | exact Or.inr rfl)) (fun _ _ _ _ _ => pts_nil) (fun _ _ _ _ _ => (pe_lc (own := [("number", 12)]) (g := gName 12) rfl nd (pi_range1 (by rfl) (T.free 35 _ rfl) (pa_cons (pe_op op_add (pv 2) pe_int) pa_nil)) (blkOk_by (own := [("number", 12)]) (N := N_law) (sc := _) (by with_unfolding_all rfl)) (fun _ _ _ _ _ => pg_name (i := 12) nd rfl (by first | exact Or.inl rfl | exact Or.inr rfl)) (fun _ _ _ _ _ => pts_nil) (fun _ _ _ _ _ => pe_int))))
  (pss_cut (ps_if (pt_cmpR op_ne (pe_call c_ways_into.ok (hr.mono (by decide)) (by rfl) c_ways_into.mg c_ways_into.kp c_ways_into.bd .nil passL (pa_cons (pv 3) (pa_cons (pv 9) pa_nil))) (pe_callB call_len_seq (by rfl) (T.free 31 _ rfl) (by decide +kernel) (pa_cons (pe_call c__law_all_rows.ok (hr.mono (by decide)) (by rfl) c__law_all_rows.mg c__law_all_rows.kp c__law_all_rows.bd .nil pass0 (pa_cons (pv 4) (pa_cons (pv 2) pa_nil))) pa_nil)) (nomark _))
  (pss_cut (ps_ret pe_bl)
  pss_nil)
  pss_nil)
  (pss_cut (ps_ret (pe_call c__law_refusals.ok (hr.mono (by decide)) (by rfl) c__law_refusals.mg c__law_refusals.kp c__law_refusals.bd .nil pass0 (pa_cons (pv 1) (pa_cons (pv 3) pa_nil))))
  pss_nil))))))))))))), start_go hS (Nat.le_of_ble_eq_true rfl) ?_⟩
  refine go_setN (evN_call (ea_cons (ev_d rfl) ea_nil) ⟨ns, rfl, rfl, rfl⟩) fun p => ?_
  generalize fwd ns = ds
  have dr : ∀ {s : S} {d : List Int} {m : Int} {E' : XK}, s.sl[1]? = some (.v (.ref p)) → s.own[0]? = some (p, .lst (drw d)) → 0 < m → Ev ⟨K, G, H, []⟩ (tCall (Prm K (R__law_take K)) [] E' (tCons (tVar 1) (tCons (tC (.int m)) tNil))) s (.d (.int (tk d m))) ⟨s.sl, s.own.set 0 (p, .lst (drw d.tail)), s.tmp⟩ := fun e1 e2 h0 => ev_call1 (k := 0) (ea_cons (ev_v e1) (ea_cons ev_int ea_nil)) e2 ⟨p, _, _, rfl, rfl, h0, rfl⟩
  refine go_ifR (et_test (ev_eqI (dr rfl rfl (by decide)) ev_int)) (fun _ => ?_) (fun _ => ?_)
  · exact go_ret (ev_call1 (k := 0) (ea_cons (ev_v rfl) (ea_cons (ev_d rfl) ea_nil)) rfl ⟨p, _, _, rfl, rfl, rfl⟩) (ret_of hP (by simp) rfl)
  refine go_set (dr rfl rfl (by decide)) ?_
  have m1 := tk_nn ds.tail (n := 4) (by decide)
  have m2 := tk_lt ds.tail (n := 4) (by decide)
  generalize tk ds.tail 4 = many at m1 m2
  have s1 := tk_nn ds.tail.tail (n := 3) (by decide)
  have s2 := tk_lt ds.tail.tail (n := 3) (by decide)
  generalize es : tk ds.tail.tail 3 = sp at s1 s2
  obtain ⟨mn, rfl⟩ : ∃ mn : Nat, many = mn := ⟨many.toNat, by omega⟩
  have hls : mn ≤ ((mn : Int) + 1 + sp).toNat := by omega
  have hgood := plc_good (ds := ds.tail.tail.tail) hls (by omega)
  obtain ⟨hlen, _, hrg⟩ := plc_ok (ds := ds.tail.tail.tail) hls
  have ePl : R__law_places K [.v (.ref p), .d (.int mn), .d (.int ((mn : Int) + 1 + sp))] [(p, .lst (drw ds.tail.tail.tail))] (.ret (.d (.lst ((plc mn ((mn : Int) + 1 + sp).toNat ds.tail.tail.tail).map D.int))) [(p, .lst (drw (plcD mn ((mn : Int) + 1 + sp).toNat ds.tail.tail.tail)))]) :=
    ⟨p, ds.tail.tail.tail, mn, ((mn : Int) + 1 + sp).toNat, by rw [show ((((mn : Int) + 1 + sp).toNat : Nat) : Int) = (mn : Int) + 1 + sp by omega], rfl, hls, by omega, rfl⟩
  generalize plcD mn ((mn : Int) + 1 + sp).toNat ds.tail.tail.tail = d3 at ePl
  generalize plc mn ((mn : Int) + 1 + sp).toNat ds.tail.tail.tail = gl at hgood hlen hrg ePl
  have hg6 : ∀ x, x ∈ gl → x < 6 := fun x hx => by have := (hrg x hx).2; omega
  refine go_set (ev_call1 (k := 0) (ea_cons (ev_v rfl) (ea_cons (ev_d rfl) (ea_cons (ev_opI (ev_opI (ev_d rfl) ev_int) (ev_is (dr rfl rfl (by decide)) (by rw [es]))) ea_nil))) rfl ePl) ?_
  refine go_set (dr rfl rfl (by decide)) ?_
  have b1 := tk_nn d3 (n := 4) (by decide)
  have b2 := tk_lt d3 (n := 4) (by decide)
  generalize tk d3 4 = beats at b1 b2
  obtain ⟨bn, rfl⟩ : ∃ bn : Nat, beats = bn := ⟨beats.toNat, by omega⟩
  generalize d3.tail = d4
  have rR : R__law_all_rows K [.d (.int bn), .d (.int mn)] [] (.ret (.d (.lst ((rowsF mn bn).map fun r => .lst (r.map D.int)))) []) := ⟨bn, mn, rfl, rfl, by omega, by omega, rfl⟩
  refine go_forL (fun i => ⟨[.d (.scr ns), .v (.ref p), .d (.int mn), .d (.lst (gl.map D.int)), .d (.int bn), .any, .any, .any, .any, .any, .any, .any, .any], [(p, .lst (drw d4))], []⟩) (ev_call (ea_cons (ev_d rfl) (ea_cons (ev_d rfl) ea_nil)) rR) (by walk_at "weak") (fun _ _ => .d) (fun v i y hy => ?_) ?_
  · rw [List.getElem?_map] at hy
    cases hr : (rowsF mn bn)[i]? with
    | none => rw [hr] at hy; cases hy
    | some r =>
      rw [hr] at hy
      cases hy
      have hgr := rows_good (List.mem_of_getElem? hr) (by omega)
      exact go_ifR (b := false) (et_is (et_not (et_test (ev_call (ea_cons (ev_d rfl) (ea_cons (ev_d rfl) ea_nil)) ⟨gl, r, rfl, rfl, hgood, by rw [hlen]; exact hgr, rfl⟩))) (by simp)) (fun z => nomatch z) fun _ => by walk_at "nx"
  have hW := wRows_good (ns := ns) (ds := d4) (many := mn) (b := bn) (by omega) (by omega)
  have hWb := (wRows_ok ns d4 mn (by omega) bn)
  have eW : R__law_weights K [.v (.ref p), .d (.scr ns), .d (.int bn), .d (.int mn)] [(p, .lst (drw d4))] (.ret (.d (.lst ((wRows ns d4 mn bn).1.map fun m => .lst (m.map D.int)))) [(p, .lst (drw (wRows ns d4 mn bn).2))]) := ⟨p, _, ns, bn, mn, rfl, rfl, by omega, by omega, rfl⟩
  generalize (wRows ns d4 mn bn).2 = d5 at eW
  generalize (wRows ns d4 mn bn).1 = ws at hW hWb eW
  have hwl := hW.len
  refine go_set (ev_call1 (k := 0) (ea_cons (ev_v rfl) (ea_cons (ev_d rfl) (ea_cons (ev_d rfl) (ea_cons (ev_d rfl) ea_nil)))) rfl eW) ?_
  refine go_set (ev_frz (evN_lcL (l := ws) (enc := fun m => D.lst (m.map D.int)) (fun _ => true) (fun m => D.tup (m.map D.int)) (ev_d rfl) .d (by omega) (fun _ _ _ _ => et_yes) (fun _ _ _ _ _ => ev_tupL (ev_d rfl) .d))) ?_
  rw [List.filter_eq_self.mpr fun _ _ => rfl]
  have hWi : RWi K (.lst (gl.map D.int)) (.lst (ws.map fun m => .tup (m.map D.int))) (.ret (.d (.int (prodL ws))) []) := RWi.ok (f := .tup) hgood (fun _ => sq_t) sq_l (by rw [hlen]; exact hW)
  refine go_set (ev_call (ea_cons (ev_frz (evN_listL (ev_d rfl) .d)) (ea_cons (ev_d rfl) ea_nil)) ⟨_, _, _, rfl, rfl, hWi, rfl⟩) ?_
  refine go_ifR (b := false) (et_is (et_or (et_not (et_test (ev_call (ea_cons (ev_d rfl) ea_nil) ⟨_, rfl, rfl, rfl⟩))) (fun _ => et_or (et_test (ev_neI (ev_d rfl) (ev_call (ea_cons (ev_d rfl) (ea_cons (ev_d rfl) ea_nil)) ⟨gl, ws, rfl, rfl, hgood, by omega, hg6, by rw [hlen]; exact hW, by omega, fun m hm => (hWb.2 m hm).2.2, rfl⟩))) (fun _ => et_test (ev_neI (ev_d rfl) (ev_call (ea_cons (ev_d rfl) ea_nil) ⟨_, _, rfl, rfl, hW, rfl⟩))))) (by simp)) (fun z => nomatch z) fun _ => ?_
  obtain ⟨hO, hOp⟩ := ones_good (k := mn) (b := bn) (by omega) (by omega)
  have e1 : ∀ x : D, ((List.range ((mn : Int) + 1 - 0).toNat).filter fun _ => true).map (fun _ => x) = List.replicate (mn + 1) x := fun x => by rw [rep_map, show ((mn : Int) + 1 - 0).toNat = mn + 1 by omega]
  have e2 : ∀ x : D, ((List.range ((bn : Int) - 0).toNat).filter fun _ => true).map (fun _ => x) = List.replicate bn x := fun x => by rw [rep_map, show ((bn : Int) - 0).toNat = bn by omega]
  refine go_set (ev_is (y := .lst ((List.replicate bn (List.replicate (mn + 1) (1 : Int))).map fun m => .lst (m.map D.int))) (ev_frz (evN_lcR (fun _ => true) (fun _ => .lst (List.replicate (mn + 1) (.int 1))) (.inl ⟨rfl, rfl, ea_cons (ev_d rfl) ea_nil⟩) (by omega) (fun _ _ _ _ => et_yes) (fun _ _ _ _ _ => ev_is (ev_frz (evN_lcR (fun _ => true) (fun _ => .int 1) (.inl ⟨rfl, rfl, ea_cons (ev_opI (ev_d rfl) ev_int) ea_nil⟩) (by omega) (fun _ _ _ _ => et_yes) (fun _ _ _ _ _ => ev_int))) (congrArg D.lst (e1 _))))) ?_) ?_
  · rw [e2, List.map_replicate, List.map_replicate]
  have hWo : RWi K (.lst (gl.map D.int)) (.lst ((List.replicate bn (List.replicate (mn + 1) (1 : Int))).map fun m => .lst (m.map D.int))) (.ret (.d (.int (prodL (List.replicate bn (List.replicate (mn + 1) (1 : Int)))))) []) := RWi.ok (f := .lst) hgood (fun _ => sq_l) sq_l (by rw [hlen]; exact hO)
  refine go_ifR (b := false) (et_is (et_test (ev_neI (ev_call (ea_cons (ev_d rfl) (ea_cons (ev_d rfl) ea_nil)) ⟨_, _, _, rfl, rfl, hWo, rfl⟩) (ev_lenL (ev_call (ea_cons (ev_d rfl) (ea_cons (ev_d rfl) ea_nil)) rR) .d))) ?_) (fun z => nomatch z) fun _ => ?_
  · rw [List.length_map, rows_len, hOp]
    simp
  exact go_ret (ev_call1 (k := 0) (ea_cons (ev_v rfl) (ea_cons (ev_d rfl) ea_nil)) rfl ⟨p, _, gl, rfl, rfl, hgood, rfl⟩) (ret_of hP (by simp) rfl)
end

theorem all_ok {P : Program} {w : World} {K : Frag} {mg : Str → Option Value} (T : Top fa fn ex K mg) : ∃ fd : FuncData, FunD K d_law.name d_law.qual d_law.params d_law.body d_law.scope (d_law.dvs K) (d_law.kws K) (d_law.at_ K) fd ∧ ∀ base : Heap, FnOk P w K mg base CX0 7 (d_law.at_ K) fd ["script"] (Prm K (R_law K)) := by
  obtain ⟨fd__law_take, F__law_take⟩ := T.fn 9 _ rfl
  obtain ⟨fd__law_draws, F__law_draws⟩ := T.fn 8 _ rfl
  obtain ⟨fd_BadRow, F_BadRow⟩ := T.fn 0 _ rfl
  obtain ⟨fd_BadSet, F_BadSet⟩ := T.fn 1 _ rfl
  obtain ⟨fd_BadWeights, F_BadWeights⟩ := T.fn 2 _ rfl
  obtain ⟨fd_is_whole, F_is_whole⟩ := T.fn 3 _ rfl
  obtain ⟨fd_is_row, F_is_row⟩ := T.fn 4 _ rfl
  obtain ⟨fd__place_set, F__place_set⟩ := T.fn 5 _ rfl
  obtain ⟨fd_ways_into, F_ways_into⟩ := T.fn 6 _ rfl
  obtain ⟨fd_starts_of, F_starts_of⟩ := T.fn 7 _ rfl
  obtain ⟨fd__law_great, F__law_great⟩ := T.fn 10 _ rfl
  obtain ⟨fd__law_whole, F__law_whole⟩ := T.fn 11 _ rfl
  obtain ⟨fd__law_wholes, F__law_wholes⟩ := T.fn 12 _ rfl
  obtain ⟨fd__law_behind, F__law_behind⟩ := T.fn 14 _ rfl
  obtain ⟨fd__law_played, F__law_played⟩ := T.fn 15 _ rfl
  obtain ⟨fd__law_places, F__law_places⟩ := T.fn 13 _ rfl
  obtain ⟨fd__law_all_rows, F__law_all_rows⟩ := T.fn 16 _ rfl
  obtain ⟨fd__law_all_sets, F__law_all_sets⟩ := T.fn 17 _ rfl
  obtain ⟨fd__law_product, F__law_product⟩ := T.fn 19 _ rfl
  obtain ⟨fd__law_weights, F__law_weights⟩ := T.fn 21 _ rfl
  obtain ⟨fd__law_one_way, F__law_one_way⟩ := T.fn 20 _ rfl
  obtain ⟨fd__law_trouble, F__law_trouble⟩ := T.fn 22 _ rfl
  obtain ⟨fd__law_refusals, F__law_refusals⟩ := T.fn 23 _ rfl
  obtain ⟨fd__law_great_ways, F__law_great_ways⟩ := T.fn 24 _ rfl
  obtain ⟨fd__law_counted, F__law_counted⟩ := T.fn 18 _ rfl
  obtain ⟨fd_law, F_law⟩ := T.fn 25 _ rfl
  refine ⟨fd_law, F_law, fun base => ?_⟩
  have c__law_take := ok__law_take (P := P) (w := w) (base := base) T F__law_take
  have c__law_draws := ok__law_draws (P := P) (w := w) (base := base) T F__law_draws
  have c_BadRow := ok_BadRow (P := P) (w := w) (mg := mg) (base := base) F_BadRow
  have c_BadSet := ok_BadSet (P := P) (w := w) (mg := mg) (base := base) F_BadSet
  have c_BadWeights := ok_BadWeights (P := P) (w := w) (mg := mg) (base := base) F_BadWeights
  have c_is_whole := ok_is_whole (P := P) (w := w) (base := base) T F_is_whole
  have c_is_row := ok_is_row (P := P) (w := w) (base := base) T F_is_row
  have c__place_set := ok__place_set (P := P) (w := w) (base := base) T F__place_set c_is_row c_BadSet c_is_whole
  have c_ways_into := ok_ways_into (P := P) (w := w) (base := base) T F_ways_into c__place_set c_is_row c_BadWeights c_is_whole
  have c_starts_of := ok_starts_of (P := P) (w := w) (base := base) T F_starts_of c__place_set c_is_row c_BadRow c_is_whole
  have c__law_great := ok__law_great (P := P) (w := w) (base := base) T F__law_great
  have c__law_whole := ok__law_whole (P := P) (w := w) (base := base) T F__law_whole
  have c__law_wholes := ok__law_wholes (P := P) (w := w) (base := base) T F__law_wholes c__law_whole
  have c__law_behind := ok__law_behind (P := P) (w := w) (base := base) T F__law_behind
  have c__law_played := ok__law_played (P := P) (w := w) (base := base) T F__law_played c__law_behind
  have c__law_places := ok__law_places (P := P) (w := w) (base := base) T F__law_places c__law_take
  have c__law_all_rows := ok__law_all_rows (P := P) (w := w) (base := base) T F__law_all_rows
  have c__law_all_sets := ok__law_all_sets (P := P) (w := w) (base := base) T F__law_all_sets
  have c__law_product := ok__law_product (P := P) (w := w) (base := base) T F__law_product
  have c__law_weights := ok__law_weights (P := P) (w := w) (base := base) T F__law_weights c__law_take c__law_great
  have c__law_one_way := ok__law_one_way (P := P) (w := w) (base := base) T F__law_one_way c_starts_of c__law_played c__law_wholes
  have c__law_trouble := ok__law_trouble (P := P) (w := w) (base := base) T F__law_trouble c_starts_of c_ways_into
  have c__law_refusals := ok__law_refusals (P := P) (w := w) (base := base) T F__law_refusals c__law_take c__law_trouble
  have c__law_great_ways := ok__law_great_ways (P := P) (w := w) (base := base) T F__law_great_ways c__law_places c__law_take c__law_weights c_ways_into c__law_one_way c__law_whole c__law_product
  have c__law_counted := ok__law_counted (P := P) (w := w) (base := base) T F__law_counted c__law_all_sets c__law_behind
  have c_law := ok_law (P := P) (w := w) (base := base) T F_law c__law_draws c__law_take c__law_places c__law_all_rows c__law_weights c_ways_into c__law_refusals c__law_great_ways c__law_one_way c__law_whole c__law_counted c__law_product
  exact c_law.ok
end K83
open PySem PySem.W PySem.Calls PyProof.Rows
theorem PySem.Challenge.cw_landings_k83_whole_ways_into_any_weights_holds : PySem.Challenge.rw_landings_k83_whole_ways_into_any_weights.Holds := by
  w_on; o_law
  refine HandSHeadRun.head_any (r := OpenLaw.row PySem.Challenge.rw_landings_k83_whole_ways_into_any_weights) (q := view (OpenLaw.row PySem.Challenge.rw_landings_k83_whole_ways_into_any_weights).prog [30]) (H := K83.hk) (ob := K83.ob) (M := 2000) (loose := K83.loose)
    (d := HandSHeadRun.topDef (OpenLaw.row PySem.Challenge.rw_landings_k83_whole_ways_into_any_weights).prog 30) (kwd := []) K83.ob_eq (by kernel_rfl) (fun s => by kernel_rfl) K83.run (by kernel_rfl) (by kernel_rfl) (by kernel_rfl) (by rfl) (by first | assumption | decide +kernel) (by decide +kernel) ⟨rfl, rfl, rfl, rfl, rfl, by decide +kernel⟩ ?wit ?walk
  case wit => w_witness2
  case walk =>
    refine L2.walk_ofE (l := PySem.Challenge.rw_landings_k83_whole_ways_into_any_weights) (n := 63) (k := 7) (x := "script") (CX := L2.CX0) rfl (by decide) (by kernel_rfl) ⟨rfl, by decide, by decide⟩ ?F (fun _ _ _ _ z => z)
    intro w mg fa h Y G hmg0
    obtain ⟨K, KX, c⟩ := Y
    have T := Py.top_of KX G c
    have hmg : mg ("law" : PySem.Str) = some (.ref fa) := by
      have e : (HandSHeadRun.topDef (OpenLaw.row PySem.Challenge.rw_landings_k83_whole_ways_into_any_weights).prog 30).name = ("law" : PySem.Str) := by kernel_rfl
      rw [← e]
      exact hmg0
    have eg := hmg.symm.trans (T.glo 26 _ rfl)
    cases eg
    obtain ⟨fd, F0, hF⟩ := K83.all_ok (P := (PySem.Challenge.rw_landings_k83_whole_ways_into_any_weights).prog) (w := w) T
    have b := L2.FunD.bindsA (ps := ["script"]) F0 fun _ _ _ _ _ _ us hl => match us, hl with | [_], _ => rfl
    refine ⟨K, fd, Py.Prm K (K83.R_law K), KX, fun s u => b s [u] rfl, fun H a ns hl _ hS => ?_, fun base _ _ => hF base⟩
    refine ⟨H, [.d (.scr ns)], [], .ret (.d (.bl true)) [], ⟨fun _ _ e => e, rfl, fun t ht => ?_, fun _ _ z => (by cases z), List.nodup_nil⟩, ⟨ns, rfl, rfl, rfl⟩, fun v H' ⟨G', f⟩ => Py.rp_bl_inv (Py.Slot.inv f.val)⟩
    cases List.mem_singleton.mp ht
    exact ⟨_, rfl, Py.rp_scr hS⟩
