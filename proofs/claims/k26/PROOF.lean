import PyProof.Rows.All
import Wide.All
import OpenK.AllK
import Wide.FinOn
import HandS.ForMost
import HandS.Walk
import HandS.Zip
import HandS.Style
import HandS.Flow
import HandS.Strs
import HandS.IsInst
import HandS.Deep
import HandS.Conv
import KE.GoesEnum
import KE.GoesZip
import KE.DataMinMax
import HandS.SortKw
import PySem.Challenge.RW_tenantsure_k26_across_queues_one_behind
set_option Elab.async false
set_option linter.all false
set_option maxRecDepth 100000
set_option maxHeartbeats 1000000
/-! Pure data over the hand layer: what a value stands for, without the heap. -/
namespace PD
open PySem PySem.Spec PyProof.Rows L2

inductive D where
  | non
  | bl (b : Bool)
  | int (i : Int)
  | str (s : Str)
  | lst (xs : List D)
  | tup (xs : List D)
  | dct (ks : List Key) (vs : List D)
  | obj (c : Str) (ns : List Str) (vs : List D)
  | scr (ns : List Int)

/-- a tuple stands there, tracked or the module's own -/
def TupAt (K : PySem.W.Frag) (H : Hp) (a : Addr) (xs : List V) : Prop :=
  H a = some (.tup xs) ∨ ∃ (o : Obj) (its : Array Value) (n : Nat), K.lookup a = some o ∧ o.cls = .type "tuple" ∧ o.data = .seq its n ∧ its.size ≤ sizeLine ∧ Vals xs its.toList
theorem TupAt.sq {K : PySem.W.Frag} {H : Hp} {a : Addr} {xs : List V} (h : TupAt K H a xs) : SqT K H a xs := by
  rcases h with h | h
  · exact .inl (.inl h)
  · exact .inr h
mutual
inductive Rp (K : PySem.W.Frag) (mg : Str → Option Value) (H : Hp) : V → D → Prop
  | non : Rp K mg H .non .non
  | bl (b : Bool) : Rp K mg H (.bl b) (.bl b)
  | int (i : Int) : Rp K mg H (.int i) (.int i)
  | str (x : Str) : Rp K mg H (.str x) (.str x)
  | lst {a : Addr} {vs : List V} {ds : List D} : H a = some (.lst vs) → vs.length ≤ sizeLine → RpA K mg H vs ds → Rp K mg H (.ref a) (.lst ds)
  | tup {a : Addr} {vs : List V} {ds : List D} : TupAt K H a vs → vs.length ≤ sizeLine → RpA K mg H vs ds → Rp K mg H (.ref a) (.tup ds)
  | dct {a : Addr} {ks : List Key} {vs : List V} {ds : List D} : H a = some (.dK (ks.zip vs)) → ks.length = vs.length → RpA K mg H vs ds → Rp K mg H (.ref a) (.dct ks ds)
  | obj {a C dx : Addr} {c : Str} {ns : List Str} {vs : List V} {ds : List D} : H a = some (.ins C dx (ns.zip vs)) → ns.length = vs.length → mg c = some (.ref C) → RpA K mg H vs ds → Rp K mg H (.ref a) (.obj c ns ds)
  | scr {a : Addr} {ns : List Int} : SqL K H a (ns.map V.int) → Rp K mg H (.ref a) (.scr ns)
inductive RpA (K : PySem.W.Frag) (mg : Str → Option Value) (H : Hp) : List V → List D → Prop
  | nil : RpA K mg H [] []
  | cons {v : V} {vs : List V} {d : D} {ds : List D} : Rp K mg H v d → RpA K mg H vs ds → RpA K mg H (v :: vs) (d :: ds)
end

section
variable {K : PySem.W.Frag} {mg : Str → Option Value} {H H' : Hp}
theorem same_t {a : Addr} {xs : List V} (e : Same H H') (h : TupAt K H a xs) : TupAt K H' a xs := by
  rcases h with h | h
  · exact .inl (e _ _ h)
  · exact .inr h
mutual
theorem Rp.mono (e : Same H H') : ∀ {v : V} {d : D}, Rp K mg H v d → Rp K mg H' v d
  | _, _, .non => .non
  | _, _, .bl b => .bl b
  | _, _, .int i => .int i
  | _, _, .str x => .str x
  | _, _, .lst h z r => .lst (e _ _ h) z (RpA.mono e r)
  | _, _, .tup h z r => .tup (same_t e h) z (RpA.mono e r)
  | _, _, .dct h z r => .dct (e _ _ h) z (RpA.mono e r)
  | _, _, .obj h z m r => .obj (e _ _ h) z m (RpA.mono e r)
  | _, _, .scr h => .scr (e.seq h)
theorem RpA.mono (e : Same H H') : ∀ {vs : List V} {ds : List D}, RpA K mg H vs ds → RpA K mg H' vs ds
  | _, _, .nil => .nil
  | _, _, .cons h t => .cons (Rp.mono e h) (RpA.mono e t)
end

theorem RpA.length : ∀ {vs : List V} {ds : List D}, RpA K mg H vs ds → vs.length = ds.length
  | _, _, .nil => rfl
  | _, _, .cons _ t => congrArg (· + 1) (RpA.length t)
theorem RpA.get : ∀ {vs : List V} {ds : List D} {i : Nat} {d : D}, RpA K mg H vs ds → ds[i]? = some d → ∃ v, vs[i]? = some v ∧ Rp K mg H v d
  | _, _, _, _, .nil, e => by simp at e
  | _, _, 0, _, .cons r _, e => by simp at e; subst e; exact ⟨_, rfl, r⟩
  | _, _, i + 1, d, .cons _ t, e => by
    obtain ⟨v, h1, h2⟩ := RpA.get (i := i) (d := d) t (by simpa using e)
    exact ⟨v, by simpa using h1, h2⟩
theorem RpA.getV : ∀ {vs : List V} {ds : List D} {i : Nat} {v : V}, RpA K mg H vs ds → vs[i]? = some v → ∃ d, ds[i]? = some d ∧ Rp K mg H v d
  | _, _, _, _, .nil, e => by simp at e
  | _, _, 0, _, .cons r _, e => by simp at e; subst e; exact ⟨_, rfl, r⟩
  | _, _, i + 1, d, .cons _ t, e => by
    obtain ⟨v, h1, h2⟩ := RpA.getV (i := i) (v := d) t (by simpa using e)
    exact ⟨v, by simpa using h1, h2⟩
theorem RpA.set {v : V} {d : D} (r : Rp K mg H v d) : ∀ {vs : List V} {ds : List D} (i : Nat), RpA K mg H vs ds → RpA K mg H (vs.set i v) (ds.set i d)
  | _, _, _, .nil => .nil
  | _, _, 0, .cons _ t => .cons r t
  | _, _, i + 1, .cons q t => .cons q (RpA.set r i t)
theorem RpA.append : ∀ {xs ys : List V} {ds es : List D}, RpA K mg H xs ds → RpA K mg H ys es → RpA K mg H (xs ++ ys) (ds ++ es)
  | _, _, _, _, .nil, s => s
  | _, _, _, _, .cons r t, s => .cons r (RpA.append t s)
theorem RpA.take : ∀ {xs : List V} {ds : List D} (n : Nat), RpA K mg H xs ds → RpA K mg H (xs.take n) (ds.take n)
  | _, _, 0, _ => .nil
  | _, _, _ + 1, .nil => .nil
  | _, _, n + 1, .cons r t => .cons r (RpA.take n t)
theorem RpA.drop : ∀ {xs : List V} {ds : List D} (n : Nat), RpA K mg H xs ds → RpA K mg H (xs.drop n) (ds.drop n)
  | _, _, 0, r => r
  | _, _, _ + 1, .nil => .nil
  | _, _, n + 1, .cons _ t => RpA.drop n t
theorem RpA.eraseIdx : ∀ {xs : List V} {ds : List D} (n : Nat), RpA K mg H xs ds → RpA K mg H (xs.eraseIdx n) (ds.eraseIdx n)
  | _, _, _, .nil => .nil
  | _, _, 0, .cons _ t => t
  | _, _, n + 1, .cons r t => .cons r (RpA.eraseIdx n t)
theorem RpA.dropLast : ∀ {xs : List V} {ds : List D}, RpA K mg H xs ds → RpA K mg H xs.dropLast ds.dropLast
  | _, _, .nil => .nil
  | _, _, .cons _ .nil => .nil
  | _, _, .cons r (.cons q t) => .cons r (RpA.dropLast (.cons q t))
theorem RpA.rev : ∀ {xs : List V} {ds : List D}, RpA K mg H xs ds → RpA K mg H xs.reverse ds.reverse
  | _, _, .nil => .nil
  | _, _, .cons r t => by
    simp only [List.reverse_cons]
    exact (RpA.rev t).append (.cons r .nil)
theorem RpA.rep {xs : List V} {ds : List D} (r : RpA K mg H xs ds) : ∀ k : Nat, RpA K mg H (List.replicate k xs).flatten (List.replicate k ds).flatten
  | 0 => .nil
  | k + 1 => by
    simp only [List.replicate_succ, List.flatten_cons]
    exact r.append (RpA.rep r k)
theorem RpA.ints : ∀ {vs : List V} {ns : List Int}, RpA K mg H vs (ns.map D.int) → vs = ns.map V.int
  | [], [], _ => rfl
  | [], _ :: _, h => by cases h
  | _ :: _, [], h => by cases h
  | _ :: _, _ :: _, .cons (.int i) t => congrArg (V.int i :: ·) (RpA.ints t)
theorem RpA.bls : ∀ {vs : List V} {ns : List Bool}, RpA K mg H vs (ns.map D.bl) → vs = ns.map V.bl
  | [], [], _ => rfl
  | [], _ :: _, h => by cases h
  | _ :: _, [], h => by cases h
  | _ :: _, _ :: _, .cons (.bl i) t => congrArg (V.bl i :: ·) (RpA.bls t)
theorem RpA.ofInts : ∀ ns : List Int, RpA K mg H (ns.map V.int) (ns.map D.int)
  | [] => .nil
  | i :: t => .cons (.int i) (RpA.ofInts t)
theorem RpA.ofBls : ∀ ns : List Bool, RpA K mg H (ns.map V.bl) (ns.map D.bl)
  | [] => .nil
  | i :: t => .cons (.bl i) (RpA.ofBls t)
theorem Rp.int_inv {v : V} {i : Int} (h : Rp K mg H v (.int i)) : v = .int i := by cases h; rfl
theorem Rp.bl_inv {v : V} {b : Bool} (h : Rp K mg H v (.bl b)) : v = .bl b := by cases h; rfl
theorem Rp.str_inv {v : V} {b : Str} (h : Rp K mg H v (.str b)) : v = .str b := by cases h; rfl
theorem Rp.non_inv {v : V} (h : Rp K mg H v .non) : v = .non := by cases h; rfl
theorem Rp.lst_inv {v : V} {ds : List D} (h : Rp K mg H v (.lst ds)) : ∃ a vs, v = .ref a ∧ H a = some (.lst vs) ∧ vs.length ≤ sizeLine ∧ RpA K mg H vs ds := by
  cases h with | lst h z r => exact ⟨_, _, rfl, h, z, r⟩
theorem Rp.tup_inv {v : V} {ds : List D} (h : Rp K mg H v (.tup ds)) : ∃ a vs, v = .ref a ∧ TupAt K H a vs ∧ vs.length ≤ sizeLine ∧ RpA K mg H vs ds := by
  cases h with | tup h z r => exact ⟨_, _, rfl, h, z, r⟩
end

/-! ### plain data, for == -/
mutual
def D.py : D → PyData
  | .non => .none
  | .bl b => .bool b
  | .int i => .int i
  | .str s => .str s
  | .lst xs => .list (D.pyA xs)
  | .tup xs => .tuple (D.pyA xs)
  | .dct _ _ => .none
  | .obj _ _ _ => .none
  | .scr _ => .none
def D.pyA : List D → List PyData
  | [] => []
  | x :: xs => D.py x :: D.pyA xs
end
/-- plain, at most n deep; b: without truth values; not b: without numbers -/
def Sh (b : Bool) : Nat → D → Prop
  | _, .non => True
  | _, .bl _ => b = false
  | _, .int _ => b = true
  | _, .str s => PySem.PyData.canLay0 (.str s) = true
  | 0, .lst _ => False
  | 0, .tup _ => False
  | n + 1, .lst xs => ∀ x ∈ xs, Sh b n x
  | n + 1, .tup xs => ∀ x ∈ xs, Sh b n x
  | _, .dct _ _ => False
  | _, .obj _ _ _ => False
  | _, .scr _ => False

theorem sh_canLay {b : Bool} : ∀ {n : Nat} {d : D}, Sh b n d → PyData.canLay0 d.py = true
  | _, .non, _ => by simp [D.py, PyData.canLay0]
  | _, .bl _, _ => by simp [D.py, PyData.canLay0]
  | _, .int _, _ => by simp [D.py, PyData.canLay0]
  | _, .str s, h => by
    cases ‹Nat› <;> exact h
  | 0, .lst _, h => False.elim h
  | 0, .tup _, h => False.elim h
  | n + 1, .lst xs, h => by
    have h : ∀ x ∈ xs, Sh b n x := h
    have : ∀ ys : List D, (∀ x ∈ ys, Sh b n x) → PyData.canLayAll0 (D.pyA ys) = true := by
      intro ys
      induction ys with
      | nil => intro _; simp [D.pyA, PyData.canLayAll0]
      | cons y ys ih =>
        intro hy
        simp only [D.pyA, PyData.canLayAll0, Bool.and_eq_true]
        exact ⟨sh_canLay (hy y (by simp)), ih fun x hx => hy x (by simp [hx])⟩
    simp only [D.py, PyData.canLay0]
    exact this xs h
  | n + 1, .tup xs, h => by
    have h : ∀ x ∈ xs, Sh b n x := h
    have : ∀ ys : List D, (∀ x ∈ ys, Sh b n x) → PyData.canLayAll0 (D.pyA ys) = true := by
      intro ys
      induction ys with
      | nil => intro _; simp [D.pyA, PyData.canLayAll0]
      | cons y ys ih =>
        intro hy
        simp only [D.pyA, PyData.canLayAll0, Bool.and_eq_true]
        exact ⟨sh_canLay (hy y (by simp)), ih fun x hx => hy x (by simp [hx])⟩
    simp only [D.py, PyData.canLay0]
    exact this xs h
  | 0, .dct _ _, h => False.elim h
  | n + 1, .dct _ _, h => False.elim h
  | 0, .obj _ _ _, h => False.elim h
  | n + 1, .obj _ _ _, h => False.elim h
  | 0, .scr _, h => False.elim h
  | n + 1, .scr _, h => False.elim h
termination_by n => n
theorem sh_depth {b : Bool} : ∀ {n : Nat} {d : D}, Sh b n d → PyData.depth d.py ≤ n + 1
  | _, .non, _ => by simp [D.py, PyData.depth]
  | _, .bl _, _ => by simp [D.py, PyData.depth]
  | _, .int _, _ => by simp [D.py, PyData.depth]
  | _, .str s, h => by simp [D.py, PyData.depth]
  | 0, .lst _, h => False.elim h
  | 0, .tup _, h => False.elim h
  | n + 1, .lst xs, h => by
    have h : ∀ x ∈ xs, Sh b n x := h
    have : ∀ ys : List D, (∀ x ∈ ys, Sh b n x) → PyData.depthAll (D.pyA ys) ≤ n + 1 := by
      intro ys
      induction ys with
      | nil => intro _; simp [D.pyA, PyData.depthAll]
      | cons y ys ih =>
        intro hy
        simp only [D.pyA, PyData.depthAll]
        have h1 := sh_depth (hy y (by simp))
        have h2 := ih fun x hx => hy x (by simp [hx])
        omega
    simp only [D.py, PyData.depth]
    have := this xs h
    omega
  | n + 1, .tup xs, h => by
    have h : ∀ x ∈ xs, Sh b n x := h
    have : ∀ ys : List D, (∀ x ∈ ys, Sh b n x) → PyData.depthAll (D.pyA ys) ≤ n + 1 := by
      intro ys
      induction ys with
      | nil => intro _; simp [D.pyA, PyData.depthAll]
      | cons y ys ih =>
        intro hy
        simp only [D.pyA, PyData.depthAll]
        have h1 := sh_depth (hy y (by simp))
        have h2 := ih fun x hx => hy x (by simp [hx])
        omega
    simp only [D.py, PyData.depth]
    have := this xs h
    omega
  | 0, .dct _ _, h => False.elim h
  | n + 1, .dct _ _, h => False.elim h
  | 0, .obj _ _ _, h => False.elim h
  | n + 1, .obj _ _ _, h => False.elim h
  | 0, .scr _, h => False.elim h
  | n + 1, .scr _, h => False.elim h
termination_by n => n
theorem sh_shaped {b : Bool} {n : Nat} {d : D} (h : Sh b n d) (hn : n ≤ 60) : SeqAt.shaped d.py = true := by
  unfold SeqAt.shaped
  rw [Bool.and_eq_true]
  exact ⟨sh_canLay h, decide_eq_true (Nat.le_trans (sh_depth h) (by omega))⟩
end PD

set_option Elab.async false
set_option linter.all false
set_option maxRecDepth 100000
set_option maxHeartbeats 1000000
namespace PD
open PySem PySem.Spec PyProof.Rows L2

theorem eqv_list {P : D → D → Prop} : ∀ {xs ys : List D}, (∀ x ∈ xs, ∀ y ∈ ys, (PyData.eqv x.py y.py = true ↔ x = y)) → (PyData.eqvAll (D.pyA xs) (D.pyA ys) = true ↔ xs = ys)
  | [], [], _ => by simp [D.pyA, PyData.eqvAll]
  | [], _ :: _, _ => by simp [D.pyA, PyData.eqvAll]
  | _ :: _, [], _ => by simp [D.pyA, PyData.eqvAll]
  | x :: xs, y :: ys, h => by
    simp only [D.pyA, PyData.eqvAll, Bool.and_eq_true, List.cons.injEq]
    rw [h x (by simp) y (by simp), eqv_list (P := P) (xs := xs) (ys := ys) fun a ha b hb => h a (by simp [ha]) b (by simp [hb])]
theorem sh_zero {b : Bool} {n : Nat} {d : D} (h : Sh b 0 d) : Sh b n d := by
  cases d <;> cases n <;> first | exact h | exact False.elim h
theorem sh_up {b : Bool} : ∀ {n m : Nat} {d : D}, Sh b n d → n ≤ m → Sh b m d
  | 0, m, d, h, _ => sh_zero h
  | n + 1, 0, d, h, l => by omega
  | n + 1, m + 1, d, h, l => by
    cases d with
    | lst xs => exact fun x hx => sh_up ((show ∀ x ∈ xs, Sh b n x from h) x hx) (by omega)
    | tup xs => exact fun x hx => sh_up ((show ∀ x ∈ xs, Sh b n x from h) x hx) (by omega)
    | _ => exact h
theorem eqv_iff {b : Bool} : ∀ {n : Nat} {d e : D}, Sh b n d → Sh b n e → (PyData.eqv d.py e.py = true ↔ d = e) := by
  intro n
  induction n with
  | zero =>
    intro d e h1 h2
    cases d <;> cases e <;> first | exact False.elim h1 | exact False.elim h2 | (simp [D.py, PyData.eqv]; done) | (simp only [Sh] at h1 h2; simp_all) 
  | succ n ih =>
    intro d e h1 h2
    cases d with
    | lst xs =>
      cases e with
      | lst ys =>
        simp only [D.py, PyData.eqv, D.lst.injEq]
        exact eqv_list (P := fun _ _ => True) fun x hx y hy => ih ((show ∀ x ∈ xs, Sh b n x from h1) x hx) ((show ∀ x ∈ ys, Sh b n x from h2) y hy)
      | _ => first | exact False.elim h2 | simp [D.py, PyData.eqv]
    | tup xs =>
      cases e with
      | tup ys =>
        simp only [D.py, PyData.eqv, D.tup.injEq]
        exact eqv_list (P := fun _ _ => True) fun x hx y hy => ih ((show ∀ x ∈ xs, Sh b n x from h1) x hx) ((show ∀ x ∈ ys, Sh b n x from h2) y hy)
      | _ => first | exact False.elim h2 | simp [D.py, PyData.eqv]
    | non => cases e <;> first | exact False.elim h2 | simp [D.py, PyData.eqv]
    | str s => cases e <;> first | exact False.elim h2 | simp [D.py, PyData.eqv]
    | bl k =>
      cases e <;> first | exact False.elim h2 | (simp [D.py, PyData.eqv]; done) | (simp only [Sh] at h1 h2; simp_all)
    | int k =>
      cases e <;> first | exact False.elim h2 | (simp [D.py, PyData.eqv]; done) | (simp only [Sh] at h1 h2; simp_all)
    | dct _ _ => exact False.elim h1
    | obj _ _ _ => exact False.elim h1
    | scr _ => exact False.elim h1
section
variable {K : PySem.W.Frag} {mg : Str → Option Value} {H : Hp}
theorem Rp.dp {b : Bool} : ∀ {n : Nat} {v : V} {d : D}, Sh b n d → Rp K mg H v d → Dp K H v d.py := by
  intro n
  induction n with
  | zero =>
    intro v d h r
    cases r with
    | non => exact .non
    | bl b => exact .bl b
    | int i => exact .int i
    | str s => exact .str s
    | lst _ _ _ => exact False.elim h
    | tup _ _ _ => exact False.elim h
    | dct _ _ _ => exact False.elim h
    | obj _ _ _ _ => exact False.elim h
    | scr _ => exact False.elim h
  | succ n ih =>
    have all : ∀ {vs : List V} {ds : List D}, (∀ x ∈ ds, Sh b n x) → RpA K mg H vs ds → DpAll K H vs (D.pyA ds) := by
      intro vs ds
      induction ds generalizing vs with
      | nil => intro _ r; cases r; exact .nil
      | cons d ds ih2 =>
        intro h r
        cases r with
        | cons r t => exact .cons (ih (h d (by simp)) r) (ih2 (fun x hx => h x (by simp [hx])) t)
    intro v d h r
    cases r with
    | non => exact .non
    | bl b => exact .bl b
    | int i => exact .int i
    | str s => exact .str s
    | lst e _ r => exact .lst (SqL.of e) (all h r)
    | tup e _ r => exact .tup e.sq (all h r)
    | dct _ _ _ => exact False.elim h
    | obj _ _ _ _ => exact False.elim h
    | scr _ => exact False.elim h
theorem RpA.dp {b : Bool} {n : Nat} {vs : List V} {ds : List D} (h : ∀ x ∈ ds, Sh b n x) (r : RpA K mg H vs ds) : DpAll K H vs (D.pyA ds) := by
  induction ds generalizing vs with
  | nil => cases r; exact .nil
  | cons d ds ih2 =>
    cases r with
    | cons r t => exact .cons (Rp.dp (h d (by simp)) r) (ih2 (fun x hx => h x (by simp [hx])) t)
end

/-! ### slots, the tape, the state -/
/-- the tape of draws: its large numbers, the rest, the turn, the cells -/
structure Tape where
  large : List Int
  rest : Int
  turn : Int
  cells : List Int
inductive Sl where
  | no
  | dat (d : D)
  | own (ds : List D)
  | tape
/-- the entry of a def: the base heap (what never changes), the heap, the tape's two objects -/
structure Ent where
  Hb : Hp
  H : Hp
  tp : Addr
  lg : Addr
def tapeK (lg cl : Addr) (τ : Tape) : List (Key × V) := [(Sum.inr "large", .ref lg), (Sum.inr "rest", .int τ.rest), (Sum.inr "cells", .ref cl), (Sum.inr "turn", .int τ.turn)]
def TpOk (m : Bool) (E : Ent) (τ : Tape) (Hb H : Hp) : Prop := m = true → ∃ cl, H E.tp = some (.dK (tapeK E.lg cl τ)) ∧ H E.lg = some (.lst (τ.large.map V.int)) ∧ (τ.large.length ≤ sizeLine ∧ τ.cells.length ≤ sizeLine) ∧
  Hb cl = some (.lst (τ.cells.map V.int)) ∧ Hb E.tp = none ∧ Hb E.lg = none ∧ E.tp ≠ E.lg ∧ E.H E.tp ≠ none ∧ E.H E.lg ≠ none
/-- from a moment to a later one -/
structure Grow (m : Bool) (E : Ent) (Hb H Hb' H' : Hp) : Prop where
  b : Same Hb Hb'
  e : Same Hb' H'
  k : ∀ p o, H p = some o → (m = true → p ≠ E.tp ∧ p ≠ E.lg) → H' p = some o
  f : ∀ p, H p ≠ none → Hb p = none → Hb' p = none
  n : ∀ p, H p ≠ none → H' p ≠ none
section
variable {m : Bool} {E : Ent} {Hb H Hb' H' Hb'' H'' : Hp}
theorem Grow.refl (e : Same Hb H) : Grow m E Hb H Hb H := ⟨Same.refl _, e, fun _ _ h _ => h, fun _ _ h => h, fun _ h => h⟩
theorem Grow.trans (a : Grow m E Hb H Hb' H') (b : Grow m E Hb' H' Hb'' H'') : Grow m E Hb H Hb'' H'' :=
  ⟨a.b.trans b.b, b.e, fun p o h q => b.k p o (a.k p o h q) q, fun p h1 h2 => b.f p (a.n p h1) (a.f p h1 h2), fun p h => b.n p (a.n p h)⟩
theorem Grow.pure (a : Grow false E Hb H Hb' H') {E' : Ent} : Grow m E' Hb H Hb' H' :=
  ⟨a.b, a.e, fun p o h _ => a.k p o h (fun q => by cases q), a.f, a.n⟩
theorem Grow.ent (a : Grow m E Hb H Hb' H') {E' : Ent} (h1 : E'.tp = E.tp) (h2 : E'.lg = E.lg) : Grow m E' Hb H Hb' H' :=
  ⟨a.b, a.e, fun p o h q => a.k p o h (by rw [← h1, ← h2]; exact q), a.f, a.n⟩
theorem Grow.fresh (a : Grow m E Hb H Hb' H') {p : Addr} (h : H' p = none) : H p = none := by
  cases q : H p with
  | none => rfl
  | some o => exact absurd h (a.n p (by rw [q]; exact fun z => by cases z))
theorem same_new {H : Hp} {p : Addr} {o : HO} (h : H p = none) : Same H (upd H p o) := fun b x e => by
  rw [upd_ne (ne_of_none e h)]
  exact e
/-- a new object, not in the base -/
theorem Grow.alloc (e : Same Hb H) {p : Addr} {o : HO} (h : H p = none) : Grow m E Hb H Hb (upd H p o) :=
  ⟨Same.refl _, e.trans (same_new h), fun q x hq _ => same_new h q x hq, fun _ _ z => z, fun q hq z => by
    by_cases hp : q = p
    · subst hp; exact hq h
    · rw [upd_ne hp] at z; exact hq z⟩
/-- an object of the later heap that was not there ahead is taken into the base -/
theorem Grow.freeze (a : Grow m E Hb H Hb' H') {p : Addr} {o : HO} (h : H p = none) (hb : Hb' p = none) (h' : H' p = some o) : Grow m E Hb H (upd Hb' p o) H' :=
  ⟨a.b.trans (same_new hb), fun q x hq => by
    by_cases hp : q = p
    · subst hp; rw [upd_same] at hq; cases hq; exact h'
    · rw [upd_ne hp] at hq; exact a.e q x hq, a.k, fun q h1 h2 => by
    by_cases hp : q = p
    · subst hp; exact absurd h h1
    · rw [upd_ne hp]; exact a.f q h1 h2, a.n⟩
theorem TpOk.off {τ : Tape} (e : m = false) : TpOk m E τ Hb H := fun h => by rw [e] at h; cases h
theorem TpOk.grow {τ : Tape} (t : TpOk m E τ Hb H) (g : Grow false E Hb H Hb' H') : TpOk m E τ Hb' H' := fun h => by
  obtain ⟨cl, a1, a2, a3, a4, a5, a6, a7, a8, a9⟩ := t h
  exact ⟨cl, g.k _ _ a1 (fun z => by cases z), g.k _ _ a2 (fun z => by cases z), a3, g.b _ _ a4, g.f _ (by rw [a1]; exact fun z => by cases z) a5, g.f _ (by rw [a2]; exact fun z => by cases z) a6, a7, a8, a9⟩
theorem TpOk.ent {τ : Tape} (t : TpOk m E τ Hb H) {E' : Ent} (h1 : E'.tp = E.tp) (h2 : E'.lg = E.lg) (h3 : m = true → E'.H E.tp ≠ none ∧ E'.H E.lg ≠ none) : TpOk m E' τ Hb H := fun h => by
  obtain ⟨cl, a1, a2, a3, a4, a5, a6, a7, a8, a9⟩ := t h
  obtain ⟨b1, b2⟩ := h3 h
  refine ⟨cl, ?_, ?_, a3, a4, ?_, ?_, ?_, ?_, ?_⟩ <;> (try rw [h1]) <;> (try rw [h2]) <;> assumption
end
end PD

set_option Elab.async false
set_option linter.all false
set_option maxRecDepth 100000
set_option maxHeartbeats 1000000
namespace PD
open PySem PySem.Spec PyProof.Rows L2

structure StOk (K : PySem.W.Frag) (mg : Str → Option Value) (m : Bool) (E : Ent) (Γ : List Sl) (τ : Tape) (σ : L2.St) (Hb H : Hp) : Prop where
  g : Grow m E E.Hb E.H Hb H
  tp : TpOk m E τ Hb H
  len : Γ.length = σ.length
  dat : ∀ (i : Nat) (d : D), Γ[i]? = some (Sl.dat d) → ∃ v, σ[i]? = some (some v) ∧ Rp K mg Hb v d
  own : ∀ (i : Nat) (ds : List D), Γ[i]? = some (Sl.own ds) → ∃ (p : Addr) (vs : List V), σ[i]? = some (some (V.ref p)) ∧ E.H p = none ∧ Hb p = none ∧ H p = some (.lst vs) ∧ RpA K mg Hb vs ds ∧ vs.length ≤ sizeLine
  apart : ∀ (i j : Nat) (ds es : List D) (p : Addr), i ≠ j → Γ[i]? = some (Sl.own ds) → Γ[j]? = some (Sl.own es) → σ[i]? = some (some (V.ref p)) → σ[j]? ≠ some (some (V.ref p))
  tape : ∀ i : Nat, Γ[i]? = some Sl.tape → m = true ∧ σ[i]? = some (some (V.ref E.tp))

section
variable {K : PySem.W.Frag} {mg : Str → Option Value} {m : Bool} {E : Ent} {Γ : List Sl} {τ τ' : Tape} {σ : L2.St} {Hb H Hb' H' : Hp}
theorem StOk.same (s : StOk K mg m E Γ τ σ Hb H) : Same Hb H := s.g.e
/-- an own list is none of the tape's objects -/
theorem StOk.ownNe (s : StOk K mg m E Γ τ σ Hb H) {p : Addr} (h : E.H p = none) (q : m = true) : p ≠ E.tp ∧ p ≠ E.lg := by
  obtain ⟨cl, _, _, _, _, _, _, _, h1, h2⟩ := s.tp q
  exact ⟨fun e => h1 (e ▸ h), fun e => h2 (e ▸ h)⟩
theorem StOk.grow (s : StOk K mg m E Γ τ σ Hb H) (g : Grow m E Hb H Hb' H') (t : TpOk m E τ' Hb' H') : StOk K mg m E Γ τ' σ Hb' H' where
  g := s.g.trans g
  tp := t
  len := s.len
  dat := fun i d h => by
    obtain ⟨v, h1, h2⟩ := s.dat i d h
    exact ⟨v, h1, h2.mono g.b⟩
  own := fun i ds h => by
    obtain ⟨p, vs, h1, h2, h3, h4, h5, h6⟩ := s.own i ds h
    exact ⟨p, vs, h1, h2, g.f p (by rw [h4]; exact fun z => by cases z) h3, g.k p _ h4 (fun q => s.ownNe h2 q), h5.mono g.b, h6⟩
  apart := s.apart
  tape := s.tape
/-- a slot takes a datum -/
theorem StOk.setDat (s : StOk K mg m E Γ τ σ Hb H) {i : Nat} {v : V} {d : D} (r : Rp K mg Hb v d) : StOk K mg m E (Γ.set i (.dat d)) τ (σ.set i (some v)) Hb H where
  g := s.g
  tp := s.tp
  len := by simp [s.len]
  dat := fun j e h => by
    by_cases hj : i = j
    · subst hj
      rw [List.getElem?_set] at h
      simp only [if_true] at h
      split at h
      · rename_i hl
        cases h
        exact ⟨v, by rw [List.getElem?_set_self (by rw [← s.len]; exact hl)], r⟩
      · cases h
    · rw [List.getElem?_set_ne hj] at h ⊢
      exact s.dat j e h
  own := fun j ds h => by
    by_cases hj : i = j
    · subst hj
      rw [List.getElem?_set] at h
      simp only [if_true] at h
      split at h <;> cases h
    · rw [List.getElem?_set_ne hj] at h ⊢
      exact s.own j ds h
  apart := fun j k ds es p hjk h1 h2 h3 => by
    by_cases hj : i = j
    · subst hj
      rw [List.getElem?_set] at h1
      simp only [if_true] at h1
      split at h1 <;> cases h1
    · by_cases hk : i = k
      · subst hk
        rw [List.getElem?_set] at h2
        simp only [if_true] at h2
        split at h2 <;> cases h2
      · rw [List.getElem?_set_ne hj] at h1 h3
        rw [List.getElem?_set_ne hk] at h2 ⊢
        exact s.apart j k ds es p hjk h1 h2 h3
  tape := fun j h => by
    by_cases hj : i = j
    · subst hj
      rw [List.getElem?_set] at h
      simp only [if_true] at h
      split at h <;> cases h
    · rw [List.getElem?_set_ne hj] at h ⊢
      exact s.tape j h
/-- a slot takes a new list -/
theorem StOk.setOwn (s : StOk K mg m E Γ τ σ Hb H) {i : Nat} {p : Addr} {vs : List V} {ds : List D} (h1 : E.H p = none) (h2 : Hb p = none) (h3 : H p = some (.lst vs)) (h4 : RpA K mg Hb vs ds) (h5 : vs.length ≤ sizeLine)
    (hn : ∀ j es, j ≠ i → Γ[j]? = some (.own es) → σ[j]? ≠ some (some (.ref p))) : StOk K mg m E (Γ.set i (.own ds)) τ (σ.set i (some (.ref p))) Hb H where
  g := s.g
  tp := s.tp
  len := by simp [s.len]
  dat := fun j e h => by
    by_cases hj : i = j
    · subst hj
      rw [List.getElem?_set] at h
      simp only [if_true] at h
      split at h <;> cases h
    · rw [List.getElem?_set_ne hj] at h ⊢
      exact s.dat j e h
  own := fun j es h => by
    by_cases hj : i = j
    · subst hj
      rw [List.getElem?_set] at h
      simp only [if_true] at h
      split at h
      · rename_i hl
        cases h
        exact ⟨p, vs, by rw [List.getElem?_set_self (by rw [← s.len]; exact hl)], h1, h2, h3, h4, h5⟩
      · cases h
    · rw [List.getElem?_set_ne hj] at h ⊢
      exact s.own j es h
  apart := fun j k es fs q hjk e1 e2 e3 => by
    by_cases hj : i = j
    · subst hj
      rw [List.getElem?_set] at e3
      simp only [if_true] at e3
      split at e3
      · cases e3
        rw [List.getElem?_set_ne hjk] at e2 ⊢
        exact hn k fs (Ne.symm hjk) e2
      · cases e3
    · by_cases hk : i = k
      · subst hk
        rw [List.getElem?_set_ne hj] at e1 e3
        intro e4
        rw [List.getElem?_set] at e4
        simp only [if_true] at e4
        split at e4
        · cases e4
          exact hn j es (Ne.symm hj) e1 e3
        · cases e4
      · rw [List.getElem?_set_ne hj] at e1 e3
        rw [List.getElem?_set_ne hk] at e2 ⊢
        exact s.apart j k es fs q hjk e1 e2 e3
  tape := fun j h => by
    by_cases hj : i = j
    · subst hj
      rw [List.getElem?_set] at h
      simp only [if_true] at h
      split at h <;> cases h
    · rw [List.getElem?_set_ne hj] at h ⊢
      exact s.tape j h
/-- an own list is changed -/
theorem StOk.write (s : StOk K mg m E Γ τ σ Hb H) {i : Nat} {p : Addr} {vs : List V} {ds es : List D} (hi : Γ[i]? = some (.own ds)) (hp : σ[i]? = some (some (.ref p))) (h4 : RpA K mg Hb vs es) (h5 : vs.length ≤ sizeLine) :
    StOk K mg m E (Γ.set i (.own es)) τ σ Hb (upd H p (.lst vs)) := by
  obtain ⟨p', vs', e1, e2, e3, e4, e5, e6⟩ := s.own i ds hi
  rw [hp] at e1
  cases e1
  have hb : Same Hb (upd H p (.lst vs)) := fun q o hq => by
    rw [upd_ne (ne_of_none hq e3)]
    exact s.g.e q o hq
  refine ⟨⟨s.g.b, hb, fun q o hq hq2 => ?_, s.g.f, fun q hq => ?_⟩, fun q => ?_, by simp [s.len], fun j d h => ?_, fun j fs h => ?_, fun j k es' fs q hjk a1 a2 a3 => ?_, fun j h => ?_⟩
  · rw [upd_ne (ne_of_none hq e2)]
    exact s.g.k q o hq hq2
  · by_cases hqp : q = p
    · subst hqp; rw [upd_same]; exact fun z => by cases z
    · rw [upd_ne hqp]; exact s.g.n q hq
  · obtain ⟨n1, n2⟩ := s.ownNe e2 q
    obtain ⟨cl, a1, a2, a3⟩ := s.tp q
    exact ⟨cl, by rw [upd_ne (Ne.symm n1)]; exact a1, by rw [upd_ne (Ne.symm n2)]; exact a2, a3⟩
  · by_cases hj : i = j
    · subst hj
      rw [List.getElem?_set] at h
      simp only [if_true] at h
      split at h <;> cases h
    · rw [List.getElem?_set_ne hj] at h
      exact s.dat j d h
  · by_cases hj : i = j
    · subst hj
      rw [List.getElem?_set] at h
      simp only [if_true] at h
      split at h
      · cases h
        exact ⟨p, vs, hp, e2, e3, upd_same, h4, h5⟩
      · cases h
    · rw [List.getElem?_set_ne hj] at h
      obtain ⟨q, ws, b1, b2, b3, b4, b5, b6⟩ := s.own j fs h
      have hq : q ≠ p := fun e => s.apart i j ds fs p hj hi h hp (by rw [← e]; exact b1)
      exact ⟨q, ws, b1, b2, b3, by rw [upd_ne hq]; exact b4, b5, b6⟩
  · have o1 : ∃ ds', Γ[j]? = some (.own ds') := by
      by_cases hj : i = j
      · subst hj; exact ⟨ds, hi⟩
      · rw [List.getElem?_set_ne hj] at a1; exact ⟨_, a1⟩
    have o2 : ∃ ds', Γ[k]? = some (.own ds') := by
      by_cases hk : i = k
      · subst hk; exact ⟨ds, hi⟩
      · rw [List.getElem?_set_ne hk] at a2; exact ⟨_, a2⟩
    obtain ⟨d1, o1⟩ := o1
    obtain ⟨d2, o2⟩ := o2
    exact s.apart j k d1 d2 q hjk o1 o2 a3
  · by_cases hj : i = j
    · subst hj
      rw [List.getElem?_set] at h
      simp only [if_true] at h
      split at h <;> cases h
    · rw [List.getElem?_set_ne hj] at h
      exact s.tape j h
/-- an own list becomes a datum: it will not change any more -/
theorem StOk.freeze (s : StOk K mg m E Γ τ σ Hb H) {i : Nat} {ds : List D} (hi : Γ[i]? = some (.own ds)) : ∃ Hb', Same Hb Hb' ∧ StOk K mg m E (Γ.set i (.dat (.lst ds))) τ σ Hb' H := by
  obtain ⟨p, vs, e1, e2, e3, e4, e5, e6⟩ := s.own i ds hi
  have sb : Same Hb (upd Hb p (.lst vs)) := same_new e3
  refine ⟨upd Hb p (.lst vs), sb, s.g.freeze e2 e3 e4, fun q => ?_, by simp [s.len], fun j d h => ?_, fun j fs h => ?_, fun j k es' fs q hjk a1 a2 a3 => ?_, fun j h => ?_⟩
  · obtain ⟨n1, n2⟩ := s.ownNe e2 q
    obtain ⟨cl, a1, a2, a3, a4, a5, a6, a7⟩ := s.tp q
    exact ⟨cl, a1, a2, a3, sb _ _ a4, by rw [upd_ne (Ne.symm n1)]; exact a5, by rw [upd_ne (Ne.symm n2)]; exact a6, a7⟩
  · by_cases hj : i = j
    · subst hj
      rw [List.getElem?_set] at h
      simp only [if_true] at h
      split at h
      · cases h
        exact ⟨.ref p, e1, .lst upd_same e6 (e5.mono sb)⟩
      · cases h
    · rw [List.getElem?_set_ne hj] at h
      obtain ⟨v, b1, b2⟩ := s.dat j d h
      exact ⟨v, b1, b2.mono sb⟩
  · by_cases hj : i = j
    · subst hj
      rw [List.getElem?_set] at h
      simp only [if_true] at h
      split at h <;> cases h
    · rw [List.getElem?_set_ne hj] at h
      obtain ⟨q, ws, b1, b2, b3, b4, b5, b6⟩ := s.own j fs h
      have hq : q ≠ p := fun e => s.apart i j ds fs p hj hi h e1 (by rw [← e]; exact b1)
      exact ⟨q, ws, b1, b2, by rw [upd_ne hq]; exact b3, b4, b5.mono sb, b6⟩
  · have o1 : ∃ ds', Γ[j]? = some (.own ds') := by
      by_cases hj : i = j
      · subst hj; exact ⟨ds, hi⟩
      · rw [List.getElem?_set_ne hj] at a1; exact ⟨_, a1⟩
    have o2 : ∃ ds', Γ[k]? = some (.own ds') := by
      by_cases hk : i = k
      · subst hk; exact ⟨ds, hi⟩
      · rw [List.getElem?_set_ne hk] at a2; exact ⟨_, a2⟩
    obtain ⟨d1, o1⟩ := o1
    obtain ⟨d2, o2⟩ := o2
    exact s.apart j k d1 d2 q hjk o1 o2 a3
  · by_cases hj : i = j
    · subst hj
      rw [List.getElem?_set] at h
      simp only [if_true] at h
      split at h <;> cases h
    · rw [List.getElem?_set_ne hj] at h
      exact s.tape j h
/-- slots are forgotten -/
theorem StOk.sub {Γ' : List Sl} {σ' : L2.St} (s : StOk K mg m E Γ τ σ Hb H) (l : Γ'.length = σ'.length) (h : ∀ (i : Nat) (sl : Sl), Γ'[i]? = some sl → sl ≠ Sl.no → Γ[i]? = some sl ∧ σ'[i]? = σ[i]?) : StOk K mg m E Γ' τ σ' Hb H where
  g := s.g
  tp := s.tp
  len := l
  dat := fun i d e => by
    obtain ⟨a, b⟩ := h i _ e (fun z => by cases z)
    rw [b]; exact s.dat i d a
  own := fun i d e => by
    obtain ⟨a, b⟩ := h i _ e (fun z => by cases z)
    rw [b]; exact s.own i d a
  apart := fun i j ds es p hij a1 a2 a3 => by
    obtain ⟨a, b⟩ := h i _ a1 (fun z => by cases z)
    obtain ⟨a', b'⟩ := h j _ a2 (fun z => by cases z)
    rw [b'] ; rw [b] at a3
    exact s.apart i j ds es p hij a a' a3
  tape := fun i e => by
    obtain ⟨a, b⟩ := h i _ e (fun z => by cases z)
    rw [b]; exact s.tape i a
end

/-! ### the judgements -/
/-- the weakest reading of an expression, a test, arguments, statements -/
def uE (X : Cx) (e : Expr) : TE := fun σ H Q => ∀ pins s, Inv X pins σ H s → wpAny (model X.prog X.w) X.A (eval e X.env) (EP X pins σ Q) X.xe s
def uT (X : Cx) (e : Expr) : TT := fun σ H Q => ∀ pins s, Inv X pins σ H s → wpAny (model X.prog X.w) X.A (isTrue e X.env (eval e X.env)) (TP X pins σ Q) X.xe s
def uA (X : Cx) (es : List Expr) : TA := fun σ H Q => ∀ pos pins s, Inv X pins σ H s → wpAny (model X.prog X.w) X.A (spliced (backTo pos (starEach es X.env))) (AP X pins σ Q) X.xe s
def uS (X : Cx) (st : Stmt) : TS := fun D σ H => ∀ pins s, Inv X pins σ H s → wpAny (model X.prog X.w) X.A (exec st X.env) (SP X pins D) X.xe s
def uSs (X : Cx) (st : List Stmt) : TS := fun D σ H => ∀ pins s, Inv X pins σ H s → wpAny (model X.prog X.w) X.A (execs st X.env) (SP X pins D) X.xe s
theorem pe_u {X : Cx} {e : Expr} : PE X e (uE X e) := ⟨fun pins s _ _ _ I h => h pins s I⟩
theorem pt_u {X : Cx} {e : Expr} : PT X e (uT X e) := ⟨fun pins s _ _ _ I h => h pins s I⟩
theorem pa_u {X : Cx} {es : List Expr} : PA X es (uA X es) := ⟨fun pos pins s _ _ _ I h => h pos pins s I⟩
theorem ps_u {X : Cx} {st : Stmt} : PS X st (uS X st) := ⟨fun pins s _ _ _ I h => h pins s I⟩
theorem pss_u {X : Cx} {st : List Stmt} : PSs X st (uSs X st) := ⟨fun pins s _ _ _ I h => h pins s I⟩
section
variable {X : Cx} {e : Expr} {es : List Expr} {st : Stmt} {sts : List Stmt}
theorem u_of_pe {t : TE} (h : PE X e t) {σ : L2.St} {H : Hp} {Q : VK} (q : t σ H Q) : uE X e σ H Q := fun pins s I => h.run pins s σ H Q I q
theorem u_of_pt {t : TT} (h : PT X e t) {σ : L2.St} {H : Hp} {Q : Bool → Hp → Prop} (q : t σ H Q) : uT X e σ H Q := fun pins s I => h.run pins s σ H Q I q
theorem u_of_pa {t : TA} (h : PA X es t) {σ : L2.St} {H : Hp} {Q : List V → Hp → Prop} (q : t σ H Q) : uA X es σ H Q := fun pos pins s I => h.run pos pins s σ H Q I q
theorem u_of_ps {t : TS} (h : PS X st t) {σ : L2.St} {H : Hp} {D : Ends} (q : t D σ H) : uS X st D σ H := fun pins s I => h.run pins s σ H D I q
theorem u_of_pss {t : TS} (h : PSs X sts t) {σ : L2.St} {H : Hp} {D : Ends} (q : t D σ H) : uSs X sts D σ H := fun pins s I => h.run pins s σ H D I q
end

/-- what an expression may give: a datum; a list, maybe one's own that will change later -/
inductive Opd where
  | e (d : D)
  | l (ds : List D)
def Opd.d : Opd → D
  | .e d => d
  | .l ds => .lst ds
def OpdOk (K : PySem.W.Frag) (mg : Str → Option Value) (m : Bool) (E : Ent) (Hb H : Hp) (v : V) : Opd → Prop
  | .e d => Rp K mg Hb v d
  | .l ds => ∃ a vs, v = .ref a ∧ H a = some (.lst vs) ∧ vs.length ≤ sizeLine ∧ RpA K mg Hb vs ds ∧ (m = true → a ≠ E.tp ∧ a ≠ E.lg)
theorem OpdOk.grow {K : PySem.W.Frag} {mg : Str → Option Value} {m : Bool} {E : Ent} {Hb H Hb' H' : Hp} {v : V} {o : Opd} (h : OpdOk K mg m E Hb H v o) (g : Grow m E Hb H Hb' H') : OpdOk K mg m E Hb' H' v o := by
  cases o with
  | e d => exact Rp.mono g.b h
  | l ds =>
    obtain ⟨a, vs, h1, h2, h3, h4, h5⟩ := h
    exact ⟨a, vs, h1, g.k a _ h2 h5, h3, h4.mono g.b, h5⟩
/-- as it stands now it is that datum -/
theorem OpdOk.rp {K : PySem.W.Frag} {mg : Str → Option Value} {m : Bool} {E : Ent} {Hb H : Hp} {v : V} {o : Opd} (h : OpdOk K mg m E Hb H v o) (e : Same Hb H) : Rp K mg H v o.d := by
  cases o with
  | e d => exact Rp.mono e h
  | l ds =>
    obtain ⟨a, vs, h1, h2, h3, h4, h5⟩ := h
    subst h1
    exact .lst h2 h3 (h4.mono e)
def GO (X : Cx) (m : Bool) (e : Expr) (Γ : List Sl) (τ : Tape) (o : Opd) (τ' : Tape) : Prop :=
  ∀ E σ Hb H Q, StOk X.K X.mg m E Γ τ σ Hb H → (∀ v Hb' H', Grow m E Hb H Hb' H' → TpOk m E τ' Hb' H' → OpdOk X.K X.mg m E Hb' H' v o → Q v H') → uE X e σ H Q
/-- e gives the datum d, the tape goes from τ to τ' -/
abbrev GE (X : Cx) (m : Bool) (e : Expr) (Γ : List Sl) (τ : Tape) (d : D) (τ' : Tape) : Prop := GO X m e Γ τ (.e d) τ'
/-- e gives a list of ds -/
abbrev GL (X : Cx) (m : Bool) (e : Expr) (Γ : List Sl) (τ : Tape) (ds : List D) (τ' : Tape) : Prop := GO X m e Γ τ (.l ds) τ'
/-- e gives a new list -/
def GN (X : Cx) (m : Bool) (e : Expr) (Γ : List Sl) (τ : Tape) (ds : List D) (τ' : Tape) : Prop :=
  ∀ E σ Hb H Q, StOk X.K X.mg m E Γ τ σ Hb H → (∀ p vs Hb' H', Grow m E Hb H Hb' H' → TpOk m E τ' Hb' H' → H p = none → Hb' p = none → H' p = some (.lst vs) → vs.length ≤ sizeLine → RpA X.K X.mg Hb' vs ds → Q (.ref p) H') → uE X e σ H Q
/-- a test's answer -/
def GT (X : Cx) (m : Bool) (e : Expr) (Γ : List Sl) (τ : Tape) (b : Bool) (τ' : Tape) : Prop :=
  ∀ E σ Hb H Q, StOk X.K X.mg m E Γ τ σ Hb H → (∀ Hb' H', Grow m E Hb H Hb' H' → TpOk m E τ' Hb' H' → Q b H') → uT X e σ H Q
inductive Out where
  | nx (Γ : List Sl) (τ : Tape)
  | rt (d : D) (τ : Tape)
  | bk (Γ : List Sl) (τ : Tape)
  | ct (Γ : List Sl) (τ : Tape)
structure Hnd (X : Cx) (m : Bool) (E : Ent) (P : Out → Prop) (D : Ends) : Prop where
  nx : ∀ Γ τ σ Hb H, P (.nx Γ τ) → StOk X.K X.mg m E Γ τ σ Hb H → D.nx σ H
  rt : ∀ d τ v Hb H, P (.rt d τ) → Grow m E E.Hb E.H Hb H → TpOk m E τ Hb H → Rp X.K X.mg Hb v d → D.rt v H
  bk : ∀ Γ τ σ Hb H, P (.bk Γ τ) → StOk X.K X.mg m E Γ τ σ Hb H → D.bk σ H
  ct : ∀ Γ τ σ Hb H, P (.ct Γ τ) → StOk X.K X.mg m E Γ τ σ Hb H → D.ct σ H
def GS (X : Cx) (m : Bool) (st : Stmt) (Γ : List Sl) (τ : Tape) (P : Out → Prop) : Prop :=
  ∀ E σ Hb H D, StOk X.K X.mg m E Γ τ σ Hb H → Hnd X m E P D → uS X st D σ H
def GSs (X : Cx) (m : Bool) (sts : List Stmt) (Γ : List Sl) (τ : Tape) (P : Out → Prop) : Prop :=
  ∀ E σ Hb H D, StOk X.K X.mg m E Γ τ σ Hb H → Hnd X m E P D → uSs X sts D σ H
end PD

set_option Elab.async false
set_option linter.all false
set_option maxRecDepth 100000
set_option maxHeartbeats 1000000
namespace PD
open PySem PySem.Spec PyProof.Rows L2

/-- the built-ins' names are not taken by the module -/
structure Bt (mg : Str → Option Value) : Prop where
  len : mg "len" = none
  min : mg "min" = none
  max : mg "max" = none
  sum : mg "sum" = none
  abs : mg "abs" = none
  int : mg "int" = none
  list : mg "list" = none
  tuple : mg "tuple" = none
  range : mg "range" = none
  enumerate : mg "enumerate" = none
  zip : mg "zip" = none
  sorted : mg "sorted" = none
  set : mg "set" = none
  any : mg "any" = none
  all : mg "all" = none
  isinstance : mg "isinstance" = none
  bool : mg "bool" = none
  str : mg "str" = none
  divmod : mg "divmod" = none
  dict : mg "dict" = none
/-- a name of the def at slot i -/
structure Nm (X : Cx) (i : Nat) (x : Str) : Prop where
  n : X.N[i]? = some x
  v : Vis X.env.scope x
  d : (x == ("__debug__" : Str)) = false
  c : (x == ("__classdict__" : Str)) = false

section
variable {X : Cx} {m : Bool} {Γ : List Sl} {τ τ' τ1 τ2 τ3 : Tape} {a b c e : Expr} {d d1 d2 d3 : D} {o o1 o2 o3 : Opd} {pos p1 p2 p3 p4 : Pos} {k : Nat} {i j : Nat} {x : Str}

theorem GO.is {o' : Opd} (h : GO X m e Γ τ o τ') (q : o = o') : GO X m e Γ τ o' τ' := q ▸ h
theorem GT.is {k k' : Bool} (h : GT X m e Γ τ k τ') (q : k = k') : GT X m e Γ τ k' τ' := q ▸ h
theorem GN.is {ds ds' : List D} (h : GN X m e Γ τ ds τ') (q : ds = ds') : GN X m e Γ τ ds' τ' := q ▸ h
theorem ge_var (n : Nm X i x) (h : Γ[i]? = some (.dat d)) : GE X m (.Name x pos) Γ τ d τ := by
  intro E σ Hb H Q S q
  obtain ⟨v, h1, h2⟩ := S.dat i d h
  exact u_of_pe (pe_var n.n n.v n.d n.c) ⟨v, h1, q v Hb H (Grow.refl S.same) S.tp h2⟩
/-- one's own list, read -/
theorem gl_own {ds : List D} (n : Nm X i x) (h : Γ[i]? = some (.own ds)) : GL X m (.Name x pos) Γ τ ds τ := by
  intro E σ Hb H Q S q
  obtain ⟨p, vs, h1, h2, h3, h4, h5, h6⟩ := S.own i ds h
  exact u_of_pe (pe_var n.n n.v n.d n.c) ⟨.ref p, h1, q _ Hb H (Grow.refl S.same) S.tp ⟨p, vs, rfl, h4, h6, h5, fun z => S.ownNe h2 z⟩⟩
theorem ge_int {z : Int} : GE X m (.Constant (.int z) k pos) Γ τ (.int z) τ := fun E σ Hb H Q S q => u_of_pe pe_int (q _ Hb H (Grow.refl S.same) S.tp (Rp.int z))
theorem ge_bl {z : Bool} : GE X m (.Constant (.bool z) k pos) Γ τ (.bl z) τ := fun E σ Hb H Q S q => u_of_pe pe_bl (q _ Hb H (Grow.refl S.same) S.tp (Rp.bl z))
theorem ge_non : GE X m (.Constant .none k pos) Γ τ .non τ := fun E σ Hb H Q S q => u_of_pe pe_non (q _ Hb H (Grow.refl S.same) S.tp Rp.non)
theorem ge_str {z : Str} : GE X m (.Constant (.str z) k pos) Γ τ (.str z) τ := fun E σ Hb H Q S q => u_of_pe pe_str (q _ Hb H (Grow.refl S.same) S.tp (Rp.str z))
/-- a constant of the module that is a number -/
theorem ge_glob {z : Int} {t : Tok} (hg : Gl X x) (hm : X.mg x = some (.int z t)) (hd : (x == ("__debug__" : Str)) = false := by decide) : GE X m (.Name x pos) Γ τ (.int z) τ :=
  fun E σ Hb H Q S q => u_of_pe (pe_glob (v := .int z) hg hm ⟨_, rfl⟩ hd) (q _ Hb H (Grow.refl S.same) S.tp (Rp.int z))

def Opd.isNo : Opd → Bool
  | .e .non => true
  | _ => false
/-! two operands -/
/-- the operator on values: what it gives of data, the heap as it was -/
def RG (X : Cx) (m : Bool) (r : R2) (o1 o2 : Opd) (d : D) : Prop := ∀ (E : Ent) (Hb H : Hp) (v w : V) (Q : VK), Same Hb H → OpdOk X.K X.mg m E Hb H v o1 → OpdOk X.K X.mg m E Hb H w o2 → (∀ u, Rp X.K X.mg Hb u d → Q u H) → r v w H Q
theorem ge_bin {op : Operator} {r : R2} (ho : OpR X (binaryOp op) r) (hr : RG X m r o1 o2 d) (ha : GO X m a Γ τ o1 τ1) (hb : GO X m b Γ τ1 o2 τ2) : GE X m (.BinOp a op b pos) Γ τ d τ2 := by
  intro E σ Hb H Q S q
  refine u_of_pe (pe_op ho pe_u pe_u) (ha E σ Hb H _ S fun v Hb1 H1 g1 t1 r1 => ?_)
  refine hb E σ Hb1 H1 _ (S.grow g1 t1) fun w Hb2 H2 g2 t2 r2 => ?_
  exact hr E Hb2 H2 v w Q g2.e (r1.grow g2) r2 fun u ru => q u Hb2 H2 (g1.trans g2) t2 ru
theorem ge_cmp {op : CmpOp} {r : R2} (ho : OpR X (compareOp op) r) (hr : RG X m r o1 o2 d) (hn : behindInMarks op b = false) (ha : GO X m a Γ τ o1 τ1) (hb : GO X m b Γ τ1 o2 τ2) : GE X m (.Compare a [op] [b] pos) Γ τ d τ2 := by
  intro E σ Hb H Q S q
  refine u_of_pe (pe_cmpR ho pe_u pe_u hn) (ha E σ Hb H _ S fun v Hb1 H1 g1 t1 r1 => ?_)
  refine hb E σ Hb1 H1 _ (S.grow g1 t1) fun w Hb2 H2 g2 t2 r2 => ?_
  exact hr E Hb2 H2 v w Q g2.e (r1.grow g2) r2 fun u ru => q u Hb2 H2 (g1.trans g2) t2 ru
theorem gt_cmp {op : CmpOp} {r : R2} {z : Bool} (ho : OpR X (compareOp op) r) (hr : RG X m r o1 o2 (.bl z)) (hn : behindInMarks op b = false) (ha : GO X m a Γ τ o1 τ1) (hb : GO X m b Γ τ1 o2 τ2) : GT X m (.Compare a [op] [b] pos) Γ τ z τ2 := by
  intro E σ Hb H Q S q
  refine u_of_pt (pt_cmpR ho pe_u pe_u hn) (ha E σ Hb H _ S fun v Hb1 H1 g1 t1 r1 => ?_)
  refine hb E σ Hb1 H1 _ (S.grow g1 t1) fun w Hb2 H2 g2 t2 r2 => ?_
  exact hr E Hb2 H2 v w _ g2.e (r1.grow g2) r2 fun u ru => ⟨z, ru.bl_inv, q Hb2 H2 (g1.trans g2) t2⟩
theorem ge_un {op : UnaryOp} {r : V → Hp → VK → Prop} (ho : UnR X (unaryOp op) r) (hr : ∀ (E : Ent) (Hb H : Hp) (v : V) (Q : VK), Same Hb H → OpdOk X.K X.mg m E Hb H v o1 → (∀ u, Rp X.K X.mg Hb u d → Q u H) → r v H Q) (ha : GO X m a Γ τ o1 τ1) : GE X m (.UnaryOp op a pos) Γ τ d τ1 := by
  intro E σ Hb H Q S q
  refine u_of_pe (pe_un ho pe_u) (ha E σ Hb H _ S fun v Hb1 H1 g1 t1 r1 => ?_)
  exact hr E Hb1 H1 v Q g1.e r1 fun u ru => q u Hb1 H1 g1 t1 ru

theorem rg_I0 {g : Int → Int → V} {f : Int → Int → D} {z w : Int} (h : ∀ K mg H, Rp K mg H (g z w) (f z w)) : RG X m (rI0 g) (.e (.int z)) (.e (.int w)) (f z w) := by
  intro E Hb H v u Q _ r1 r2 q
  cases (Rp.int_inv r1); cases (Rp.int_inv r2)
  exact ⟨z, w, rfl, rfl, q _ (h _ _ _)⟩
theorem rg_I {C : Int → Int → Prop} {g : Int → Int → V} {f : Int → Int → D} {z w : Int} (h : ∀ K mg H, Rp K mg H (g z w) (f z w)) (hc : C z w) : RG X m (rI C g) (.e (.int z)) (.e (.int w)) (f z w) := by
  intro E Hb H v u Q _ r1 r2 q
  cases (Rp.int_inv r1); cases (Rp.int_inv r2)
  exact ⟨z, w, rfl, rfl, hc, q _ (h _ _ _)⟩
variable {z w : Int}
theorem ge_add (ha : GE X m a Γ τ (.int z) τ1) (hb : GE X m b Γ τ1 (.int w) τ2) : GE X m (.BinOp a .Add b pos) Γ τ (.int (z + w)) τ2 :=
  ge_bin op_add (rg_I0 (f := fun i j => .int (i + j)) fun _ _ _ => Rp.int _) ha hb
theorem ge_sub (ha : GE X m a Γ τ (.int z) τ1) (hb : GE X m b Γ τ1 (.int w) τ2) : GE X m (.BinOp a .Sub b pos) Γ τ (.int (z - w)) τ2 :=
  ge_bin op_sub (rg_I0 (f := fun i j => .int (i - j)) fun _ _ _ => Rp.int _) ha hb
theorem ge_mul (hc : CMul z w) (ha : GE X m a Γ τ (.int z) τ1) (hb : GE X m b Γ τ1 (.int w) τ2) : GE X m (.BinOp a .Mult b pos) Γ τ (.int (z * w)) τ2 :=
  ge_bin op_mul (rg_I (f := fun i j => .int (i * j)) (fun _ _ _ => Rp.int _) hc) ha hb
theorem ge_mod (hc : 0 < w) (ha : GE X m a Γ τ (.int z) τ1) (hb : GE X m b Γ τ1 (.int w) τ2) : GE X m (.BinOp a .Mod b pos) Γ τ (.int (z % w)) τ2 :=
  ge_bin op_mod (rg_I (C := fun _ j => 0 < j) (f := fun i j => .int (i % j)) (fun _ _ _ => Rp.int _) hc) ha hb
theorem ge_fdiv (hc : CDiv z w) (ha : GE X m a Γ τ (.int z) τ1) (hb : GE X m b Γ τ1 (.int w) τ2) : GE X m (.BinOp a .FloorDiv b pos) Γ τ (.int (z / w)) τ2 :=
  ge_bin op_fdiv (rg_I (f := fun i j => .int (i / j)) (fun _ _ _ => Rp.int _) hc) ha hb
theorem ge_pow (hc : CPow z w) (ha : GE X m a Γ τ (.int z) τ1) (hb : GE X m b Γ τ1 (.int w) τ2) : GE X m (.BinOp a .Pow b pos) Γ τ (.int (z ^ w.toNat)) τ2 :=
  ge_bin op_pow (rg_I (f := fun i j => .int (i ^ j.toNat)) (fun _ _ _ => Rp.int _) hc) ha hb
theorem ge_band (ha : GE X m a Γ τ (.int z) τ1) (hb : GE X m b Γ τ1 (.int w) τ2) : GE X m (.BinOp a .BitAnd b pos) Γ τ (.int (Builtin.bitAnd z w)) τ2 :=
  ge_bin op_and (rg_I0 (f := fun i j => .int (Builtin.bitAnd i j)) fun _ _ _ => Rp.int _) ha hb
theorem ge_neg (ha : GE X m a Γ τ (.int z) τ1) : GE X m (.UnaryOp .USub a pos) Γ τ (.int (-z)) τ1 :=
  ge_un un_neg (fun E Hb H v Q _ r q => by cases (Rp.int_inv r); exact ⟨z, rfl, q _ (Rp.int _)⟩) ha

/-! comparisons: a value (ge_) and a test (gt_) -/
theorem rg_lt : RG X m (rI0 fun i j => .bl (decide (i < j))) (.e (.int z)) (.e (.int w)) (.bl (decide (z < w))) := rg_I0 (f := fun i j => .bl (decide (i < j))) fun _ _ _ => Rp.bl _
theorem rg_le : RG X m (rI0 fun i j => .bl (decide (i ≤ j))) (.e (.int z)) (.e (.int w)) (.bl (decide (z ≤ w))) := rg_I0 (f := fun i j => .bl (decide (i ≤ j))) fun _ _ _ => Rp.bl _
theorem rg_gt : RG X m (rI0 fun i j => .bl (decide (j < i))) (.e (.int z)) (.e (.int w)) (.bl (decide (w < z))) := rg_I0 (f := fun i j => .bl (decide (j < i))) fun _ _ _ => Rp.bl _
theorem rg_ge : RG X m (rI0 fun i j => .bl (decide (j ≤ i))) (.e (.int z)) (.e (.int w)) (.bl (decide (w ≤ z))) := rg_I0 (f := fun i j => .bl (decide (j ≤ i))) fun _ _ _ => Rp.bl _
/-- == of data -/
theorem rg_eq {s : Bool} {n : Nat} {q : Bool} (h1 : Sh s n o1.d) (h2 : Sh s n o2.d) (hn : n ≤ 60) (hq : q = true ↔ o1.d = o2.d) : RG X m (rEqD X.K) o1 o2 (.bl q) := by
  intro E Hb H v u Q e r1 r2 k
  refine ⟨o1.d.py, o2.d.py, Rp.dp h1 (r1.rp e), Rp.dp h2 (r2.rp e), sh_shaped h1 hn, sh_shaped h2 hn, ?_⟩
  have : PyData.eqv o1.d.py o2.d.py = q := by
    rw [Bool.eq_iff_iff, eqv_iff h1 h2, hq]
  rw [this]
  exact k _ (Rp.bl q)
theorem rg_ne {s : Bool} {n : Nat} {q : Bool} (h1 : Sh s n o1.d) (h2 : Sh s n o2.d) (hn : n ≤ 60) (hq : q = true ↔ ¬ o1.d = o2.d) : RG X m (rNeD X.K) o1 o2 (.bl q) := by
  intro E Hb H v u Q e r1 r2 k
  refine ⟨o1.d.py, o2.d.py, Rp.dp h1 (r1.rp e), Rp.dp h2 (r2.rp e), sh_shaped h1 hn, sh_shaped h2 hn, ?_⟩
  have : (!PyData.eqv o1.d.py o2.d.py) = q := by
    rw [Bool.eq_iff_iff, hq, ← eqv_iff h1 h2]
    simp
  rw [this]
  exact k _ (Rp.bl q)
theorem rg_isN : RG X m (fun x y H Q => y = V.non ∧ Q (.bl (decide (x = .non))) H) o1 (.e .non) (.bl o1.isNo) := by
  intro E Hb H v u Q e r1 r2 k
  refine ⟨Rp.non_inv r2, ?_⟩
  cases o1 with
  | l ds =>
    obtain ⟨a, vs, rfl, _⟩ := r1
    exact k _ (Rp.bl _)
  | e d =>
    have r1 : Rp X.K X.mg Hb v d := r1
    cases r1 <;> exact k _ (Rp.bl _)
theorem rg_notN : RG X m (fun x y H Q => y = V.non ∧ Q (.bl (!decide (x = .non))) H) o1 (.e .non) (.bl (!o1.isNo)) := by
  intro E Hb H v u Q e r1 r2 k
  refine ⟨Rp.non_inv r2, ?_⟩
  cases o1 with
  | l ds =>
    obtain ⟨a, vs, rfl, _⟩ := r1
    exact k _ (Rp.bl _)
  | e d =>
    have r1 : Rp X.K X.mg Hb v d := r1
    cases r1 <;> exact k _ (Rp.bl _)
theorem rg_isB {s t : Bool} : RG X m rIsB (.e (.bl s)) (.e (.bl t)) (.bl (decide (s = t))) := by
  intro E Hb H v u Q e r1 r2 k
  cases (Rp.bl_inv r1); cases (Rp.bl_inv r2)
  exact ⟨s, t, rfl, rfl, k _ (Rp.bl _)⟩
theorem rg_notB {s t : Bool} : RG X m rNotB (.e (.bl s)) (.e (.bl t)) (.bl (!decide (s = t))) := by
  intro E Hb H v u Q e r1 r2 k
  cases (Rp.bl_inv r1); cases (Rp.bl_inv r2)
  exact ⟨s, t, rfl, rfl, k _ (Rp.bl _)⟩
theorem ge_lt (ha : GE X m a Γ τ (.int z) τ1) (hb : GE X m b Γ τ1 (.int w) τ2) : GE X m (.Compare a [.Lt] [b] pos) Γ τ (.bl (decide (z < w))) τ2 := ge_cmp op_lt rg_lt (nomark _) ha hb
theorem ge_le (ha : GE X m a Γ τ (.int z) τ1) (hb : GE X m b Γ τ1 (.int w) τ2) : GE X m (.Compare a [.LtE] [b] pos) Γ τ (.bl (decide (z ≤ w))) τ2 := ge_cmp op_le rg_le (nomark _) ha hb
theorem ge_gt (ha : GE X m a Γ τ (.int z) τ1) (hb : GE X m b Γ τ1 (.int w) τ2) : GE X m (.Compare a [.Gt] [b] pos) Γ τ (.bl (decide (w < z))) τ2 := ge_cmp op_gt rg_gt (nomark _) ha hb
theorem ge_ge (ha : GE X m a Γ τ (.int z) τ1) (hb : GE X m b Γ τ1 (.int w) τ2) : GE X m (.Compare a [.GtE] [b] pos) Γ τ (.bl (decide (w ≤ z))) τ2 := ge_cmp op_ge rg_ge (nomark _) ha hb
theorem gt_lt (ha : GE X m a Γ τ (.int z) τ1) (hb : GE X m b Γ τ1 (.int w) τ2) : GT X m (.Compare a [.Lt] [b] pos) Γ τ (decide (z < w)) τ2 := gt_cmp op_lt rg_lt (nomark _) ha hb
theorem gt_le (ha : GE X m a Γ τ (.int z) τ1) (hb : GE X m b Γ τ1 (.int w) τ2) : GT X m (.Compare a [.LtE] [b] pos) Γ τ (decide (z ≤ w)) τ2 := gt_cmp op_le rg_le (nomark _) ha hb
theorem gt_gt (ha : GE X m a Γ τ (.int z) τ1) (hb : GE X m b Γ τ1 (.int w) τ2) : GT X m (.Compare a [.Gt] [b] pos) Γ τ (decide (w < z)) τ2 := gt_cmp op_gt rg_gt (nomark _) ha hb
theorem gt_ge (ha : GE X m a Γ τ (.int z) τ1) (hb : GE X m b Γ τ1 (.int w) τ2) : GT X m (.Compare a [.GtE] [b] pos) Γ τ (decide (w ≤ z)) τ2 := gt_cmp op_ge rg_ge (nomark _) ha hb
/-- == of whole numbers -/
theorem ge_eqI {kk : Nat} (hr : Room kk X.A) (ha : GE X m a Γ τ (.int z) τ1) (hb : GE X m b Γ τ1 (.int w) τ2) : GE X m (.Compare a [.Eq] [b] pos) Γ τ (.bl (decide (z = w))) τ2 :=
  ge_cmp (op_eqD hr.units) (rg_eq (s := true) (n := 0) (o1 := .e (.int z)) (o2 := .e (.int w)) rfl rfl (by decide) (by simp [Opd.d])) (nomark _) ha hb
theorem gt_eqI {kk : Nat} (hr : Room kk X.A) (ha : GE X m a Γ τ (.int z) τ1) (hb : GE X m b Γ τ1 (.int w) τ2) : GT X m (.Compare a [.Eq] [b] pos) Γ τ (decide (z = w)) τ2 :=
  gt_cmp (op_eqD hr.units) (rg_eq (s := true) (n := 0) (o1 := .e (.int z)) (o2 := .e (.int w)) rfl rfl (by decide) (by simp [Opd.d])) (nomark _) ha hb
theorem ge_neI {kk : Nat} (hr : Room kk X.A) (ha : GE X m a Γ τ (.int z) τ1) (hb : GE X m b Γ τ1 (.int w) τ2) : GE X m (.Compare a [.NotEq] [b] pos) Γ τ (.bl (!decide (z = w))) τ2 :=
  ge_cmp (op_neD hr.units) (rg_ne (s := true) (n := 0) (o1 := .e (.int z)) (o2 := .e (.int w)) rfl rfl (by decide) (by simp [Opd.d])) (nomark _) ha hb
theorem gt_neI {kk : Nat} (hr : Room kk X.A) (ha : GE X m a Γ τ (.int z) τ1) (hb : GE X m b Γ τ1 (.int w) τ2) : GT X m (.Compare a [.NotEq] [b] pos) Γ τ (!decide (z = w)) τ2 :=
  gt_cmp (op_neD hr.units) (rg_ne (s := true) (n := 0) (o1 := .e (.int z)) (o2 := .e (.int w)) rfl rfl (by decide) (by simp [Opd.d])) (nomark _) ha hb
/-- == of texts -/
theorem gt_eqS {kk : Nat} {s t : Str} (hr : Room kk X.A) (h1 : PyData.canLay0 (.str s) = true) (h2 : PyData.canLay0 (.str t) = true) (ha : GE X m a Γ τ (.str s) τ1) (hb : GE X m b Γ τ1 (.str t) τ2) : GT X m (.Compare a [.Eq] [b] pos) Γ τ (decide (s = t)) τ2 :=
  gt_cmp (op_eqD hr.units) (rg_eq (s := true) (n := 0) (o1 := .e (.str s)) (o2 := .e (.str t)) h1 h2 (by decide) (by simp [Opd.d])) (nomark _) ha hb
/-- == of any data -/
theorem ge_eqD {kk : Nat} {s : Bool} {n : Nat} (q : Bool) (hr : Room kk X.A) (h1 : Sh s n o1.d) (h2 : Sh s n o2.d) (hn : n ≤ 60) (hq : q = true ↔ o1.d = o2.d) (ha : GO X m a Γ τ o1 τ1) (hb : GO X m b Γ τ1 o2 τ2) : GE X m (.Compare a [.Eq] [b] pos) Γ τ (.bl q) τ2 :=
  ge_cmp (op_eqD hr.units) (rg_eq h1 h2 hn hq) (nomark _) ha hb
theorem gt_eqD {kk : Nat} {s : Bool} {n : Nat} (q : Bool) (hr : Room kk X.A) (h1 : Sh s n o1.d) (h2 : Sh s n o2.d) (hn : n ≤ 60) (hq : q = true ↔ o1.d = o2.d) (ha : GO X m a Γ τ o1 τ1) (hb : GO X m b Γ τ1 o2 τ2) : GT X m (.Compare a [.Eq] [b] pos) Γ τ q τ2 :=
  gt_cmp (op_eqD hr.units) (rg_eq h1 h2 hn hq) (nomark _) ha hb
theorem ge_neD {kk : Nat} {s : Bool} {n : Nat} (q : Bool) (hr : Room kk X.A) (h1 : Sh s n o1.d) (h2 : Sh s n o2.d) (hn : n ≤ 60) (hq : q = true ↔ ¬ o1.d = o2.d) (ha : GO X m a Γ τ o1 τ1) (hb : GO X m b Γ τ1 o2 τ2) : GE X m (.Compare a [.NotEq] [b] pos) Γ τ (.bl q) τ2 :=
  ge_cmp (op_neD hr.units) (rg_ne h1 h2 hn hq) (nomark _) ha hb
theorem gt_neD {kk : Nat} {s : Bool} {n : Nat} (q : Bool) (hr : Room kk X.A) (h1 : Sh s n o1.d) (h2 : Sh s n o2.d) (hn : n ≤ 60) (hq : q = true ↔ ¬ o1.d = o2.d) (ha : GO X m a Γ τ o1 τ1) (hb : GO X m b Γ τ1 o2 τ2) : GT X m (.Compare a [.NotEq] [b] pos) Γ τ q τ2 :=
  gt_cmp (op_neD hr.units) (rg_ne h1 h2 hn hq) (nomark _) ha hb
theorem ge_isN {q : Bool} (ha : GO X m a Γ τ o1 τ1) (hq : q = o1.isNo := by rfl) : GE X m (.Compare a [.Is] [.Constant .none k p1] pos) Γ τ (.bl q) τ1 := by
  subst hq; exact ge_cmp op_isN rg_isN (nomark _) ha ge_non
theorem gt_isN {q : Bool} (ha : GO X m a Γ τ o1 τ1) (hq : q = o1.isNo := by rfl) : GT X m (.Compare a [.Is] [.Constant .none k p1] pos) Γ τ q τ1 := by
  subst hq; exact gt_cmp op_isN rg_isN (nomark _) ha ge_non
theorem ge_notN {q : Bool} (ha : GO X m a Γ τ o1 τ1) (hq : q = !o1.isNo := by rfl) : GE X m (.Compare a [.IsNot] [.Constant .none k p1] pos) Γ τ (.bl q) τ1 := by
  subst hq; exact ge_cmp op_notN rg_notN (nomark _) ha ge_non
theorem gt_notN {q : Bool} (ha : GO X m a Γ τ o1 τ1) (hq : q = !o1.isNo := by rfl) : GT X m (.Compare a [.IsNot] [.Constant .none k p1] pos) Γ τ q τ1 := by
  subst hq; exact gt_cmp op_notN rg_notN (nomark _) ha ge_non
theorem ge_isB {s t : Bool} (ha : GE X m a Γ τ (.bl s) τ1) : GE X m (.Compare a [.Is] [.Constant (.bool t) k p1] pos) Γ τ (.bl (decide (s = t))) τ1 := ge_cmp op_isBl rg_isB (nomark _) ha ge_bl
theorem gt_isB {s t : Bool} (ha : GE X m a Γ τ (.bl s) τ1) : GT X m (.Compare a [.Is] [.Constant (.bool t) k p1] pos) Γ τ (decide (s = t)) τ1 := gt_cmp op_isBl rg_isB (nomark _) ha ge_bl
theorem ge_notB {s t : Bool} (ha : GE X m a Γ τ (.bl s) τ1) : GE X m (.Compare a [.IsNot] [.Constant (.bool t) k p1] pos) Γ τ (.bl (!decide (s = t))) τ1 := ge_cmp op_notBl rg_notB (nomark _) ha ge_bl
theorem gt_notB {s t : Bool} (ha : GE X m a Γ τ (.bl s) τ1) : GT X m (.Compare a [.IsNot] [.Constant (.bool t) k p1] pos) Γ τ (!decide (s = t)) τ1 := gt_cmp op_notBl rg_notB (nomark _) ha ge_bl

/-- a truth value as a test -/
theorem gt_val {s : Bool} (ha : GE X m e Γ τ (.bl s) τ1) (he : ∀ whole, isTrue e X.env whole = (do let v ← whole; standAt e.pos; holding [v] (truthy v)) := by intro _; rfl) : GT X m e Γ τ s τ1 := by
  intro E σ Hb H Q S q
  refine u_of_pt (pt_val pe_u he) (ha E σ Hb H _ S fun v Hb1 H1 g1 t1 r1 => ?_)
  exact ⟨s, Rp.bl_inv r1, q Hb1 H1 g1 t1⟩
/-! and, or, not -/
theorem gt_not {s : Bool} (ha : GT X m a Γ τ s τ1) : GT X m (.UnaryOp .Not a pos) Γ τ (!s) τ1 := by
  intro E σ Hb H Q S q
  exact u_of_pt (pt_not pt_u) (ha E σ Hb H _ S fun Hb1 H1 g1 t1 => q Hb1 H1 g1 t1)
theorem ge_not {s : Bool} (ha : GE X m a Γ τ (.bl s) τ1) : GE X m (.UnaryOp .Not a pos) Γ τ (.bl (!s)) τ1 := by
  intro E σ Hb H Q S q
  exact u_of_pe (pe_not pe_u) (ha E σ Hb H _ S fun v Hb1 H1 g1 t1 r1 => ⟨s, Rp.bl_inv r1, q _ Hb1 H1 g1 t1 (Rp.bl _)⟩)
/-- a test whatever its 'whole' is -/
def GW (X : Cx) (m : Bool) (e : Expr) (Γ : List Sl) (τ : Tape) (b : Bool) (τ' : Tape) : Prop :=
  ∀ E σ Hb H Q, StOk X.K X.mg m E Γ τ σ Hb H → (∀ Hb' H', Grow m E Hb H Hb' H' → TpOk m E τ' Hb' H' → Q b H') → ∀ whole pins s, Inv X pins σ H s → wpAny (model X.prog X.w) X.A (isTrue e X.env whole) (TP X pins σ Q) X.xe s
def uW (X : Cx) (e : Expr) : TT := fun σ H Q => ∀ whole pins s, Inv X pins σ H s → wpAny (model X.prog X.w) X.A (isTrue e X.env whole) (TP X pins σ Q) X.xe s
theorem pw_u {e : Expr} : PW X e (uW X e) := ⟨fun wh pins s _ _ _ I h => h wh pins s I⟩
theorem GW.t {s : Bool} (h : GW X m e Γ τ s τ1) : GT X m e Γ τ s τ1 := fun E σ Hb H Q S q pins s I => h E σ Hb H Q S q _ pins s I
variable {rest : List Expr} {s t : Bool}
theorem gw_and1 (ha : GT X m a Γ τ s τ1) : GW X m (.BoolOp .And [a] pos) Γ τ s τ1 := fun E σ Hb H Q S q wh pins s I => (pw_and1 pt_u).run wh pins s σ H Q I (ha E σ Hb H Q S q)
theorem gw_or1 (ha : GT X m a Γ τ s τ1) : GW X m (.BoolOp .Or [a] pos) Γ τ s τ1 := fun E σ Hb H Q S q wh pins s I => (pw_or1 pt_u).run wh pins s σ H Q I (ha E σ Hb H Q S q)
/-- the second is asked only where the first is true: τ2 is the tape behind -/
theorem gw_and (ha : GT X m a Γ τ s τ1) (hb : s = true → GW X m (.BoolOp .And (b :: rest) pos) Γ τ1 t τ2) (hτ : s = false → τ1 = τ2) : GW X m (.BoolOp .And (a :: b :: rest) pos) Γ τ (s && t) τ2 := fun E σ Hb H Q S q wh pins st I =>
  (pw_and pt_u pw_u).run wh pins st σ H Q I (ha E σ Hb H _ S fun Hb1 H1 g1 t1 => by
    cases s with
    | false =>
      have e := hτ rfl
      subst e
      exact q Hb1 H1 g1 t1
    | true =>
      show uW X (.BoolOp .And (b :: rest) pos) σ H1 Q
      exact fun wh pins st I => hb rfl E σ Hb1 H1 Q (S.grow g1 t1) (fun Hb2 H2 g2 t2 => q Hb2 H2 (g1.trans g2) t2) wh pins st I)
theorem gw_or (ha : GT X m a Γ τ s τ1) (hb : s = false → GW X m (.BoolOp .Or (b :: rest) pos) Γ τ1 t τ2) (hτ : s = true → τ1 = τ2) : GW X m (.BoolOp .Or (a :: b :: rest) pos) Γ τ (s || t) τ2 := fun E σ Hb H Q S q wh pins st I =>
  (pw_or pt_u pw_u).run wh pins st σ H Q I (ha E σ Hb H _ S fun Hb1 H1 g1 t1 => by
    cases s with
    | true =>
      have e := hτ rfl
      subst e
      exact q Hb1 H1 g1 t1
    | false =>
      show uW X (.BoolOp .Or (b :: rest) pos) σ H1 Q
      exact fun wh pins st I => hb rfl E σ Hb1 H1 Q (S.grow g1 t1) (fun Hb2 H2 g2 t2 => q Hb2 H2 (g1.trans g2) t2) wh pins st I)
/-- .. as values -/
theorem ge_one {op} (ha : GE X m a Γ τ d τ1) : GE X m (.BoolOp op [a] pos) Γ τ d τ1 := fun E σ Hb H Q S q => u_of_pe (pe_one pe_u) (ha E σ Hb H Q S q)
theorem ge_and (ha : GE X m a Γ τ (.bl s) τ1) (hb : s = true → GE X m (.BoolOp .And (b :: rest) pos) Γ τ1 (.bl t) τ2) (hτ : s = false → τ1 = τ2) : GE X m (.BoolOp .And (a :: b :: rest) pos) Γ τ (.bl (s && t)) τ2 := fun E σ Hb H Q S q =>
  u_of_pe (pe_and pe_u pe_u) (ha E σ Hb H _ S fun v Hb1 H1 g1 t1 r1 => ⟨s, Rp.bl_inv r1, by
    cases s with
    | false =>
      have e := hτ rfl
      subst e
      exact q _ Hb1 H1 g1 t1 (Rp.bl _)
    | true =>
      show uE X (.BoolOp .And (b :: rest) pos) σ H1 Q
      exact hb rfl E σ Hb1 H1 Q (S.grow g1 t1) fun v Hb2 H2 g2 t2 r2 => q v Hb2 H2 (g1.trans g2) t2 r2⟩)
theorem ge_or (ha : GE X m a Γ τ (.bl s) τ1) (hb : s = false → GE X m (.BoolOp .Or (b :: rest) pos) Γ τ1 (.bl t) τ2) (hτ : s = true → τ1 = τ2) : GE X m (.BoolOp .Or (a :: b :: rest) pos) Γ τ (.bl (s || t)) τ2 := fun E σ Hb H Q S q =>
  u_of_pe (pe_or pe_u pe_u) (ha E σ Hb H _ S fun v Hb1 H1 g1 t1 r1 => ⟨s, Rp.bl_inv r1, by
    cases s with
    | true =>
      have e := hτ rfl
      subst e
      exact q _ Hb1 H1 g1 t1 (Rp.bl _)
    | false =>
      show uE X (.BoolOp .Or (b :: rest) pos) σ H1 Q
      exact hb rfl E σ Hb1 H1 Q (S.grow g1 t1) fun v Hb2 H2 g2 t2 r2 => q v Hb2 H2 (g1.trans g2) t2 r2⟩)
/-- a if t else b -/
theorem ge_if {τ3 : Tape} (hc : GT X m c Γ τ s τ1) (ha : s = true → GO X m a Γ τ1 o τ3) (hb : s = false → GO X m b Γ τ1 o τ3) : GO X m (.IfExp c a b pos) Γ τ o τ3 := fun E σ Hb H Q S q =>
  u_of_pe (pe_ifExp pt_u pe_u pe_u) (hc E σ Hb H _ S fun Hb1 H1 g1 t1 => by
    cases s with
    | true =>
      show uE X a σ H1 Q
      exact ha rfl E σ Hb1 H1 Q (S.grow g1 t1) fun v Hb2 H2 g2 t2 r2 => q v Hb2 H2 (g1.trans g2) t2 r2
    | false =>
      show uE X b σ H1 Q
      exact hb rfl E σ Hb1 H1 Q (S.grow g1 t1) fun v Hb2 H2 g2 t2 r2 => q v Hb2 H2 (g1.trans g2) t2 r2)
/-- a < b < c: two comparisons -/
theorem ge_chain {op op' : CmpOp} {r r' : R2} (ho : OpR X (compareOp op) r) (ho' : OpR X (compareOp op') r') (hr : RG X m r o1 o2 (.bl s)) (hr' : s = true → RG X m r' o2 o3 (.bl t)) (hn : lastMarks [op, op'] [b, c] = false)
    (ha : GO X m a Γ τ o1 τ1) (hb : GO X m b Γ τ1 o2 τ2) (hc : s = true → GO X m c Γ τ2 o3 τ3) (hτ : s = false → τ2 = τ3) : GE X m (.Compare a [op, op'] [b, c] pos) Γ τ (.bl (s && t)) τ3 := fun E σ Hb H Q S q =>
  u_of_pe (pe_chain ho ho' pe_u pe_u pe_u hn) (ha E σ Hb H _ S fun v Hb1 H1 g1 t1 r1 => hb E σ Hb1 H1 _ (S.grow g1 t1) fun w Hb2 H2 g2 t2 r2 => hr E Hb2 H2 v w _ g2.e (r1.grow g2) r2 fun u ru => ⟨s, ru.bl_inv, by
    cases s with
    | false =>
      have e := hτ rfl
      subst e
      exact q _ Hb2 H2 (g1.trans g2) t2 (Rp.bl _)
    | true =>
      refine hc rfl E σ Hb2 H2 _ ((S.grow g1 t1).grow g2 t2) fun u Hb3 H3 g3 t3 r3 => ?_
      exact hr' rfl E Hb3 H3 w u Q g3.e (r2.grow g3) r3 fun y ry => q y Hb3 H3 ((g1.trans g2).trans g3) t3 ry⟩)
theorem gt_chain {op op' : CmpOp} {r r' : R2} (ho : OpR X (compareOp op) r) (ho' : OpR X (compareOp op') r') (hr : RG X m r o1 o2 (.bl s)) (hr' : s = true → RG X m r' o2 o3 (.bl t)) (hn : lastMarks [op, op'] [b, c] = false)
    (ha : GO X m a Γ τ o1 τ1) (hb : GO X m b Γ τ1 o2 τ2) (hc : s = true → GO X m c Γ τ2 o3 τ3) (hτ : s = false → τ2 = τ3) : GT X m (.Compare a [op, op'] [b, c] pos) Γ τ (s && t) τ3 := fun E σ Hb H Q S q =>
  u_of_pt (pt_chain ho ho' pe_u pe_u pe_u hn) (ha E σ Hb H _ S fun v Hb1 H1 g1 t1 r1 => hb E σ Hb1 H1 _ (S.grow g1 t1) fun w Hb2 H2 g2 t2 r2 => hr E Hb2 H2 v w _ g2.e (r1.grow g2) r2 fun u ru => ⟨s, ru.bl_inv, by
    cases s with
    | false =>
      have e := hτ rfl
      subst e
      exact ⟨false, rfl, q Hb2 H2 (g1.trans g2) t2⟩
    | true =>
      refine hc rfl E σ Hb2 H2 _ ((S.grow g1 t1).grow g2 t2) fun u Hb3 H3 g3 t3 r3 => ?_
      exact hr' rfl E Hb3 H3 w u _ g3.e (r2.grow g3) r3 fun y ry => ⟨t, ry.bl_inv, q Hb3 H3 ((g1.trans g2).trans g3) t3⟩⟩)
end
end PD

set_option Elab.async false
set_option linter.all false
set_option maxRecDepth 100000
set_option maxHeartbeats 1000000
namespace PD
open PySem PySem.Spec PyProof.Rows L2

/-! ### the context -/
/-- what never changes in a walk: the program, the world, the written part, the module's names -/
structure Wd where
  P : Program
  w : World
  K : PySem.W.Frag
  mg : Str → Option Value
  base : Heap
def wd (X : Cx) : Wd := ⟨X.prog, X.w, X.K, X.mg, X.base⟩
/-- the code runs in the written scope sc, whose slots are N -/
structure Cn (X : Cx) (sc : Scope) (N : List Str) (k : Nat) : Prop where
  hN : X.N = N
  nd : N.Nodup
  loc : ∀ x, sc.names.lookup x = some .local → X.env.scope.names.lookup x = some .local
  cf : ∀ x, sc.names.lookup x = some .cell ∨ sc.names.lookup x = some .free → X.env.scope.names.lookup x = some .cell ∨ X.env.scope.names.lookup x = some .free
  gl : ∀ x, sc.names.lookup x = some .globalImplicit → X.env.scope.names.lookup x = some .globalImplicit
  fn : ∀ x, sc.names.lookup x = some .cell → X.env.scope.names.lookup x = some .cell ∧ X.fn x = true
  r : Room k X.A
  calm : X.calm = true
  kind : X.env.scope.kind = .function
  xe : X.xe = fun _ _ => False
def lkV (sc : Scope) (x : Str) : Bool := match sc.names.lookup x with
  | some .local => true
  | some .cell => true
  | some .free => true
  | _ => false
def lkG (sc : Scope) (x : Str) : Bool := match sc.names.lookup x with
  | some .globalImplicit => true
  | _ => false
def lkL (sc : Scope) (x : Str) : Bool := match sc.names.lookup x with
  | some .local => true
  | _ => false
def lkS (sc : Scope) (x : Str) : Bool := match sc.names.lookup x with
  | some .local => true
  | some .cell => true
  | _ => false
section
variable {X : Cx} {sc : Scope} {N : List Str} {k : Nat}
theorem Cn.nm (c : Cn X sc N k) {i : Nat} {x : Str} (h1 : N[i]? = some x) (h2 : lkV sc x = true) (h3 : (x == ("__debug__" : Str)) = false) (h4 : (x == ("__classdict__" : Str)) = false) : Nm X i x := by
  refine ⟨by rw [c.hN]; exact h1, ?_, h3, h4⟩
  unfold lkV at h2
  split at h2
  · rename_i e; exact .inl (c.loc x e)
  · rename_i e; exact .inr (c.cf x (.inl e))
  · rename_i e; exact .inr (c.cf x (.inr e))
  · cases h2
theorem Cn.g (c : Cn X sc N k) {x : Str} (h : lkG sc x = true) : Gl X x := by
  unfold lkG at h
  split at h
  · rename_i e; exact c.gl x e
  · cases h
theorem Cn.l (c : Cn X sc N k) {x : Str} (h : lkL sc x = true) : X.env.scope.names.lookup x = some .local := by
  unfold lkL at h
  split at h
  · rename_i e; exact c.loc x e
  · cases h
/-- a name that may be stored -/
structure Sm (X : Cx) (i : Nat) (x : Str) : Prop where
  n : X.N[i]? = some x
  v : Loc X.env.scope x
  f : X.fn x = true ∨ X.env.scope.names.lookup x = some .local
theorem Cn.sm (c : Cn X sc N k) {i : Nat} {x : Str} (h1 : N[i]? = some x) (h2 : lkS sc x = true) : Sm X i x := by
  unfold lkS at h2
  split at h2
  · rename_i e; exact ⟨by rw [c.hN]; exact h1, .inl (c.loc x e), .inr (c.loc x e)⟩
  · rename_i e; exact ⟨by rw [c.hN]; exact h1, .inr (c.fn x e).1, .inl (c.fn x e).2⟩
  · cases h2
theorem Cn.ndX (c : Cn X sc N k) : X.N.Nodup := by rw [c.hN]; exact c.nd
theorem Cn.low (c : Cn X sc N k) {j : Nat} (h : j ≤ k) : Room j X.A := c.r.mono h
end

/-! ### promises -/
/-- of a def on data: C holds of the arguments and the answer -/
def spP (K : PySem.W.Frag) (mg : Str → Option Value) (C : List D → D → Prop) : Sp := fun vs H Q _ => ∃ (Hb : Hp) (ds : List D) (d : D), C ds d ∧ Same Hb H ∧ RpA K mg Hb vs ds ∧
  ∀ v Hb' H', Grow false ⟨Hb, H, 0, 0⟩ Hb H Hb' H' → Rp K mg Hb' v d → Q v H'
/-- of a def that takes the tape first -/
def spT (K : PySem.W.Frag) (mg : Str → Option Value) (C : List D → Tape → D → Tape → Prop) : Sp := fun vs H Q _ => ∃ (E : Ent) (Hb : Hp) (ds : List D) (τ : Tape) (d : D) (τ' : Tape) (vs' : List V), vs = .ref E.tp :: vs' ∧ C ds τ d τ' ∧ Same Hb H ∧ TpOk true E τ Hb H ∧ RpA K mg Hb vs' ds ∧
  ∀ v Hb' H', Grow true E Hb H Hb' H' → TpOk true E τ' Hb' H' → Rp K mg Hb' v d → Q v H'
/-- the def x of the module keeps such a promise -/
def FnP (W : Wd) (k : Nat) (x : Str) (C : List D → D → Prop) : Prop := ∃ (f : Addr) (fd : FuncData) (ps : List Str), FnOk W.P W.w W.K W.mg W.base CX0 k f fd ps (spP W.K W.mg C) ∧ W.mg x = some (.ref f) ∧ PySem.W.keepIn W.K (.ref f) = true ∧ Binds W.K fd ps []
def FnT (W : Wd) (k : Nat) (x : Str) (C : List D → Tape → D → Tape → Prop) : Prop := ∃ (f : Addr) (fd : FuncData) (ps : List Str), FnOk W.P W.w W.K W.mg W.base CX0 k f fd ps (spT W.K W.mg C) ∧ W.mg x = some (.ref f) ∧ PySem.W.keepIn W.K (.ref f) = true ∧ Binds W.K fd ps []

/-- arguments that are data -/
def GA (X : Cx) (m : Bool) (es : List Expr) (Γ : List Sl) (τ : Tape) (ds : List D) (τ' : Tape) : Prop :=
  ∀ E σ Hb H Q, StOk X.K X.mg m E Γ τ σ Hb H → (∀ vs Hb' H', Grow m E Hb H Hb' H' → TpOk m E τ' Hb' H' → RpA X.K X.mg Hb' vs ds → Q vs H') → uA X es σ H Q

section
variable {X : Cx} {m : Bool} {Γ : List Sl} {τ τ' τ1 τ2 τ3 : Tape} {a b c e : Expr} {es : List Expr} {d d1 d2 d3 : D} {ds ds1 ds2 : List D} {o o1 o2 o3 : Opd} {pos p1 p2 p3 p4 : Pos} {k : Nat} {i j : Nat} {x : Str}
theorem ga_nil : GA X m [] Γ τ [] τ := fun E σ Hb H Q S q => u_of_pa pa_nil (q [] Hb H (Grow.refl S.same) S.tp .nil)
theorem ga_cons (he : GE X m e Γ τ d τ1) (hr : GA X m es Γ τ1 ds τ2) (hs : starEach (e :: es) X.env = (false, eval e X.env) :: starEach es X.env := by rfl) : GA X m (e :: es) Γ τ (d :: ds) τ2 := fun E σ Hb H Q S q =>
  u_of_pa (pa_cons pe_u pa_u hs) (he E σ Hb H _ S fun v Hb1 H1 g1 t1 r1 => hr E σ Hb1 H1 _ (S.grow g1 t1) fun vs Hb2 H2 g2 t2 r2 => q (v :: vs) Hb2 H2 (g1.trans g2) t2 (.cons (Rp.mono g2.b r1) r2))
/-- a call of a def on data -/
theorem ge_call {C : List D → D → Prop} (F : FnP (wd X) k x C) (hr : Room k X.A) (hg : Gl X x) (hC : C ds d) (ha : GA X m (e :: es) Γ τ ds τ1)
    (hdb : (x == ("__debug__" : Str)) = false := by decide) (he : starEach (e :: es) X.env = (false, eval e X.env) :: starEach es X.env := by rfl) (hpl : (backTo pos (starEach es X.env)).any (·.1) = false := by rfl) :
    GE X m (.Call (.Name x p1) (e :: es) [] pos) Γ τ d τ1 := by
  intro E σ Hb H Q S q
  obtain ⟨f, fd, ps, F, hm, hk, hb⟩ := F
  refine u_of_pe (pe_call F hr hg hm hk hb .nil pass0 pa_u hdb he hpl) (ha E σ Hb H _ S fun vs Hb1 H1 g1 t1 r1 => ?_)
  show spP X.K X.mg C (vs ++ []) H1 Q E0
  rw [List.append_nil]
  exact ⟨Hb1, ds, d, hC, g1.e, r1, fun v Hb2 H2 g2 r2 => q v Hb2 H2 (g1.trans g2.pure) (t1.grow (g2.pure)) r2⟩
theorem ge_call0 {C : List D → D → Prop} (F : FnP (wd X) k x C) (hr : Room k X.A) (hg : Gl X x) (hC : C [] d) (hdb : (x == ("__debug__" : Str)) = false := by decide) : GE X m (.Call (.Name x p1) [] [] pos) Γ τ d τ := by
  intro E σ Hb H Q S q
  obtain ⟨f, fd, ps, F, hm, hk, hb⟩ := F
  refine u_of_pe (pe_call0 F hr hg hm hk hb .nil pass0 hdb) ?_
  exact ⟨Hb, [], d, hC, S.same, .nil, fun v Hb2 H2 g2 r2 => q v Hb2 H2 g2.pure (S.tp.grow g2.pure) r2⟩
/-- a call of a def that takes the tape first; y the name of the tape -/
theorem ge_callT {C : List D → Tape → D → Tape → Prop} {y : Str} (F : FnT (wd X) k x C) (hr : Room k X.A) (hg : Gl X x) (ny : Nm X i y) (hy : Γ[i]? = some .tape) (ha : GA X m es Γ τ ds τ1) (hC : C ds τ1 d τ2)
    (hdb : (x == ("__debug__" : Str)) = false := by decide) (he : starEach (.Name y p2 :: es) X.env = (false, eval (.Name y p2) X.env) :: starEach es X.env := by rfl) (hpl : (backTo pos (starEach es X.env)).any (·.1) = false := by rfl) :
    GE X m (.Call (.Name x p1) (.Name y p2 :: es) [] pos) Γ τ d τ2 := by
  intro E σ Hb H Q S q
  obtain ⟨f, fd, ps, F, hm, hk, hb⟩ := F
  obtain ⟨em, ht⟩ := S.tape i hy
  subst em
  refine u_of_pe (pe_call F hr hg hm hk hb .nil pass0 (pa_cons (pe_var ny.n ny.v ny.d ny.c) pa_u he) hdb he hpl) ⟨_, ht, ha E σ Hb H _ S fun vs Hb1 H1 g1 t1 r1 => ?_⟩
  show spT X.K X.mg C (.ref E.tp :: vs ++ []) H1 Q E0
  rw [List.append_nil]
  exact ⟨E, Hb1, ds, τ1, d, τ2, vs, rfl, hC, g1.e, t1, r1, fun v Hb2 H2 g2 t2 r2 => q v Hb2 H2 (g1.trans g2) t2 r2⟩

/-! ### built-ins by name -/
theorem ge_callB {id : String} {r : List V → Hp → VK → Prop} (hc : CallR X (.builtin id) r) (hg : Gl X x) (hm : X.mg x = none) (hv : bootBuiltins x = some (.builtin id)) (hr : ∀ (Hb H : Hp) (vs : List V) (Q : VK), Same Hb H → RpA X.K X.mg Hb vs ds → (∀ u, Rp X.K X.mg Hb u d → Q u H) → r vs H Q)
    (ha : GA X m (e :: es) Γ τ ds τ1) (hn : x ≠ "__name__" := by decide) (hdb : (x == ("__debug__" : Str)) = false := by decide) (he : starEach (e :: es) X.env = (false, eval e X.env) :: starEach es X.env := by rfl) (hpl : (backTo pos (starEach es X.env)).any (·.1) = false := by rfl) :
    GE X m (.Call (.Name x p1) (e :: es) [] pos) Γ τ d τ1 := fun E σ Hb H Q S q =>
  u_of_pe (pe_callB hc hg hm hv pa_u hn hdb he hpl) (ha E σ Hb H _ S fun vs Hb1 H1 g1 t1 r1 => hr Hb1 H1 vs Q g1.e r1 fun u ru => q u Hb1 H1 g1 t1 ru)
variable {z w : Int}
theorem bool2 {P Q : Prop} [Decidable P] [Decidable Q] (h : P ↔ Q) : decide P = decide Q := by simp [h]
theorem min_eq' (i j : Int) : (if j < i then j else i) = min i j := by omega
theorem max_eq' (i j : Int) : (if j > i then j else i) = max i j := by omega
theorem ge_min2 (B : Bt X.mg) (hcm : X.calm = true) (hg : Gl X "min") (ha : GE X m a Γ τ (.int z) τ1) (hb : GE X m b Γ τ1 (.int w) τ2) (hs : starEach (a :: [b]) X.env = (false, eval a X.env) :: starEach [b] X.env := by rfl) (hs2 : starEach (b :: []) X.env = (false, eval b X.env) :: starEach [] X.env := by rfl)
    (hpl : (backTo pos (starEach [b] X.env)).any (·.1) = false := by rfl) : GE X m (.Call (.Name "min" p1) [a, b] [] pos) Γ τ (.int (min z w)) τ2 :=
  ge_callB (call_min2 hcm) hg B.min (by decide +kernel) (fun Hb H vs Q _ r q => by
    cases r with | cons r1 r2 => cases r2 with | cons r2 r3 => cases r3; cases r1; cases r2; exact ⟨_, _, rfl, q _ (by rw [min_eq']; exact Rp.int _)⟩) (ga_cons ha (ga_cons hb ga_nil hs2) hs) (by decide) (by decide) hs hpl
theorem ge_max2 (B : Bt X.mg) (hcm : X.calm = true) (hg : Gl X "max") (ha : GE X m a Γ τ (.int z) τ1) (hb : GE X m b Γ τ1 (.int w) τ2) (hs : starEach (a :: [b]) X.env = (false, eval a X.env) :: starEach [b] X.env := by rfl) (hs2 : starEach (b :: []) X.env = (false, eval b X.env) :: starEach [] X.env := by rfl)
    (hpl : (backTo pos (starEach [b] X.env)).any (·.1) = false := by rfl) : GE X m (.Call (.Name "max" p1) [a, b] [] pos) Γ τ (.int (max z w)) τ2 :=
  ge_callB (call_max2 hcm) hg B.max (by decide +kernel) (fun Hb H vs Q _ r q => by
    cases r with | cons r1 r2 => cases r2 with | cons r2 r3 => cases r3; cases r1; cases r2; exact ⟨_, _, rfl, q _ (by rw [max_eq']; exact Rp.int _)⟩) (ga_cons ha (ga_cons hb ga_nil hs2) hs) (by decide) (by decide) hs hpl
theorem ge_abs (B : Bt X.mg) (hg : Gl X "abs") (ha : GE X m a Γ τ (.int z) τ1) (hs : starEach (a :: []) X.env = (false, eval a X.env) :: starEach [] X.env := by rfl) : GE X m (.Call (.Name "abs" p1) [a] [] pos) Γ τ (.int (if z < 0 then -z else z)) τ1 :=
  ge_callB call_abs hg B.abs (by decide +kernel) (fun Hb H vs Q _ r q => by
    cases r with | cons r1 r2 => cases r2; cases r1; exact ⟨_, rfl, q _ (Rp.int _)⟩) (ga_cons ha ga_nil hs) (by decide) (by decide) hs rfl
theorem ge_callTy {T : String} {r : List V → Hp → VK → Prop} (hc : CallR X (.type T) r) (hg : Gl X x) (hm : X.mg x = none) (hv : bootBuiltins x = some (.type T)) (hr : ∀ (Hb H : Hp) (vs : List V) (Q : VK), Same Hb H → RpA X.K X.mg Hb vs ds → (∀ u, Rp X.K X.mg Hb u d → Q u H) → r vs H Q)
    (ha : GA X m (e :: es) Γ τ ds τ1) (hn : x ≠ "__name__" := by decide) (hdb : (x == ("__debug__" : Str)) = false := by decide) (he : starEach (e :: es) X.env = (false, eval e X.env) :: starEach es X.env := by rfl) (hpl : (backTo pos (starEach es X.env)).any (·.1) = false := by rfl) :
    GE X m (.Call (.Name x p1) (e :: es) [] pos) Γ τ d τ1 := fun E σ Hb H Q S q =>
  u_of_pe (pe_callTy hc hg hm hv pa_u hn hdb he hpl) (ha E σ Hb H _ S fun vs Hb1 H1 g1 t1 r1 => hr Hb1 H1 vs Q g1.e r1 fun u ru => q u Hb1 H1 g1 t1 ru)
/-- int(n) of a number -/
theorem ge_intI (B : Bt X.mg) (hg : Gl X "int") (ha : GE X m a Γ τ (.int z) τ1) (hs : starEach (a :: []) X.env = (false, eval a X.env) :: starEach [] X.env := by rfl) : GE X m (.Call (.Name "int" p1) [a] [] pos) Γ τ (.int z) τ1 :=
  ge_callTy call_int1 hg B.int (by decide +kernel) (fun Hb H vs Q _ r q => by
    cases r with | cons r1 r2 => cases r2; cases r1; exact .inl ⟨_, rfl, q _ (Rp.int _)⟩) (ga_cons ha ga_nil hs) (by decide) (by decide) hs rfl
/-- int(b) of a truth value -/
theorem ge_intB {s : Bool} (B : Bt X.mg) (hg : Gl X "int") (ha : GE X m a Γ τ (.bl s) τ1) (hs : starEach (a :: []) X.env = (false, eval a X.env) :: starEach [] X.env := by rfl) : GE X m (.Call (.Name "int" p1) [a] [] pos) Γ τ (.int (if s then 1 else 0)) τ1 :=
  ge_callTy call_int1 hg B.int (by decide +kernel) (fun Hb H vs Q _ r q => by
    cases r with | cons r1 r2 => cases r2; cases r1; exact .inr ⟨_, rfl, q _ (Rp.int _)⟩) (ga_cons ha ga_nil hs) (by decide) (by decide) hs rfl

/-! ### one operand of any kind: len, sum, max, min, any, all, list, tuple -/
/-- the one argument as an operand -/
theorem u_arg1 (he : starEach (e :: []) X.env = (false, eval e X.env) :: starEach [] X.env) {σ : L2.St} {H : Hp} {Q : List V → Hp → Prop} (h : uE X e σ H fun v H' => Q [v] H') : uA X [e] σ H Q := u_of_pa (pa_cons pe_u pa_nil he) h
theorem go_callB1 {id : String} {r : List V → Hp → VK → Prop} (hc : CallR X (.builtin id) r) (hg : Gl X x) (hm : X.mg x = none) (hv : bootBuiltins x = some (.builtin id)) (hr : ∀ (E : Ent) (Hb H : Hp) (v : V) (Q : VK), Same Hb H → OpdOk X.K X.mg m E Hb H v o → (∀ u, Rp X.K X.mg Hb u d → Q u H) → r [v] H Q)
    (ha : GO X m e Γ τ o τ1) (he : starEach (e :: []) X.env = (false, eval e X.env) :: starEach [] X.env) (hn : x ≠ "__name__" := by decide) (hdb : (x == ("__debug__" : Str)) = false := by decide) : GE X m (.Call (.Name x p1) [e] [] pos) Γ τ d τ1 := fun E σ Hb H Q S q =>
  u_of_pe (pe_callB hc hg hm hv pa_u hn hdb he rfl) (u_arg1 he (ha E σ Hb H _ S fun v Hb1 H1 g1 t1 r1 => hr E Hb1 H1 v Q g1.e r1 fun u ru => q u Hb1 H1 g1 t1 ru))
/-- a datum that is a list is a list -/
theorem gl_of (h : GE X m e Γ τ (.lst ds) τ1) : GL X m e Γ τ ds τ1 := fun E σ Hb H Q S q => h E σ Hb H Q S fun v Hb1 H1 g1 t1 r1 => by
  obtain ⟨p, vs, rfl, h1, h2, h3⟩ := Rp.lst_inv r1
  refine q _ Hb1 H1 g1 t1 ⟨p, vs, rfl, g1.e _ _ h1, h2, h3, fun hm => ?_⟩
  obtain ⟨cl, _, _, _, _, n1, n2, _⟩ := t1 hm
  exact ⟨fun z => (by rw [z, n1] at h1; cases h1), fun z => (by rw [z, n2] at h1; cases h1)⟩
theorem gl_new (h : GN X m e Γ τ ds τ1) : GL X m e Γ τ ds τ1 := fun E σ Hb H Q S q => h E σ Hb H Q S fun p vs Hb1 H1 g1 t1 n1 n2 h1 h2 h3 => by
  refine q _ Hb1 H1 g1 t1 ⟨p, vs, rfl, h1, h2, h3, fun hm => ?_⟩
  obtain ⟨cl, b1, b2, _⟩ := S.tp hm
  exact ⟨fun z => (by rw [z, b1] at n1; cases n1), fun z => (by rw [z, b2] at n1; cases n1)⟩
/-- a new list that nobody will change -/
theorem ge_new (h : GN X m e Γ τ ds τ1) : GE X m e Γ τ (.lst ds) τ1 := fun E σ Hb H Q S q => h E σ Hb H Q S fun p vs Hb1 H1 g1 t1 n1 n2 h1 h2 h3 => by
  have sb : Same Hb1 (upd Hb1 p (.lst vs)) := same_new n2
  refine q _ (upd Hb1 p (.lst vs)) H1 (g1.freeze n1 n2 h1) (fun hm => ?_) (Rp.lst upd_same h2 (h3.mono sb))
  obtain ⟨cl, b1, b2, _⟩ := S.tp hm
  obtain ⟨cl', a1, a2, a3, a4, a5, a6, a7⟩ := t1 hm
  exact ⟨cl', a1, a2, a3, sb _ _ a4, by rw [upd_ne (ne_of_none b1 n1)]; exact a5, by rw [upd_ne (ne_of_none b2 n1)]; exact a6, a7⟩
theorem ge_len (B : Bt X.mg) (hg : Gl X "len") (ha : GL X m a Γ τ ds τ1) (hs : starEach (a :: []) X.env = (false, eval a X.env) :: starEach [] X.env := by rfl) : GE X m (.Call (.Name "len" p1) [a] [] pos) Γ τ (.int ds.length) τ1 :=
  go_callB1 call_len_seq hg B.len PySem.boot_len (fun E Hb H v Q e r q => by
    obtain ⟨p, vs, rfl, h1, h2, h3, _⟩ := r
    exact ⟨p, vs, rfl, .inl (SqL.of h1), q _ (by rw [h3.length]; exact Rp.int _)⟩) ha hs
theorem ge_lenT (B : Bt X.mg) (hg : Gl X "len") (ha : GE X m a Γ τ (.tup ds) τ1) (hs : starEach (a :: []) X.env = (false, eval a X.env) :: starEach [] X.env := by rfl) : GE X m (.Call (.Name "len" p1) [a] [] pos) Γ τ (.int ds.length) τ1 :=
  go_callB1 call_len_seq hg B.len PySem.boot_len (fun E Hb H v Q e r q => by
    obtain ⟨p, vs, rfl, h1, h2, h3⟩ := Rp.tup_inv r
    exact ⟨p, vs, rfl, .inr (same_t e h1).sq, q _ (by rw [h3.length]; exact Rp.int _)⟩) ha hs
variable {ns : List Int} {bs : List Bool}
theorem ge_sum (B : Bt X.mg) (hcm : X.calm = true) (hg : Gl X "sum") (ha : GL X m a Γ τ (ns.map .int) τ1) (hs : starEach (a :: []) X.env = (false, eval a X.env) :: starEach [] X.env := by rfl) : GE X m (.Call (.Name "sum" p1) [a] [] pos) Γ τ (.int ns.sum) τ1 :=
  go_callB1 (cr_sum hcm) hg B.sum (by decide +kernel) (fun E Hb H v Q e r q => by
    obtain ⟨p, vs, rfl, h1, h2, h3, _⟩ := r
    cases h3.ints
    exact ⟨p, ns, rfl, SqL.of h1, q _ (Rp.int _)⟩) ha hs
theorem ge_maxL (B : Bt X.mg) (hcm : X.calm = true) (hg : Gl X "max") (h1 : z ∈ ns) (h2 : ∀ y ∈ ns, y ≤ z) (ha : GL X m a Γ τ (ns.map .int) τ1) (hs : starEach (a :: []) X.env = (false, eval a X.env) :: starEach [] X.env := by rfl) : GE X m (.Call (.Name "max" p1) [a] [] pos) Γ τ (.int z) τ1 :=
  go_callB1 (cr_max hcm) hg B.max (by decide +kernel) (fun E Hb H v Q e r q => by
    obtain ⟨p, vs, rfl, g1, g2, g3, _⟩ := r
    cases g3.ints
    refine ⟨p, ns, rfl, SqL.of g1, List.length_pos_of_mem h1, fun y hy hm => ?_⟩
    have : y = z := by have := hm z h1; have := h2 y hy; omega
    subst this
    exact q _ (Rp.int _)) ha hs
theorem ge_minL (B : Bt X.mg) (hcm : X.calm = true) (hg : Gl X "min") (h1 : z ∈ ns) (h2 : ∀ y ∈ ns, z ≤ y) (ha : GL X m a Γ τ (ns.map .int) τ1) (hs : starEach (a :: []) X.env = (false, eval a X.env) :: starEach [] X.env := by rfl) : GE X m (.Call (.Name "min" p1) [a] [] pos) Γ τ (.int z) τ1 :=
  go_callB1 (cr_min hcm) hg B.min (by decide +kernel) (fun E Hb H v Q e r q => by
    obtain ⟨p, vs, rfl, g1, g2, g3, _⟩ := r
    cases g3.ints
    refine ⟨p, ns, rfl, SqL.of g1, List.length_pos_of_mem h1, fun y hy hm => ?_⟩
    have : y = z := by have := hm z h1; have := h2 y hy; omega
    subst this
    exact q _ (Rp.int _)) ha hs
theorem ge_any (B : Bt X.mg) (hcm : X.calm = true) (hg : Gl X "any") (ha : GL X m a Γ τ (bs.map .bl) τ1) (hs : starEach (a :: []) X.env = (false, eval a X.env) :: starEach [] X.env := by rfl) : GE X m (.Call (.Name "any" p1) [a] [] pos) Γ τ (.bl (bs.any id)) τ1 :=
  go_callB1 (cr_any hcm) hg B.any (by decide +kernel) (fun E Hb H v Q e r q => by
    obtain ⟨p, vs, rfl, h1, h2, h3, _⟩ := r
    cases h3.bls
    exact ⟨p, bs, rfl, SqL.of h1, q _ (Rp.bl _)⟩) ha hs
theorem ge_all (B : Bt X.mg) (hcm : X.calm = true) (hg : Gl X "all") (ha : GL X m a Γ τ (bs.map .bl) τ1) (hs : starEach (a :: []) X.env = (false, eval a X.env) :: starEach [] X.env := by rfl) : GE X m (.Call (.Name "all" p1) [a] [] pos) Γ τ (.bl (bs.all id)) τ1 :=
  go_callB1 (cr_all hcm) hg B.all (by decide +kernel) (fun E Hb H v Q e r q => by
    obtain ⟨p, vs, rfl, h1, h2, h3, _⟩ := r
    cases h3.bls
    exact ⟨p, bs, rfl, SqL.of h1, q _ (Rp.bl _)⟩) ha hs

/-! ### new lists, tuples -/
/-- the goods of a new list -/
theorem gn_fin {E : Ent} {σ : L2.St} {Hb H : Hp} {Q : VK} {p : Addr} {vs : List V} {Hb1 H1 : Hp} (q : ∀ p vs Hb' H', Grow m E Hb H Hb' H' → TpOk m E τ1 Hb' H' → H p = none → Hb' p = none → H' p = some (.lst vs) → vs.length ≤ sizeLine → RpA X.K X.mg Hb' vs ds → Q (.ref p) H')
    (g1 : Grow m E Hb H Hb1 H1) (t1 : TpOk m E τ1 Hb1 H1) (hp : H1 p = none) (hz : vs.length ≤ sizeLine) (r : RpA X.K X.mg Hb1 vs ds) : Q (.ref p) (upd H1 p (.lst vs)) := by
  have hb : Hb1 p = none := by
    cases h : Hb1 p with
    | none => rfl
    | some u => rw [g1.e p u h] at hp; cases hp
  have g2 : Grow m E Hb1 H1 Hb1 (upd H1 p (.lst vs)) := Grow.alloc g1.e hp
  refine q p vs Hb1 _ (g1.trans g2) (fun hm => ?_) (g1.fresh hp) hb upd_same hz r
  obtain ⟨cl, a1, a2, a3⟩ := t1 hm
  exact ⟨cl, same_new hp _ _ a1, same_new hp _ _ a2, a3⟩
/-- the goods of a new tuple -/
theorem gt_fin {E : Ent} {Hb H : Hp} {Q : VK} {p : Addr} {vs : List V} {Hb1 H1 : Hp} (q : ∀ v Hb' H', Grow m E Hb H Hb' H' → TpOk m E τ1 Hb' H' → Rp X.K X.mg Hb' v (.tup ds) → Q v H')
    (g1 : Grow m E Hb H Hb1 H1) (t1 : TpOk m E τ1 Hb1 H1) (hp : H1 p = none) (hz : vs.length ≤ sizeLine) (r : RpA X.K X.mg Hb1 vs ds) : Q (.ref p) (upd H1 p (.tup vs)) := by
  have hb : Hb1 p = none := by
    cases h : Hb1 p with
    | none => rfl
    | some u => rw [g1.e p u h] at hp; cases hp
  have sb : Same Hb1 (upd Hb1 p (.tup vs)) := same_new hb
  have g2 : Grow m E Hb1 H1 (upd Hb1 p (.tup vs)) (upd H1 p (.tup vs)) := (Grow.alloc g1.e hp).freeze hp hb upd_same
  refine q _ _ _ (g1.trans g2) (fun hm => ?_) (Rp.tup (.inl upd_same) hz (r.mono sb))
  obtain ⟨cl, a1, a2, a3, a4, a5, a6, a7⟩ := t1 hm
  exact ⟨cl, same_new hp _ _ a1, same_new hp _ _ a2, a3, sb _ _ a4, by rw [upd_ne (ne_of_none a1 hp)]; exact a5, by rw [upd_ne (ne_of_none a2 hp)]; exact a6, a7⟩
theorem gn_lst (ha : GA X m es Γ τ ds τ1) (hz : ds.length ≤ sizeLine := by first | decide | (simp [sizeLine]; done) | assumption) : GN X m (.List es pos) Γ τ ds τ1 := fun E σ Hb H Q S q =>
  u_of_pe (pe_lst pa_u) (ha E σ Hb H _ S fun vs Hb1 H1 g1 t1 r1 => ⟨by rw [r1.length]; exact hz, fun p hp => gn_fin (σ := σ) q g1 t1 hp (by rw [r1.length]; exact hz) r1⟩)
theorem ge_tup {kk} (ha : GA X m es Γ τ ds τ1) (hz : ds.length ≤ sizeLine := by first | decide | (simp [sizeLine]; done) | assumption) : GE X m (.Tuple es kk pos) Γ τ (.tup ds) τ1 := fun E σ Hb H Q S q =>
  u_of_pe (pe_tup pa_u) (ha E σ Hb H _ S fun vs Hb1 H1 g1 t1 r1 => ⟨by rw [r1.length]; exact hz, fun p hp => gt_fin q g1 t1 hp (by rw [r1.length]; exact hz) r1⟩)
/-- list(xs) of a list -/
theorem gn_list (B : Bt X.mg) (hg : Gl X "list") (ha : GL X m a Γ τ ds τ1) (hs : starEach (a :: []) X.env = (false, eval a X.env) :: starEach [] X.env := by rfl) : GN X m (.Call (.Name "list" p1) [a] [] pos) Γ τ ds τ1 := fun E σ Hb H Q S q =>
  u_of_pe (pe_callTy call_list_of hg B.list (by decide +kernel) pa_u (by decide) (by decide) hs rfl) (u_arg1 hs (ha E σ Hb H _ S fun v Hb1 H1 g1 t1 r1 => by
    obtain ⟨p, vs, rfl, h1, h2, h3, _⟩ := r1
    exact ⟨p, vs, rfl, .inl (SqL.of h1), fun l hl => gn_fin (σ := σ) q g1 t1 hl h2 h3⟩))
theorem gn_listT (B : Bt X.mg) (hg : Gl X "list") (ha : GE X m a Γ τ (.tup ds) τ1) (hs : starEach (a :: []) X.env = (false, eval a X.env) :: starEach [] X.env := by rfl) : GN X m (.Call (.Name "list" p1) [a] [] pos) Γ τ ds τ1 := fun E σ Hb H Q S q =>
  u_of_pe (pe_callTy call_list_of hg B.list (by decide +kernel) pa_u (by decide) (by decide) hs rfl) (u_arg1 hs (ha E σ Hb H _ S fun v Hb1 H1 g1 t1 r1 => by
    obtain ⟨p, vs, rfl, h1, h2, h3⟩ := Rp.tup_inv r1
    exact ⟨p, vs, rfl, .inr (same_t g1.e h1).sq, fun l hl => gn_fin (σ := σ) q g1 t1 hl h2 h3⟩))
/-- tuple(xs) of a list -/
theorem ge_tupleL (B : Bt X.mg) (hg : Gl X "tuple") (ha : GL X m a Γ τ ds τ1) (hs : starEach (a :: []) X.env = (false, eval a X.env) :: starEach [] X.env := by rfl) : GE X m (.Call (.Name "tuple" p1) [a] [] pos) Γ τ (.tup ds) τ1 := fun E σ Hb H Q S q =>
  u_of_pe (pe_callTy call_tuple_of hg B.tuple (by decide +kernel) pa_u (by decide) (by decide) hs rfl) (u_arg1 hs (ha E σ Hb H _ S fun v Hb1 H1 g1 t1 r1 => by
    obtain ⟨p, vs, rfl, h1, h2, h3, _⟩ := r1
    exact ⟨p, vs, rfl, .inl ⟨SqL.of h1, fun l hl => gt_fin q g1 t1 hl h2 h3⟩⟩))
theorem ge_tupleT (B : Bt X.mg) (hg : Gl X "tuple") (ha : GE X m a Γ τ (.tup ds) τ1) (hs : starEach (a :: []) X.env = (false, eval a X.env) :: starEach [] X.env := by rfl) : GE X m (.Call (.Name "tuple" p1) [a] [] pos) Γ τ (.tup ds) τ1 := fun E σ Hb H Q S q =>
  u_of_pe (pe_callTy call_tuple_of hg B.tuple (by decide +kernel) pa_u (by decide) (by decide) hs rfl) (u_arg1 hs (ha E σ Hb H _ S fun v Hb1 H1 g1 t1 r1 => by
    obtain ⟨p, vs, rfl, h1, h2, h3⟩ := Rp.tup_inv r1
    exact ⟨p, vs, rfl, .inr ⟨(same_t g1.e h1).sq, q _ Hb1 H1 g1 t1 r1⟩⟩))

/-! ### places -/
theorem ge_ixL {zs : List D} (hx : atI ds z = some d) (ha : GL X m a Γ τ ds τ1) (hb : GE X m b Γ τ1 (.int z) τ2) (hp : PlainIx b := by exact fun _ _ => rfl) : GE X m (.Subscript a b pos) Γ τ d τ2 := by
  intro E σ Hb H Q S q
  refine u_of_pe (pe_ix ix_list pe_u pe_u hp) (ha E σ Hb H _ S fun v Hb1 H1 g1 t1 r1 => hb E σ Hb1 H1 _ (S.grow g1 t1) fun w Hb2 H2 g2 t2 r2 => ?_)
  obtain ⟨p, vs, rfl, h1, h2, h3, _⟩ := r1.grow g2
  cases (Rp.int_inv r2)
  obtain ⟨j, hj, hd, _⟩ := atI_get hx
  obtain ⟨u, hu, ru⟩ := h3.get hd
  refine ⟨p, vs, z, u, rfl, rfl, SqL.of h1, ?_, q u Hb2 H2 (g1.trans g2) t2 ru⟩
  unfold atI at hx ⊢
  rw [h3.length]
  cases e : ixN ds.length z with
  | none => rw [e] at hx; cases hx
  | some j' =>
    rw [e] at hx
    obtain ⟨u', hu', ru'⟩ := h3.get (show ds[j']? = some d from hx)
    have hjj : j' = j := by
      have := (ixN_seq e).1
      rw [this] at hj
      exact Option.some.inj hj
    subst hjj
    exact hu
theorem ge_ixT (hx : atI ds z = some d) (ha : GE X m a Γ τ (.tup ds) τ1) (hb : GE X m b Γ τ1 (.int z) τ2) (hp : PlainIx b := by exact fun _ _ => rfl) : GE X m (.Subscript a b pos) Γ τ d τ2 := by
  intro E σ Hb H Q S q
  refine u_of_pe (pe_ix ix_tup pe_u pe_u hp) (ha E σ Hb H _ S fun v Hb1 H1 g1 t1 r1 => hb E σ Hb1 H1 _ (S.grow g1 t1) fun w Hb2 H2 g2 t2 r2 => ?_)
  obtain ⟨p, vs, rfl, h1, h2, h3⟩ := Rp.tup_inv (Rp.mono g2.b r1)
  cases (Rp.int_inv r2)
  obtain ⟨j, hj, hd, _⟩ := atI_get hx
  obtain ⟨u, hu, ru⟩ := h3.get hd
  refine ⟨p, vs, z, u, rfl, rfl, (same_t g2.e h1).sq, ?_, q u Hb2 H2 (g1.trans g2) t2 ru⟩
  unfold atI at hx ⊢
  rw [h3.length]
  cases e : ixN ds.length z with
  | none => rw [e] at hx; cases hx
  | some j' =>
    rw [e] at hx
    obtain ⟨u', hu', ru'⟩ := h3.get (show ds[j']? = some d from hx)
    have hjj : j' = j := by
      have := (ixN_seq e).1
      rw [this] at hj
      exact Option.some.inj hj
    subst hjj
    exact hu
/-- a part of a slice -/
def GP (X : Cx) (m : Bool) (e : Option Expr) (Γ : List Sl) (τ : Tape) (z : Option Int) (τ' : Tape) : Prop :=
  match e with
  | none => z = none ∧ τ' = τ
  | some e => ∃ i, z = some i ∧ GE X m e Γ τ (.int i) τ'
def uP (X : Cx) (e : Option Expr) : TO := match e with
  | none => tNoPart
  | some e => tPart (uE X e)
theorem po_u {e : Option Expr} : PO X e (uP X e) := by
  cases e with
  | none => exact po_none
  | some e => exact po_some pe_u
theorem GP.run {e : Option Expr} {lo : Option Int} (h : GP X m e Γ τ lo τ1) {E : Ent} {σ : L2.St} {Hb H : Hp} {Q : Option Int → Hp → Prop} (S : StOk X.K X.mg m E Γ τ σ Hb H) (q : ∀ Hb' H', Grow m E Hb H Hb' H' → TpOk m E τ1 Hb' H' → Q lo H') : uP X e σ H Q := by
  cases e with
  | none =>
    obtain ⟨rfl, rfl⟩ := h
    exact q Hb H (Grow.refl S.same) S.tp
  | some e =>
    obtain ⟨i, rfl, h⟩ := h
    exact h E σ Hb H _ S fun v Hb1 H1 g1 t1 r1 => ⟨i, Rp.int_inv r1, q Hb1 H1 g1 t1⟩
def cutD (xs : List D) (lo hi : Option Int) : List D := (xs.drop (HT.sIx xs.length 0 lo)).take (HT.sIx xs.length xs.length hi - HT.sIx xs.length 0 lo)
theorem RpA.cut {K : PySem.W.Frag} {mg : Str → Option Value} {H : Hp} {vs : List V} {lo hi : Option Int} (r : RpA K mg H vs ds) : RpA K mg H (cutV vs lo hi) (cutD ds lo hi) := by
  unfold cutV cutD
  rw [r.length]
  exact (r.drop _).take _
theorem gp_none : GP X m none Γ τ none τ := ⟨rfl, rfl⟩
theorem gp_some (h : GE X m e Γ τ (.int z) τ1) : GP X m (some e) Γ τ (some z) τ1 := ⟨z, rfl, h⟩
variable {lo hi : Option Expr} {zl zh : Option Int}
theorem gn_sl (ha : GL X m a Γ τ ds τ1) (hl : GP X m lo Γ τ1 zl τ2) (hh : GP X m hi Γ τ2 zh τ3) : GN X m (.Subscript a (.Slice lo hi none p2) pos) Γ τ (cutD ds zl zh) τ3 := by
  intro E σ Hb H Q S q
  refine u_of_pe (pe_slice sl_list pe_u po_u po_u) (ha E σ Hb H _ S fun v Hb1 H1 g1 t1 r1 => hl.run (S.grow g1 t1) fun Hb2 H2 g2 t2 => hh.run ((S.grow g1 t1).grow g2 t2) fun Hb3 H3 g3 t3 => ?_)
  obtain ⟨p, vs, rfl, h1, h2, h3, _⟩ := (r1.grow g2).grow g3
  exact ⟨p, vs, rfl, SqL.of h1, fun l hl => gn_fin (σ := σ) q ((g1.trans g2).trans g3) t3 hl (Nat.le_trans (cutV_length _ _ _) h2) h3.cut⟩
theorem gn_rev {kk : Nat} (ha : GL X m a Γ τ ds τ1) : GN X m (.Subscript a (.Slice none none (some (.UnaryOp .USub (.Constant (.int 1) kk p1) p2)) p3) pos) Γ τ ds.reverse τ1 := by
  intro E σ Hb H Q S q
  refine u_of_pe (pe_revL pe_u) (ha E σ Hb H _ S fun v Hb1 H1 g1 t1 r1 => ?_)
  obtain ⟨p, vs, rfl, h1, h2, h3, _⟩ := r1
  exact ⟨p, vs, rfl, SqL.of h1, fun l hl => gn_fin (σ := σ) q g1 t1 hl (by simpa using h2) h3.rev⟩
/-- xs + ys -/
theorem gn_cat (hz : ds1.length + ds2.length ≤ sizeLine) (ha : GL X m a Γ τ ds1 τ1) (hb : GL X m b Γ τ1 ds2 τ2) : GN X m (.BinOp a .Add b pos) Γ τ (ds1 ++ ds2) τ2 := by
  intro E σ Hb H Q S q
  refine u_of_pe (pe_op op_cat pe_u pe_u) (ha E σ Hb H _ S fun v Hb1 H1 g1 t1 r1 => hb E σ Hb1 H1 _ (S.grow g1 t1) fun w Hb2 H2 g2 t2 r2 => ?_)
  obtain ⟨p, vs, rfl, h1, h2, h3, _⟩ := r1.grow g2
  obtain ⟨p', vs', rfl, h1', h2', h3', _⟩ := r2
  have hz' : vs.length + vs'.length ≤ sizeLine := by rw [h3.length, h3'.length]; exact hz
  exact ⟨p, p', vs, vs', rfl, rfl, h1, h1', hz', fun l hl => gn_fin (σ := σ) q (g1.trans g2) t2 hl (by rw [List.length_append]; exact hz') (h3.append h3')⟩
/-- xs * n -/
theorem gn_rep (hz : ds.length * z.toNat ≤ sizeLine) (h1 : -(2 ^ 63) ≤ z) (h2 : z < 2 ^ 63) (ha : GL X m a Γ τ ds τ1) (hb : GE X m b Γ τ1 (.int z) τ2) : GN X m (.BinOp a .Mult b pos) Γ τ (List.replicate z.toNat ds).flatten τ2 := by
  intro E σ Hb H Q S q
  refine u_of_pe (pe_op op_rep pe_u pe_u) (ha E σ Hb H _ S fun v Hb1 H1 g1 t1 r1 => hb E σ Hb1 H1 _ (S.grow g1 t1) fun w Hb2 H2 g2 t2 r2 => ?_)
  obtain ⟨p, vs, rfl, a1, a2, a3, _⟩ := r1.grow g2
  cases (Rp.int_inv r2)
  have hz' : vs.length * z.toNat ≤ sizeLine := by rw [a3.length]; exact hz
  exact ⟨p, z, vs, rfl, rfl, a1, h1, h2, hz', fun l hl => gn_fin (σ := σ) q (g1.trans g2) t2 hl (by rw [(a3.rep _).length, List.length_flatten]; simp [Nat.mul_comm]; rw [Nat.mul_comm]; exact hz) (a3.rep _)⟩
end
end PD

set_option Elab.async false
set_option linter.all false
set_option maxRecDepth 100000
set_option maxHeartbeats 1000000
namespace PD
open PySem PySem.Spec PyProof.Rows L2

/-! ### what is walked -/
/-- the iterator J gives the data ds, as long as the base stays and the objects at wt are as in H -/
structure ItOk (K : PySem.W.Frag) (mg : Str → Option Value) (J : It) (Hb H : Hp) (wt : List Addr) (ds : List D) : Prop where
  item : ∀ (i : Nat) (d : D) (Hb1 H1 : Hp), ds[i]? = some d → Same Hb Hb1 → Same Hb1 H1 → (∀ p ∈ wt, H1 p = H p) → J.go i H1 ∧ ∀ x H2, J.yld i H1 x H2 → ∃ Hb2, Grow false ⟨Hb1, H1, 0, 0⟩ Hb1 H1 Hb2 H2 ∧ Rp K mg Hb2 x d
  stop : ∀ (Hb1 H1 : Hp), Same Hb Hb1 → Same Hb1 H1 → (∀ p ∈ wt, H1 p = H p) → J.stop ds.length H1
def uI (X : Cx) (tg iter : Expr) : TI := fun σ H R => ∀ pins s, Inv X pins σ H s → wpAny (model X.prog X.w) X.A (eval iter X.env) (fun v s1 => wpAny (model X.prog X.w) X.A (pyIter v) (PIE X pins σ tg R) X.xe s1) X.xe s
theorem pi_u {X : Cx} {tg iter : Expr} : PI X tg iter (uI X tg iter) := ⟨fun pins s _ _ _ I h => h pins s I⟩
theorem u_of_pi {X : Cx} {tg iter : Expr} {t : TI} (h : PI X tg iter t) {σ : L2.St} {H : Hp} {R : It → Hp → Prop} (q : t σ H R) : uI X tg iter σ H R := fun pins s I => h.run pins s σ H R I q
/-- iter is walked: it gives ds; w: one's own lists may be walked -/
def GI (X : Cx) (m w : Bool) (tg iter : Expr) (Γ : List Sl) (τ : Tape) (ds : List D) (τ' : Tape) : Prop :=
  ∀ E σ Hb H R, StOk X.K X.mg m E Γ τ σ Hb H → (∀ J Hb' H' wt, Grow m E Hb H Hb' H' → TpOk m E τ' Hb' H' → ItOk X.K X.mg J Hb' H' wt ds → (w = false → wt = []) → (∀ p ∈ wt, H' p ≠ none ∧ (m = true → p ≠ E.tp ∧ p ≠ E.lg)) → R J H') → uI X tg iter σ H R

section
variable {X : Cx} {m w : Bool} {Γ Γ' : List Sl} {τ τ' τ1 τ2 τ3 : Tape} {a b c e tg iter : Expr} {es : List Expr} {d d1 d2 d3 : D} {ds ds1 ds2 : List D} {o o1 o2 o3 : Opd} {pos p1 p2 p3 p4 tpos : Pos} {k kk : Nat} {i j : Nat} {x : Str} {sc scope : Scope} {N : List Str}
theorem gi_weak (h : GI X m false tg iter Γ τ ds τ1) : GI X m true tg iter Γ τ ds τ1 := fun E σ Hb H R S q => h E σ Hb H R S fun J Hb1 H1 wt g1 t1 o1 hw hp => q J Hb1 H1 wt g1 t1 o1 (fun z => by cases z) hp
theorem grow0 {Hb H : Hp} {E : Ent} (e : Same Hb H) : Grow false E Hb H Hb H := Grow.refl e
/-- an object just made is taken into the base -/
theorem grow_pair {Hb H : Hp} {E : Ent} {T : Addr} {o : HO} (e : Same Hb H) (h : H T = none) : Grow false E Hb H (upd Hb T o) (upd H T o) := by
  have hb : Hb T = none := by
    cases q : Hb T with
    | none => rfl
    | some u => rw [e T u q] at h; cases h
  exact (Grow.alloc e h).freeze h hb upd_same
theorem gi_list (h : GE X m e Γ τ (.lst ds) τ1) : GI X m w tg e Γ τ ds τ1 := fun E σ Hb H R S q => u_of_pi (pi_list pe_u) (h E σ Hb H _ S fun v Hb1 H1 g1 t1 r1 => by
  obtain ⟨p, vs, rfl, h1, h2, h3⟩ := Rp.lst_inv r1
  refine ⟨p, rfl, ⟨vs, SqL.of (g1.e _ _ h1)⟩, q _ Hb1 H1 [] g1 t1 ⟨fun i d Hb2 H2 hd s1 s2 _ => ?_, fun Hb2 H2 s1 s2 _ => ?_⟩ (fun _ => rfl) (fun p hp => by cases hp)⟩
  · obtain ⟨v, hv, rv⟩ := h3.get hd
    have hl : SqL X.K H2 p vs := SqL.of (s2 _ _ (s1 _ _ h1))
    refine ⟨⟨vs, v, hl, hv⟩, fun x H3 y => ?_⟩
    obtain ⟨rfl, y⟩ := y
    have : v = x := Option.some.inj (hv.symm.trans (y vs hl))
    subst this
    exact ⟨Hb2, grow0 s2, rv.mono s1⟩
  · exact ⟨vs, SqL.of (s2 _ _ (s1 _ _ h1)), by rw [h3.length]; exact Nat.le_refl _⟩)
/-- one's own list walked, for a comprehension -/
theorem gi_listO (h : GL X m e Γ τ ds τ1) : GI X m true tg e Γ τ ds τ1 := fun E σ Hb H R S q => u_of_pi (pi_list pe_u) (h E σ Hb H _ S fun v Hb1 H1 g1 t1 r1 => by
  obtain ⟨p, vs, rfl, h1, h2, h3, h4⟩ := r1
  refine ⟨p, rfl, ⟨vs, SqL.of h1⟩, q _ Hb1 H1 [p] g1 t1 ⟨fun i d Hb2 H2 hd s1 s2 hp => ?_, fun Hb2 H2 s1 s2 hp => ?_⟩ (fun z => by cases z) (fun p' hp => by
    have : p' = p := by simpa using hp
    subst this
    exact ⟨by rw [h1]; exact fun z => (by cases z), h4⟩)⟩
  · obtain ⟨v, hv, rv⟩ := h3.get hd
    have hl : SqL X.K H2 p vs := SqL.of ((hp p (by simp)).trans h1)
    refine ⟨⟨vs, v, hl, hv⟩, fun x H3 y => ?_⟩
    obtain ⟨rfl, y⟩ := y
    have : v = x := Option.some.inj (hv.symm.trans (y vs hl))
    subst this
    exact ⟨Hb2, grow0 s2, rv.mono s1⟩
  · exact ⟨vs, SqL.of ((hp p (by simp)).trans h1), by rw [h3.length]; exact Nat.le_refl _⟩)
theorem gi_tup (h : GE X m e Γ τ (.tup ds) τ1) : GI X m w tg e Γ τ ds τ1 := fun E σ Hb H R S q => u_of_pi (pi_tup pe_u) (h E σ Hb H _ S fun v Hb1 H1 g1 t1 r1 => by
  obtain ⟨p, vs, rfl, h1, h2, h3⟩ := Rp.tup_inv r1
  refine ⟨p, rfl, ⟨vs, (same_t g1.e h1).sq⟩, q _ Hb1 H1 [] g1 t1 ⟨fun i d Hb2 H2 hd s1 s2 _ => ?_, fun Hb2 H2 s1 s2 _ => ?_⟩ (fun _ => rfl) (fun p hp => by cases hp)⟩
  · obtain ⟨v, hv, rv⟩ := h3.get hd
    have hl : SqT X.K H2 p vs := (same_t s2 (same_t s1 h1)).sq
    refine ⟨⟨vs, v, hl, hv⟩, fun x H3 y => ?_⟩
    obtain ⟨rfl, y⟩ := y
    have : v = x := Option.some.inj (hv.symm.trans (y vs hl))
    subst this
    exact ⟨Hb2, grow0 s2, rv.mono s1⟩
  · exact ⟨vs, (same_t s2 (same_t s1 h1)).sq, by rw [h3.length]; exact Nat.le_refl _⟩)
/-- lo, lo + 1, .., n of them -/
def irange (lo : Int) (n : Nat) : List Int := (List.range n).map fun (i : Nat) => lo + (i : Int)
theorem it_range {K : PySem.W.Frag} {mg : Str → Option Value} {Hb H : Hp} {lo : Int} {n : Nat} : ItOk K mg (Itr lo n) Hb H [] ((irange lo n).map .int) := by
  refine ⟨fun i d Hb2 H2 hd s1 s2 _ => ?_, fun Hb2 H2 s1 s2 _ => ?_⟩
  · have hi : i < n := by
      have := (List.getElem?_eq_some_iff.mp hd).1
      simpa [irange] using this
    refine ⟨hi, fun x H3 y => ?_⟩
    obtain ⟨rfl, rfl⟩ := y
    have : d = .int (lo + i) := by
      simp only [irange, List.getElem?_map, List.getElem?_range hi, Option.map_some] at hd
      exact (Option.some.inj hd).symm
    subst this
    exact ⟨Hb2, grow0 s2, Rp.int _⟩
  · show n ≤ _
    simp [irange]
variable {z zw : Int}
theorem gi_range1 (B : Bt X.mg) (hg : Gl X "range") (h1 : -(2 ^ 62) ≤ z) (h2 : z < 2 ^ 62) (ha : GE X m a Γ τ (.int z) τ1) (hs : starEach [a] X.env = [(false, eval a X.env)] := by rfl) : GI X m w tg (.Call (.Name "range" p1) [a] [] pos) Γ τ ((irange 0 z.toNat).map .int) τ1 := fun E σ Hb H R S q =>
  u_of_pi (pi_range1 hg B.range pa_u hs) (u_arg1 hs (ha E σ Hb H _ S fun v Hb1 H1 g1 t1 r1 => by
    cases (Rp.int_inv r1)
    exact ⟨z, rfl, h1, h2, q _ Hb1 H1 [] g1 t1 it_range (fun _ => rfl) (fun p hp => by cases hp)⟩))
theorem gi_range2 (B : Bt X.mg) (hg : Gl X "range") (h1 : -(2 ^ 62) ≤ z ∧ z < 2 ^ 62 ∧ -(2 ^ 62) ≤ zw ∧ zw < 2 ^ 62) (ha : GE X m a Γ τ (.int z) τ1) (hb : GE X m b Γ τ1 (.int zw) τ2) (hs : starEach [a, b] X.env = [(false, eval a X.env), (false, eval b X.env)] := by rfl) (hs2 : starEach [b] X.env = [(false, eval b X.env)] := by rfl) :
    GI X m w tg (.Call (.Name "range" p1) [a, b] [] pos) Γ τ ((irange z (zw - z).toNat).map .int) τ2 := fun E σ Hb H R S q =>
  u_of_pi (pi_range2 hg B.range pa_u hs hs2) (u_of_pa (pa_cons pe_u (pa_cons pe_u pa_nil hs2) (by rw [hs, hs2])) (ha E σ Hb H _ S fun v Hb1 H1 g1 t1 r1 => hb E σ Hb1 H1 _ (S.grow g1 t1) fun u Hb2 H2 g2 t2 r2 => by
    cases (Rp.int_inv r1); cases (Rp.int_inv r2)
    exact ⟨z, zw, rfl, h1, q _ Hb2 H2 [] (g1.trans g2) t2 it_range (fun _ => rfl) (fun p hp => by cases hp)⟩))
/-- the pairs of enumerate -/
def enumD : Nat → List D → List D
  | _, [] => []
  | k, d :: ds => .tup [.int k, d] :: enumD (k + 1) ds
theorem enumD_get : ∀ {k : Nat} {ds : List D} {i : Nat}, (enumD k ds)[i]? = (ds[i]?).map fun d => .tup [.int ((k + i : Nat) : Int), d]
  | _, [], _ => by simp [enumD]
  | k, d :: ds, 0 => by simp [enumD]
  | k, d :: ds, i + 1 => by
    simp only [enumD, List.getElem?_cons_succ]
    rw [enumD_get]
    congr 1
    funext x
    have : k + 1 + i = k + (i + 1) := by omega
    rw [this]
theorem enumD_len : ∀ {k : Nat} {ds : List D}, (enumD k ds).length = ds.length
  | _, [] => rfl
  | k, d :: ds => by simp [enumD, enumD_len]
theorem two_le : (2 : Nat) ≤ sizeLine := by decide
theorem it_enum {K : PySem.W.Frag} {mg : Str → Option Value} {Hb H : Hp} {p : Addr} {vs : List V} {wt : List Addr} (hl : ∀ Hb1 H1, Same Hb Hb1 → Same Hb1 H1 → (∀ p ∈ wt, H1 p = H p) → SqL K H1 p vs) (r : RpA K mg Hb vs ds) : ItOk K mg (Ite K p) Hb H wt (enumD 0 ds) := by
  refine ⟨fun i d Hb2 H2 hd s1 s2 hp => ?_, fun Hb2 H2 s1 s2 hp => ?_⟩
  · rw [enumD_get] at hd
    cases hdi : ds[i]? with
    | none => rw [hdi] at hd; cases hd
    | some d0 =>
      rw [hdi] at hd
      have hd : D.tup [.int ((0 + i : Nat) : Int), d0] = d := Option.some.inj hd
      subst hd
      obtain ⟨v, hv, rv⟩ := r.get hdi
      have h2 := hl Hb2 H2 s1 s2 hp
      refine ⟨⟨vs, v, h2, hv⟩, fun x H3 y => ?_⟩
      obtain ⟨T, x', rfl, hT, rfl, y⟩ := y
      have : v = x' := Option.some.inj (hv.symm.trans (y vs h2))
      subst this
      have hg := grow_pair (E := ⟨Hb2, H2, 0, 0⟩) (o := .tup [.int ((i : Nat) : Int), v]) s2 hT
      refine ⟨_, hg, Rp.tup (.inl upd_same) two_le (.cons ?_ (.cons ((rv.mono s1).mono hg.b) .nil))⟩
      rw [Nat.zero_add]
      exact Rp.int _
  · exact ⟨vs, hl Hb2 H2 s1 s2 hp, by rw [enumD_len, r.length]; exact Nat.le_refl _⟩
variable {elts : List Expr}
theorem gi_enum (B : Bt X.mg) (hg : Gl X "enumerate") (h : GE X m e Γ τ (.lst ds) τ1) (hs : starEach [e] X.env = [(false, eval e X.env)] := by rfl) : GI X m w (.Tuple elts kk tpos) (.Call (.Name "enumerate" p1) [e] [] pos) Γ τ (enumD 0 ds) τ1 := fun E σ Hb H R S q =>
  u_of_pi (pi_enum hg B.enumerate pa_u hs) (u_arg1 hs (h E σ Hb H _ S fun v Hb1 H1 g1 t1 r1 => by
    obtain ⟨p, vs, rfl, h1, h2, h3⟩ := Rp.lst_inv r1
    exact ⟨p, vs, rfl, SqL.of (g1.e _ _ h1), q _ Hb1 H1 [] g1 t1 (it_enum (fun Hb2 H2 s1 s2 _ => SqL.of (s2 _ _ (s1 _ _ h1))) h3) (fun _ => rfl) (fun p hp => by cases hp)⟩))
theorem gi_enumO (B : Bt X.mg) (hg : Gl X "enumerate") (h : GL X m e Γ τ ds τ1) (hs : starEach [e] X.env = [(false, eval e X.env)] := by rfl) : GI X m true (.Tuple elts kk tpos) (.Call (.Name "enumerate" p1) [e] [] pos) Γ τ (enumD 0 ds) τ1 := fun E σ Hb H R S q =>
  u_of_pi (pi_enum hg B.enumerate pa_u hs) (u_arg1 hs (h E σ Hb H _ S fun v Hb1 H1 g1 t1 r1 => by
    obtain ⟨p, vs, rfl, h1, h2, h3, h4⟩ := r1
    exact ⟨p, vs, rfl, SqL.of h1, q _ Hb1 H1 [p] g1 t1 (it_enum (fun Hb2 H2 s1 s2 hp => SqL.of ((hp p (by simp)).trans h1)) h3) (fun z => by cases z) (fun p' hp => by
      have : p' = p := by simpa using hp
      subst this
      exact ⟨by rw [h1]; exact fun z => (by cases z), h4⟩)⟩))
/-- the pairs of zip -/
def zipD (xs ys : List D) : List D := List.zipWith (fun a b => .tup [a, b]) xs ys
theorem zipD_get {xs ys : List D} {i : Nat} {d : D} (h : (zipD xs ys)[i]? = some d) : ∃ a b, xs[i]? = some a ∧ ys[i]? = some b ∧ d = .tup [a, b] := by
  unfold zipD at h
  rw [List.getElem?_zipWith] at h
  cases hx : xs[i]? with
  | none => rw [hx] at h; cases h
  | some a =>
    cases hy : ys[i]? with
    | none => rw [hx, hy] at h; cases h
    | some b =>
      rw [hx, hy] at h
      exact ⟨a, b, rfl, rfl, (Option.some.inj h).symm⟩
theorem it_zip {K : PySem.W.Frag} {mg : Str → Option Value} {Hb H : Hp} {p p' : Addr} {vs vs' : List V} {wt : List Addr} (hl : ∀ Hb1 H1, Same Hb Hb1 → Same Hb1 H1 → (∀ p ∈ wt, H1 p = H p) → SqL K H1 p vs ∧ SqL K H1 p' vs') (r : RpA K mg Hb vs ds1) (r' : RpA K mg Hb vs' ds2) : ItOk K mg (Itz K p p') Hb H wt (zipD ds1 ds2) := by
  refine ⟨fun i d Hb2 H2 hd s1 s2 hp => ?_, fun Hb2 H2 s1 s2 hp => ?_⟩
  · obtain ⟨da, db, ha, hb, rfl⟩ := zipD_get hd
    obtain ⟨v, hv, rv⟩ := r.get ha
    obtain ⟨v', hv', rv'⟩ := r'.get hb
    obtain ⟨l1, l2⟩ := hl Hb2 H2 s1 s2 hp
    refine ⟨⟨vs, vs', v, v', l1, l2, hv, hv'⟩, fun x H3 y => ?_⟩
    obtain ⟨T, x1, x2, rfl, hT, rfl, y1, y2⟩ := y
    have e1 : v = x1 := Option.some.inj (hv.symm.trans (y1 vs l1))
    have e2 : v' = x2 := Option.some.inj (hv'.symm.trans (y2 vs' l2))
    subst e1; subst e2
    have hg := grow_pair (E := ⟨Hb2, H2, 0, 0⟩) (o := .tup [v, v']) s2 hT
    exact ⟨_, hg, Rp.tup (.inl upd_same) two_le (.cons ((rv.mono s1).mono hg.b) (.cons ((rv'.mono s1).mono hg.b) .nil))⟩
  · obtain ⟨l1, l2⟩ := hl Hb2 H2 s1 s2 hp
    refine ⟨vs, vs', l1, l2, ?_⟩
    rw [r.length, r'.length]
    simp only [zipD, List.length_zipWith]
    omega
theorem it_zipT {K : PySem.W.Frag} {mg : Str → Option Value} {Hb H : Hp} {p p' : Addr} {vs vs' : List V} {wt : List Addr} (hl : ∀ Hb1 H1, Same Hb Hb1 → Same Hb1 H1 → (∀ p ∈ wt, H1 p = H p) → SqT K H1 p vs ∧ SqT K H1 p' vs') (r : RpA K mg Hb vs ds1) (r' : RpA K mg Hb vs' ds2) : ItOk K mg (RZ.ItzT K p p') Hb H wt (zipD ds1 ds2) := by
  refine ⟨fun i d Hb2 H2 hd s1 s2 hp => ?_, fun Hb2 H2 s1 s2 hp => ?_⟩
  · obtain ⟨da, db, ha, hb, rfl⟩ := zipD_get hd
    obtain ⟨v, hv, rv⟩ := r.get ha
    obtain ⟨v', hv', rv'⟩ := r'.get hb
    obtain ⟨l1, l2⟩ := hl Hb2 H2 s1 s2 hp
    refine ⟨⟨vs, vs', v, v', l1, l2, hv, hv'⟩, fun x H3 y => ?_⟩
    obtain ⟨T, x1, x2, rfl, hT, rfl, y1, y2⟩ := y
    have e1 : v = x1 := Option.some.inj (hv.symm.trans (y1 vs l1))
    have e2 : v' = x2 := Option.some.inj (hv'.symm.trans (y2 vs' l2))
    subst e1; subst e2
    have hg := grow_pair (E := ⟨Hb2, H2, 0, 0⟩) (o := .tup [v, v']) s2 hT
    exact ⟨_, hg, Rp.tup (.inl upd_same) two_le (.cons ((rv.mono s1).mono hg.b) (.cons ((rv'.mono s1).mono hg.b) .nil))⟩
  · obtain ⟨l1, l2⟩ := hl Hb2 H2 s1 s2 hp
    refine ⟨vs, vs', l1, l2, ?_⟩
    rw [r.length, r'.length]
    simp only [zipD, List.length_zipWith]
    omega
theorem gi_zip (B : Bt X.mg) (hg : Gl X "zip") (ha : GE X m a Γ τ (.lst ds1) τ1) (hb : GE X m b Γ τ1 (.lst ds2) τ2) (hs : starEach [a, b] X.env = (false, eval a X.env) :: starEach [b] X.env := by rfl) (hs2 : starEach [b] X.env = (false, eval b X.env) :: starEach [] X.env := by rfl) (hpl : (backTo pos (starEach [b] X.env)).any (·.1) = false := by rfl) :
    GI X m w (.Tuple elts kk tpos) (.Call (.Name "zip" p1) [a, b] [] pos) Γ τ (zipD ds1 ds2) τ2 := fun E σ Hb H R S q =>
  u_of_pi (pi_zip hg B.zip pa_u hs hpl) (u_of_pa (pa_cons pe_u (pa_cons pe_u pa_nil hs2) hs) (ha E σ Hb H _ S fun v Hb1 H1 g1 t1 r1 => hb E σ Hb1 H1 _ (S.grow g1 t1) fun u Hb2 H2 g2 t2 r2 => by
    obtain ⟨p, vs, rfl, h1, h2, h3⟩ := Rp.lst_inv (Rp.mono g2.b r1)
    obtain ⟨p', vs', rfl, h1', h2', h3'⟩ := Rp.lst_inv r2
    exact ⟨p, p', vs, vs', rfl, SqL.of (g2.e _ _ h1), SqL.of (g2.e _ _ h1'), q _ Hb2 H2 [] (g1.trans g2) t2 (it_zip (fun Hb3 H3 s1 s2 _ => ⟨SqL.of (s2 _ _ (s1 _ _ h1)), SqL.of (s2 _ _ (s1 _ _ h1'))⟩) h3 h3') (fun _ => rfl) (fun p hp => by cases hp)⟩))
theorem gi_zipT (B : Bt X.mg) (hg : Gl X "zip") (ha : GE X m a Γ τ (.tup ds1) τ1) (hb : GE X m b Γ τ1 (.tup ds2) τ2) (hs : starEach [a, b] X.env = (false, eval a X.env) :: starEach [b] X.env := by rfl) (hs2 : starEach [b] X.env = (false, eval b X.env) :: starEach [] X.env := by rfl) (hpl : (backTo pos (starEach [b] X.env)).any (·.1) = false := by rfl) :
    GI X m w (.Tuple elts kk tpos) (.Call (.Name "zip" p1) [a, b] [] pos) Γ τ (zipD ds1 ds2) τ2 := fun E σ Hb H R S q =>
  u_of_pi (RZ.pi_zipA hg B.zip pa_u hs hpl) (u_of_pa (pa_cons pe_u (pa_cons pe_u pa_nil hs2) hs) (ha E σ Hb H _ S fun v Hb1 H1 g1 t1 r1 => hb E σ Hb1 H1 _ (S.grow g1 t1) fun u Hb2 H2 g2 t2 r2 => by
    obtain ⟨p, vs, rfl, h1, h2, h3⟩ := Rp.tup_inv (Rp.mono g2.b r1)
    obtain ⟨p', vs', rfl, h1', h2', h3'⟩ := Rp.tup_inv r2
    exact ⟨p, p', vs, vs', rfl, .inr ⟨(same_t g2.e h1).sq, (same_t g2.e h1').sq, q _ Hb2 H2 [] (g1.trans g2) t2 (it_zipT (fun Hb3 H3 s1 s2 _ => ⟨(same_t s2 (same_t s1 h1)).sq, (same_t s2 (same_t s1 h1')).sq⟩) h3 h3') (fun _ => rfl) (fun p hp => by cases hp)⟩⟩))

/-! ### targets -/
def uG (X : Cx) (tg : Expr) : TG := fun v σ H Q => ∀ pins s u, Inv X pins σ H s → RelV v u → wpAny (model X.prog X.w) X.A (assign tg X.env u) (fun _ s' => ∃ σ' H', Inv X pins σ' H' s' ∧ Q σ' H') X.xe s
theorem pg_u {X : Cx} {tg : Expr} : PG X tg (uG X tg) := ⟨fun pins s σ H v u Q I r h => h pins s u I r⟩
theorem u_of_pg {t : TG} (h : PG X tg t) {v : V} {σ : L2.St} {H : Hp} {Q : L2.St → Hp → Prop} (q : t v σ H Q) : uG X tg v σ H Q := fun pins s u I r => h.run pins s σ H v u Q I r q
/-- the target takes d; only slots of vs change -/
def GG (X : Cx) (m : Bool) (tg : Expr) (d : D) (vs : List Nat) (Γ Γ' : List Sl) : Prop :=
  ∀ E τ σ Hb H v Q, StOk X.K X.mg m E Γ τ σ Hb H → Rp X.K X.mg Hb v d → (∀ σ' : L2.St, StOk X.K X.mg m E Γ' τ σ' Hb H → (∀ j, j ∉ vs → σ'[j]? = σ[j]?) → σ'.length = σ.length → Q σ' H) → uG X tg v σ H Q
def uGs (X : Cx) (ts : List Expr) : TGs := fun vs σ H Q => ∀ pins s us, Inv X pins σ H s → Vals vs us → wpAny (model X.prog X.w) X.A (assignInOrder ((assignEach ts X.env).map (·.2)) us) (fun _ s' => ∃ σ' H', Inv X pins σ' H' s' ∧ Q σ' H') X.xe s
theorem pgs_u {ts : List Expr} : PGs X ts (uGs X ts) := ⟨fun pins s σ H vs us Q I r h => h pins s us I r⟩
theorem u_of_pgs {ts : List Expr} {t : TGs} (h : PGs X ts t) {vs : List V} {σ : L2.St} {H : Hp} {Q : L2.St → Hp → Prop} (q : t vs σ H Q) : uGs X ts vs σ H Q := fun pins s us I r => h.run pins s σ H vs us Q I r q
def GGs (X : Cx) (m : Bool) (tgs : List Expr) (ds : List D) (vs : List Nat) (Γ Γ' : List Sl) : Prop :=
  ∀ E τ σ Hb H us Q, StOk X.K X.mg m E Γ τ σ Hb H → RpA X.K X.mg Hb us ds → (∀ σ' : L2.St, StOk X.K X.mg m E Γ' τ σ' Hb H → (∀ j, j ∉ vs → σ'[j]? = σ[j]?) → σ'.length = σ.length → Q σ' H) → uGs X tgs us σ H Q
variable {vs : List Nat}
theorem gg_name (nd : X.N.Nodup) (n : Sm X i x) (hv : i ∈ vs := by simp) : GG X m (.Name x pos) d vs Γ (Γ.set i (.dat d)) := by
  intro E τ σ Hb H v Q S r q
  refine u_of_pg (pg_name nd n.n n.v n.f) ?_
  refine q _ (S.setDat r) (fun j hj => ?_) (by simp)
  have : i ≠ j := fun e => hj (by rw [← e]; exact hv)
  rw [List.getElem?_set_ne this]
theorem ggs_nil : GGs X m [] [] vs Γ Γ := fun E τ σ Hb H us Q S r q => by
  cases r
  exact u_of_pgs pgs_nil ⟨rfl, q σ S (fun _ _ => rfl) rfl⟩
theorem ggs_cons {tgs : List Expr} {Γ1 : List Sl} (h1 : GG X m tg d vs Γ Γ1) (h2 : GGs X m tgs ds vs Γ1 Γ') (hs : (assignEach (tg :: tgs) X.env).map (·.2) = assign tg X.env :: (assignEach tgs X.env).map (·.2) := by rfl) : GGs X m (tg :: tgs) (d :: ds) vs Γ Γ' := fun E τ σ Hb H us Q S r q => by
  cases r with
  | cons r rr =>
    refine u_of_pgs (pgs_cons pg_u pgs_u hs) ⟨_, _, rfl, h1 E τ σ Hb H _ _ S r fun σ1 S1 k1 l1 => ?_⟩
    exact h2 E τ σ1 Hb H _ Q S1 rr fun σ2 S2 k2 l2 => q σ2 S2 (fun j hj => (k2 j hj).trans (k1 j hj)) (l2.trans l1)
theorem gg_tup {tgs : List Expr} (hc : X.calm = true) (h : GGs X m tgs ds vs Γ Γ') (hn : (assignEach tgs X.env).length = ds.length := by rfl) (hst : (assignEach tgs X.env).findIdx? (·.1) = none := by rfl) : GG X m (.Tuple tgs kk pos) (.tup ds) vs Γ Γ' := fun E τ σ Hb H v Q S r q => by
  obtain ⟨p, us, rfl, h1, h2, h3⟩ := Rp.tup_inv r
  exact u_of_pg (pg_tup hc pgs_u hn hst) ⟨p, us, rfl, (same_t S.same h1).sq, h3.length, h E τ σ Hb H us Q S h3 q⟩
end
end PD

set_option Elab.async false
set_option linter.all false
set_option maxRecDepth 100000
set_option maxHeartbeats 1000000
namespace PD
open PySem PySem.Spec PyProof.Rows L2

/-! ### a comprehension's block -/
structure Blk (X X' : Cx) (scope : Scope) : Prop where
  cn : ∀ {sc : Scope} {N : List Str} {k : Nat}, Cn X sc N k → Cn X' scope N k
  w : wd X' = wd X
theorem lookup_rel {env : Env} : ∀ {names : List (Str × NameKind)} {x : Str} {k : NameKind}, names.lookup x = some k →
    (names.map fun (n, k) => if (k == NameKind.free && env.scope.kind == .function && env.kindOf n == some .cell) then (n, NameKind.cell) else (n, k)).lookup x = some k ∨
    (k = .free ∧ (names.map fun (n, k) => if (k == NameKind.free && env.scope.kind == .function && env.kindOf n == some .cell) then (n, NameKind.cell) else (n, k)).lookup x = some .cell)
  | [], _, _, h => by simp at h
  | (n, k₀) :: r, x, k, h => by
    have ih := @lookup_rel env r x k
    simp only [List.map_cons]
    cases hx : x == n with
    | true =>
      simp only [List.lookup_cons, hx] at h
      cases h
      by_cases hc : (k₀ == NameKind.free && env.scope.kind == .function && env.kindOf n == some .cell) = true
      · rw [if_pos hc]
        refine .inr ⟨?_, by simp only [List.lookup_cons, hx]⟩
        simp only [Bool.and_eq_true, beq_iff_eq] at hc
        exact hc.1.1
      · rw [if_neg hc]
        exact .inl (by simp only [List.lookup_cons, hx])
    | false =>
      simp only [List.lookup_cons, hx] at h
      by_cases hc : (k₀ == NameKind.free && env.scope.kind == .function && env.kindOf n == some .cell) = true
      · rw [if_pos hc]; simp only [List.lookup_cons, hx]; exact ih h
      · rw [if_neg hc]; simp only [List.lookup_cons, hx]; exact ih h
theorem blk_of {X : Cx} {scope : Scope} {s : Shared} {H : Hp} {C : Addr} {cl : List (Str × Addr)} {fp : List Addr} (hk : scope.kind = .function) : Blk X (X.blk s H scope (compEnvC scope cl C X.env) fp) scope := by
  refine ⟨fun {sc N k} c => ⟨c.hN, c.nd, fun x h => ?_, fun x h => ?_, fun x h => ?_, fun x h => ?_, c.r, c.calm, hk, rfl⟩, rfl⟩
  · rcases lookup_rel (env := X.env) h with e | ⟨e, _⟩
    · exact e
    · cases e
  · rcases h with h | h
    · rcases lookup_rel (env := X.env) h with e | ⟨e, _⟩
      · exact .inl e
      · cases e
    · rcases lookup_rel (env := X.env) h with e | ⟨_, e⟩
      · exact .inr e
      · exact .inl e
  · rcases lookup_rel (env := X.env) h with e | ⟨e, _⟩
    · exact e
    · cases e
  · rcases lookup_rel (env := X.env) h with e | ⟨e, _⟩
    · exact ⟨e, by show (scope.names.lookup x == some .cell) = true; rw [h]; rfl⟩
    · cases e

/-- the slots of the block's own names forgotten -/
def wipeG (Γ : List Sl) : List Nat → List Sl
  | [] => Γ
  | v :: vs => (wipeG Γ vs).set v .no
theorem wipeG_length (Γ : List Sl) : ∀ vs : List Nat, (wipeG Γ vs).length = Γ.length
  | [] => rfl
  | v :: vs => by unfold wipeG; rw [List.length_set, wipeG_length Γ vs]
theorem wipeG_some {Γ : List Sl} {i : Nat} {x : Sl} : ∀ {vs : List Nat}, (wipeG Γ vs)[i]? = some x → x ≠ .no → Γ[i]? = some x ∧ i ∉ vs
  | [], h, _ => ⟨h, by simp⟩
  | v :: vs, h, hx => by
    unfold wipeG at h
    by_cases hi : v = i
    · subst hi
      rw [List.getElem?_set] at h
      simp only [if_true] at h
      split at h
      · cases h; exact absurd rfl hx
      · cases h
    · rw [List.getElem?_set_ne hi] at h
      obtain ⟨h1, h2⟩ := wipeG_some h hx
      exact ⟨h1, by simp only [List.mem_cons, not_or]; exact ⟨fun e => hi e.symm, h2⟩⟩
theorem wipe_not {σ : L2.St} {i : Nat} : ∀ {vs : List Nat}, i ∉ vs → (wipe σ vs)[i]? = σ[i]?
  | [], _ => rfl
  | v :: vs, h => by
    unfold wipe
    rw [List.getElem?_set_ne (fun e => h (by simp [e])), wipe_not (fun e => h (by simp [e]))]
theorem wipe_in {σ : L2.St} {i : Nat} : ∀ {vs : List Nat}, i ∈ vs → (wipe σ vs)[i]? = if i < σ.length then some none else none
  | [], h => by simp at h
  | v :: vs, h => by
    unfold wipe
    by_cases hv : v = i
    · subst hv
      rw [List.getElem?_set]
      simp [wipe_length]
    · rw [List.getElem?_set_ne hv]
      exact wipe_in (by simpa [Ne.symm hv] using h)
theorem wipe_eq {σ σ' : L2.St} {vs : List Nat} (h : ∀ j, j ∉ vs → σ'[j]? = (wipe σ vs)[j]?) (hl : σ'.length = (wipe σ vs).length) : wipe σ' vs = wipe σ vs := by
  apply List.ext_getElem?
  intro i
  by_cases hi : i ∈ vs
  · rw [wipe_in hi, wipe_in hi, hl, wipe_length]
  · rw [wipe_not hi, h i hi]
theorem StOk.wipe {K : PySem.W.Frag} {mg : Str → Option Value} {m : Bool} {E : Ent} {Γ : List Sl} {τ : Tape} {σ : L2.St} {Hb H : Hp} (s : StOk K mg m E Γ τ σ Hb H) (vs : List Nat) : StOk K mg m E (wipeG Γ vs) τ (L2.wipe σ vs) Hb H :=
  s.sub (by rw [wipeG_length, wipe_length, s.len]) fun i sl h hn => by
    obtain ⟨h1, h2⟩ := wipeG_some h hn
    exact ⟨h1, wipe_not h2⟩

/-- a clause's tests -/
def GTs (X : Cx) (m : Bool) (ifs : List Expr) (Γ : List Sl) (τ : Tape) (b : Bool) (τ' : Tape) : Prop :=
  match ifs with
  | [] => b = true ∧ τ' = τ
  | [c] => GT X m c Γ τ b τ'
  | _ => False
def uTs (X : Cx) (ifs : List Expr) : TT := match ifs with
  | [] => tYes
  | [c] => uT X c
  | _ => fun _ _ _ => False
theorem pts_u {X : Cx} {ifs : List Expr} : PTs X ifs (uTs X ifs) := by
  match ifs with
  | [] => exact pts_nil
  | [c] => exact pts_one pt_u
  | _ :: _ :: _ => exact ⟨fun _ _ _ _ _ _ h => False.elim h⟩
theorem PTs.allU {X : Cx} {ifs : List Expr} {t : TT} (h : ∀ σ H Q, t σ H Q → uTs X ifs σ H Q) : PTs X ifs t := ⟨fun pins s σ H Q I q => pts_u.run pins s σ H Q I (h σ H Q q)⟩

/-- what a comprehension gives: c the test, f the item, the tape handed on -/
def scan {α : Type} (c : α → Tape → Bool × Tape) (f : α → Tape → D × Tape) : List α → Tape → List D × Tape
  | [], τ => ([], τ)
  | x :: xs, τ => if (c x τ).1 = true then ((f x (c x τ).2).1 :: (scan c f xs (f x (c x τ).2).2).1, (scan c f xs (f x (c x τ).2).2).2) else scan c f xs (c x τ).2

section
variable {X : Cx} {m w : Bool} {Γ Γ' : List Sl} {τ τ' τ1 τ2 τ3 : Tape} {a b e elt tg iter : Expr} {ifs es : List Expr} {d d1 d2 d3 : D} {ds ds1 ds2 : List D} {pos p1 p2 p3 p4 tpos : Pos} {k kk : Nat} {i j : Nat} {x : Str} {sc scope : Scope} {N : List Str} {own : List (Str × Nat)} {α : Type}
theorem Grow.upd {E : Ent} {Hb H Hb' H' : Hp} (g : Grow m E Hb H Hb' H') {p : Addr} {o : HO} (h : H p = none) (hb : Hb' p = none) : Grow m E Hb H Hb' (upd H' p o) :=
  ⟨g.b, fun q u hq => by rw [upd_ne (ne_of_none hq hb)]; exact g.e q u hq, fun q u hq z => by rw [upd_ne (ne_of_none hq h)]; exact g.k q u hq z, g.f, fun q hq => by
    by_cases hp : q = p
    · subst hp; rw [upd_same]; exact fun z => by cases z
    · rw [upd_ne hp]; exact g.n q hq⟩
/-- a list under way (a comprehension's) is changed: nothing of the slots is touched -/
theorem StOk.other {K : PySem.W.Frag} {mg : Str → Option Value} {E : Ent} {σ : L2.St} {Hb H : Hp} (s : StOk K mg m E Γ τ σ Hb H) {p : Addr} {o : HO} (h1 : E.H p = none) (h2 : Hb p = none) (hn : ∀ (i : Nat) (ds : List D), Γ[i]? = some (.own ds) → σ[i]? ≠ some (some (.ref p))) : StOk K mg m E Γ τ σ Hb (upd H p o) where
  g := s.g.upd h1 h2
  tp := fun q => by
    obtain ⟨n1, n2⟩ := s.ownNe h1 q
    obtain ⟨cl, a1, a2, a3⟩ := s.tp q
    exact ⟨cl, by rw [upd_ne (Ne.symm n1)]; exact a1, by rw [upd_ne (Ne.symm n2)]; exact a2, a3⟩
  len := s.len
  dat := s.dat
  own := fun i ds h => by
    obtain ⟨q, vs, b1, b2, b3, b4, b5, b6⟩ := s.own i ds h
    have hq : q ≠ p := fun e => hn i ds h (by rw [b1, e])
    exact ⟨q, vs, b1, b2, b3, by rw [upd_ne hq]; exact b4, b5, b6⟩
  apart := s.apart
  tape := s.tape

theorem u_lc (enc : α → D) (xs : List α) (c : α → Tape → Bool × Tape) (f : α → Tape → D × Tape) (cn : Cn X sc N k) (hk : blkC N sc scope own = true) (hi : GI X m w tg iter Γ τ (xs.map enc) τ1)
    (hel : ∀ x ∈ xs, ∀ τ, ∃ Γ2, ∀ X', Blk X X' scope → GG X' m tg (enc x) (own.map (·.2)) (wipeG Γ (own.map (·.2))) Γ2 ∧ GTs X' m ifs Γ2 τ (c x τ).1 (c x τ).2 ∧ ((c x τ).1 = true → GE X' m elt Γ2 (c x τ).2 (f x (c x τ).2).1 (f x (c x τ).2).2))
    {E : Ent} {σ : L2.St} {Hb H : Hp} {Q : VK} (S : StOk X.K X.mg m E Γ τ σ Hb H)
    (q : ∀ p vs Hb' H', Grow m E Hb H Hb' H' → TpOk m E (scan c f xs τ1).2 Hb' H' → H p = none → Hb' p = none → H' p = some (.lst vs) → vs.length ≤ sizeLine → RpA X.K X.mg Hb' vs (scan c f xs τ1).1 → StOk X.K X.mg m E Γ (scan c f xs τ1).2 σ Hb' H' → Q (.ref p) H') (hz : xs.length < sizeLine) :
    tLc (uI X tg iter) (fun v σ H Q => ∀ (s : Shared) (H0 : Hp) (C : Addr) (cl : List (Str × Addr)) (fp : List Addr), uG (X.blk s H0 scope (compEnvC scope cl C X.env) fp) tg v σ H Q)
      (fun σ H Q => ∀ (s : Shared) (H0 : Hp) (C : Addr) (cl : List (Str × Addr)) (fp : List Addr), uTs (X.blk s H0 scope (compEnvC scope cl C X.env) fp) ifs σ H Q)
      (fun σ H Q => ∀ (s : Shared) (H0 : Hp) (C : Addr) (cl : List (Str × Addr)) (fp : List Addr), uE (X.blk s H0 scope (compEnvC scope cl C X.env) fp) elt σ H Q) (own.map (·.2)) σ H Q := by
  have ok : BlkOk N sc scope own := blkOk_by hk
  have hkind : scope.kind = .function := ok.kind
  refine hi E σ Hb H _ S fun J Hb1 H1 wt g1 t1 it hw hwt => fun Dl hD => ?_
  have hDb : Hb1 Dl = none := by
    cases z : Hb1 Dl with
    | none => rfl
    | some u => rw [g1.e Dl u z] at hD; cases hD
  have hDH : H Dl = none := g1.fresh hD
  have hDE : E.H Dl = none := S.g.fresh hDH
  have hDs : ∀ (i : Nat) (ds : List D), Γ[i]? = some (.own ds) → σ[i]? ≠ some (some (.ref Dl)) := fun i ds h e => by
    obtain ⟨p, vs, b1, b2, b3, b4, _⟩ := S.own i ds h
    rw [e] at b1
    cases b1
    rw [b4] at hDH
    cases hDH
  have S1 := S.grow g1 t1
  refine ⟨fun i mm H' => mm = xs.length - i ∧ i ≤ xs.length ∧ ∃ (Hb' : Hp) (τ' : Tape) (acc : List V) (es : List D), Grow m E Hb H Hb' H' ∧ Same Hb1 Hb' ∧ (∀ p ∈ wt, H' p = H1 p) ∧ StOk X.K X.mg m E Γ τ' σ Hb' H' ∧ Hb' Dl = none ∧ H' Dl = some (.lst acc) ∧ RpA X.K X.mg Hb' acc es ∧ acc.length ≤ i ∧
      scan c f xs τ1 = (es ++ (scan c f (xs.drop i) τ').1, (scan c f (xs.drop i) τ').2), ⟨xs.length, by simp, Nat.zero_le _, Hb1, τ1, [], [], g1.upd hDH hDb, Same.refl _, fun p hp => ?_, S1.other hDE hDb hDs, hDb, upd_same, .nil, Nat.le_refl _, by simp⟩, ?_⟩
  · have : p ≠ Dl := fun z => by subst z; exact (hwt p hp).1 hD
    rw [upd_ne this]
  rintro i mm H' ⟨rfl, hi', Hb', τ', acc, es, g2, sb, hp2, S2, n2, l2, r2, z2, sc2⟩
  by_cases hlt : i < xs.length
  · refine .inr ?_
    have hx : xs[i]? = some xs[i] := by simp [hlt]
    have hx' : (xs.map enc)[i]? = some (enc xs[i]) := by simp [hlt]
    obtain ⟨hgo, hy⟩ := it.item i _ Hb' H' hx' sb S2.same hp2
    refine ⟨hgo, fun H3 => ∃ (Hb' : Hp) (τ' : Tape) (acc : List V) (es : List D), Grow m E Hb H Hb' H3 ∧ Same Hb1 Hb' ∧ (∀ p ∈ wt, H3 p = H1 p) ∧ StOk X.K X.mg m E Γ τ' σ Hb' H3 ∧ Hb' Dl = none ∧ H3 Dl = some (.lst acc) ∧ RpA X.K X.mg Hb' acc es ∧ acc.length ≤ i + 1 ∧
      scan c f xs τ1 = (es ++ (scan c f (xs.drop (i + 1)) τ').1, (scan c f (xs.drop (i + 1)) τ').2), fun H3 h3 => ⟨xs.length - (i + 1), by omega, rfl, hlt, h3⟩, fun v H3 y => ?_⟩
    obtain ⟨Hb3, g3, r3⟩ := hy v H3 y
    obtain ⟨Γ2, hel⟩ := hel xs[i] (List.getElem_mem hlt) τ'
    have S3 : StOk X.K X.mg m E Γ τ' σ Hb3 H3 := S2.grow g3.pure (S2.tp.grow g3.pure)
    have keepD : ∀ {Hb4 H4 : Hp}, Grow m E Hb3 H3 Hb4 H4 → H4 Dl = some (.lst acc) ∧ Hb4 Dl = none ∧ (∀ p ∈ wt, H4 p = H1 p) := fun {Hb4 H4} g4 => by
      have g5 : Grow m E Hb' H' Hb4 H4 := g3.pure.trans g4
      refine ⟨g5.k _ _ l2 fun hm => S.ownNe hDE hm, g5.f _ (by rw [l2]; exact fun z => by cases z) n2, fun p hp => ?_⟩
      obtain ⟨hn, ht⟩ := hwt p hp
      cases z : H' p with
      | none => rw [hp2 p hp] at z; exact absurd z hn
      | some u => rw [g5.k p u z ht, ← z]; exact hp2 p hp
    have sbg : ∀ {Hb4 H4 : Hp}, Grow m E Hb3 H3 Hb4 H4 → Same Hb1 Hb4 := fun g4 => sb.trans (g3.b.trans g4.b)
    intro s H0 C cl fp
    refine (hel _ (blk_of (s := s) (H := H0) (C := C) (cl := cl) (fp := fp) hkind)).1 E τ' (L2.wipe σ (own.map (·.2))) Hb3 H3 v _ (S3.wipe _) r3 ?_
    intro σ2 S4 k4 l4
    refine ⟨wipe_eq k4 l4, ?_⟩
    intro s' H0' C' cl' fp'
    have h5 := (hel _ (blk_of (s := s') (H := H0') (C := C') (cl := cl') (fp := fp') hkind)).2
    have tests : ∀ Q' : Bool → Hp → Prop, (∀ Hb4 H4, Grow m E Hb3 H3 Hb4 H4 → TpOk m E (c xs[i] τ').2 Hb4 H4 → Q' (c xs[i] τ').1 H4) → uTs (X.blk s' H0' scope (compEnvC scope cl' C' X.env) fp') ifs σ2 H3 Q' := by
      intro Q' hQ
      obtain ⟨h5, _⟩ := h5
      match ifs, h5 with
      | [], h5 =>
        obtain ⟨e1, e2⟩ := h5
        rw [e1, e2] at hQ
        exact hQ Hb3 H3 (Grow.refl S3.same) S3.tp
      | [_], h5 => exact h5 E σ2 Hb3 H3 Q' S4 hQ
      | _ :: _ :: _, h5 => exact False.elim h5
    refine tests _ fun Hb4 H4 g4 t4 => ?_
    have S5 : StOk X.K X.mg m E Γ (c xs[i] τ').2 σ Hb4 H4 := S3.grow g4 t4
    have S5' : StOk X.K X.mg m E Γ2 (c xs[i] τ').2 σ2 Hb4 H4 := S4.grow g4 t4
    have hdrop : xs.drop i = xs[i] :: xs.drop (i + 1) := by rw [List.drop_eq_getElem_cons hlt]
    cases hc : (c xs[i] τ').1 with
    | true =>
      show ∀ (s : Shared) (H0 : Hp) (C : Addr) (cl : List (Str × Addr)) (fp : List Addr), uE (X.blk s H0 scope (compEnvC scope cl C X.env) fp) elt σ2 H4 _
      intro s6 H6 C6 cl6 fp6
      have h6 := (hel _ (blk_of (s := s6) (H := H6) (C := C6) (cl := cl6) (fp := fp6) hkind)).2.2 hc
      refine h6 E σ2 Hb4 H4 _ S5' fun u Hb7 H7 g7 t7 r7 => ?_
      obtain ⟨l7, n7, w7⟩ := keepD (g4.trans g7)
      have S7 : StOk X.K X.mg m E Γ (f xs[i] (c xs[i] τ').2).2 σ Hb7 H7 := S5.grow g7 t7
      have g8 : Grow m E Hb H Hb7 H7 := (g2.trans g3.pure).trans (g4.trans g7)
      refine ⟨acc, l7, Nat.lt_of_le_of_lt z2 (Nat.lt_trans hlt hz), Hb7, (f xs[i] (c xs[i] τ').2).2, acc ++ [u], es ++ [(f xs[i] (c xs[i] τ').2).1], g8.upd hDH n7, sbg (g4.trans g7), fun p hp => ?_, S7.other hDE n7 hDs, n7, upd_same, ?_, by simp; omega, ?_⟩
      · have : p ≠ Dl := fun z => by subst z; exact (hwt p hp).1 hD
        rw [upd_ne this]
        exact w7 p hp
      · exact (r2.mono (g3.b.trans (g4.b.trans g7.b))).append (.cons r7 .nil)
      · rw [sc2, hdrop, scan, if_pos hc]
        simp
    | false =>
      refine iteF ?_
      obtain ⟨l4', n4', w4'⟩ := keepD g4
      refine ⟨Hb4, (c xs[i] τ').2, acc, es, (g2.trans g3.pure).trans g4, sbg g4, w4', S5, n4', l4', r2.mono (g3.b.trans g4.b), by omega, ?_⟩
      rw [sc2, hdrop, scan, if_neg (by rw [hc]; decide)]
  · have e : i = xs.length := by omega
    subst e
    refine .inl ⟨?_, ?_⟩
    · have h := it.stop Hb' H' sb S2.same hp2
      simpa using h
    · rw [List.drop_length, scan] at sc2
      have e1 : (scan c f xs τ1).1 = es := by rw [sc2]; simp
      have e2 : (scan c f xs τ1).2 = τ' := by rw [sc2]
      exact q Dl acc Hb' H' g2 (by rw [e2]; exact S2.tp) hDH n2 l2 (Nat.le_trans z2 (Nat.le_of_lt hz)) (by rw [e1]; exact r2) (by rw [e2]; exact S2)
theorem lc_pe (cn : Cn X sc N k) (hk : blkC N sc scope own = true) (hs : ∀ x, foldedSetIterable iter X.env x = pure x) : PE X (.ListComp elt [⟨tg, iter, ifs, 0⟩] scope pos) (tLc (uI X tg iter) (fun v σ H Q => ∀ (s : Shared) (H0 : Hp) (C : Addr) (cl : List (Str × Addr)) (fp : List Addr), uG (X.blk s H0 scope (compEnvC scope cl C X.env) fp) tg v σ H Q)
      (fun σ H Q => ∀ (s : Shared) (H0 : Hp) (C : Addr) (cl : List (Str × Addr)) (fp : List Addr), uTs (X.blk s H0 scope (compEnvC scope cl C X.env) fp) ifs σ H Q)
      (fun σ H Q => ∀ (s : Shared) (H0 : Hp) (C : Addr) (cl : List (Str × Addr)) (fp : List Addr), uE (X.blk s H0 scope (compEnvC scope cl C X.env) fp) elt σ H Q) (own.map (·.2))) := by
  have ok0 : BlkOk N sc scope own := blkOk_by hk
  have ok : BlkOk X.N X.env.scope scope own := ⟨ok0.kind, ok0.uniq, by rw [cn.hN]; exact ok0.ix, fun y hy e => cn.cf _ (ok0.free y hy e), by rw [cn.hN]; exact ok0.own⟩
  exact pe_lc cn.calm cn.ndX pi_u ok (fun s H C cl fp => ⟨fun pins s' σ H v u Q I r h => h s _ C cl fp pins s' u I r⟩) (fun s H C cl fp => ⟨fun pins s' σ H' Q I h => pts_u.run pins s' σ H' Q I (h s H C cl fp)⟩) (fun s H C cl fp => ⟨fun pins s' σ H' Q I h => h s H C cl fp pins s' I⟩) hs
/-- [elt for tg in iter if ..] -/
theorem gn_lc (enc : α → D) (xs : List α) (c : α → Tape → Bool × Tape) (f : α → Tape → D × Tape) (cn : Cn X sc N k) (own : List (Str × Nat)) (hk : blkC N sc scope own = true) (hz : xs.length < sizeLine) (hi : GI X m w tg iter Γ τ (xs.map enc) τ1)
    (hel : ∀ x ∈ xs, ∀ τ, ∃ Γ2, ∀ X', Blk X X' scope → GG X' m tg (enc x) (own.map (·.2)) (wipeG Γ (own.map (·.2))) Γ2 ∧ GTs X' m ifs Γ2 τ (c x τ).1 (c x τ).2 ∧ ((c x τ).1 = true → GE X' m elt Γ2 (c x τ).2 (f x (c x τ).2).1 (f x (c x τ).2).2))
    (hs : ∀ x, foldedSetIterable iter X.env x = pure x := by intro _; rfl) : GN X m (.ListComp elt [⟨tg, iter, ifs, 0⟩] scope pos) Γ τ (scan c f xs τ1).1 (scan c f xs τ1).2 := fun E σ Hb H Q S q =>
  u_of_pe (lc_pe cn hk hs) (u_lc enc xs c f cn hk hi hel S (fun p vs Hb' H' g t n1 n2 h1 h2 h3 _ => q p vs Hb' H' g t n1 n2 h1 h2 h3) hz)
end
end PD

set_option Elab.async false
set_option linter.all false
set_option maxRecDepth 100000
set_option maxHeartbeats 1000000
namespace PD
open PySem PySem.Spec PyProof.Rows L2

/-! ### values to be stored -/
/-- v is what the slot sl says; one's own list is new since H0 -/
def ValOk (K : PySem.W.Frag) (mg : Str → Option Value) (E : Ent) (H0 Hb H : Hp) (v : V) : Sl → Prop
  | .dat d => Rp K mg Hb v d
  | .own ds => ∃ p vs, v = .ref p ∧ E.H p = none ∧ H0 p = none ∧ Hb p = none ∧ H p = some (.lst vs) ∧ RpA K mg Hb vs ds ∧ vs.length ≤ sizeLine
  | _ => False
inductive ValsOk (K : PySem.W.Frag) (mg : Str → Option Value) (E : Ent) (H0 Hb H : Hp) : List V → List Sl → Prop
  | nil : ValsOk K mg E H0 Hb H [] []
  | cons {v : V} {vs : List V} {sl : Sl} {sls : List Sl} : ValOk K mg E H0 Hb H v sl → ValsOk K mg E H0 Hb H vs sls → (∀ ds p, sl = .own ds → v = .ref p → ∀ (j : Nat) (es : List D), sls[j]? = some (.own es) → vs[j]? ≠ some (.ref p)) → ValsOk K mg E H0 Hb H (v :: vs) (sl :: sls)
/-- the slots is get the values' slots sls, one after another -/
def setSls (Γ : List Sl) : List (Nat × Sl) → List Sl
  | [] => Γ
  | (i, sl) :: r => setSls (Γ.set i sl) r
def setVs (σ : L2.St) : List (Nat × V) → L2.St
  | [] => σ
  | (i, v) :: r => setVs (σ.set i (some v)) r
section
variable {K : PySem.W.Frag} {mg : Str → Option Value} {m : Bool} {E : Ent} {Γ : List Sl} {τ τ' : Tape} {σ : L2.St} {H0 H1 Hb H Hb' H' : Hp}
theorem StOk.dom (s : StOk K mg m E Γ τ σ Hb H) {i : Nat} {ds : List D} {p : Addr} (h : Γ[i]? = some (.own ds)) (e : σ[i]? = some (some (.ref p))) : H p ≠ none := by
  obtain ⟨q, vs, b1, b2, b3, b4, _⟩ := s.own i ds h
  rw [e] at b1
  cases b1
  rw [b4]
  exact fun z => by cases z
theorem ValOk.grow {v : V} {sl : Sl} (h : ValOk K mg E H0 Hb H v sl) (g : Grow m E Hb H Hb' H') (ht : m = true → E.H E.tp ≠ none ∧ E.H E.lg ≠ none) : ValOk K mg E H0 Hb' H' v sl := by
  cases sl with
  | dat d => exact Rp.mono g.b h
  | own ds =>
    obtain ⟨p, vs, e1, e2, e3, e4, e5, e6, e7⟩ := h
    refine ⟨p, vs, e1, e2, e3, g.f p (by rw [e5]; exact fun z => by cases z) e4, g.k p _ e5 (fun hm => ?_), e6.mono g.b, e7⟩
    obtain ⟨h1, h2⟩ := ht hm
    exact ⟨fun e => h1 (e ▸ e2), fun e => h2 (e ▸ e2)⟩
  | no => exact h
  | tape => exact h
theorem ValsOk.grow {vs : List V} {sls : List Sl} (h : ValsOk K mg E H0 Hb H vs sls) (g : Grow m E Hb H Hb' H') (ht : m = true → E.H E.tp ≠ none ∧ E.H E.lg ≠ none) : ValsOk K mg E H0 Hb' H' vs sls := by
  induction h with
  | nil => exact .nil
  | cons h1 _ h3 ih => exact .cons (h1.grow g ht) ih h3
theorem ValOk.low {v : V} {sl : Sl} (h : ValOk K mg E H1 Hb H v sl) (n : ∀ p, H1 p = none → H0 p = none) : ValOk K mg E H0 Hb H v sl := by
  cases sl with
  | own ds =>
    obtain ⟨p, vs, e1, e2, e3, e4⟩ := h
    exact ⟨p, vs, e1, e2, n p e3, e4⟩
  | dat d => exact h
  | no => exact h
  | tape => exact h
theorem ValsOk.low {vs : List V} {sls : List Sl} (h : ValsOk K mg E H1 Hb H vs sls) (n : ∀ p, H1 p = none → H0 p = none) : ValsOk K mg E H0 Hb H vs sls := by
  induction h with
  | nil => exact .nil
  | cons h1 _ h3 ih => exact .cons (h1.low n) ih h3
theorem ValsOk.own {vs : List V} {sls : List Sl} (h : ValsOk K mg E H0 Hb H vs sls) : ∀ (j : Nat) (es : List D), sls[j]? = some (.own es) → ∃ p, vs[j]? = some (.ref p) ∧ H0 p = none := by
  induction h with
  | nil => intro j es h; simp at h
  | cons h1 _ h3 ih =>
    intro j es h
    cases j with
    | zero =>
      simp at h
      subst h
      obtain ⟨p, vs, e1, e2, e3, e4⟩ := h1
      subst e1
      exact ⟨p, rfl, e3⟩
    | succ j => exact ih j es (by simpa using h)
theorem ValOk.newObj {v : V} {sl : Sl} {p : Addr} {o : HO} (h : ValOk K mg E H0 Hb H v sl) (hp : H p = none) : ValOk K mg E H0 Hb (upd H p o) v sl := by
  cases sl with
  | dat d => exact h
  | own ds =>
    obtain ⟨q, ws, a1, a2, a3, a4, a5, a6⟩ := h
    exact ⟨q, ws, a1, a2, a3, a4, by rw [upd_ne (ne_of_none a5 hp)]; exact a5, a6⟩
  | no => exact h
  | tape => exact h
theorem ValsOk.newObj {vs : List V} {sls : List Sl} {p : Addr} {o : HO} (h : ValsOk K mg E H0 Hb H vs sls) (hp : H p = none) : ValsOk K mg E H0 Hb (upd H p o) vs sls := by
  induction h with
  | nil => exact .nil
  | cons h1 _ h3 ih => exact .cons (h1.newObj hp) ih h3
theorem StOk.tpTop (s : StOk K mg m E Γ τ σ Hb H) (h : m = true) : E.H E.tp ≠ none ∧ E.H E.lg ≠ none := by
  obtain ⟨cl, _, _, _, _, _, _, _, h1, h2⟩ := s.tp h
  exact ⟨h1, h2⟩
/-- one value is stored -/
theorem StOk.setVal (s : StOk K mg m E Γ τ σ Hb H) {i : Nat} {v : V} {sl : Sl} (h : ValOk K mg E H0 Hb H v sl) (hn : ∀ ds p, sl = .own ds → v = .ref p → ∀ (j : Nat) (es : List D), j ≠ i → Γ[j]? = some (.own es) → σ[j]? ≠ some (some (.ref p))) : StOk K mg m E (Γ.set i sl) τ (σ.set i (some v)) Hb H := by
  cases sl with
  | dat d => exact s.setDat h
  | own ds =>
    obtain ⟨p, vs, e1, e2, e3, e4, e5, e6, e7⟩ := h
    subst e1
    exact s.setOwn e2 e4 e5 e6 e7 fun j es hj hg => hn ds p rfl rfl j es hj hg
  | no => exact False.elim h
  | tape => exact False.elim h
/-- several values are stored -/
theorem StOk.setVals : ∀ {is : List Nat} {vs : List V} {sls Γ : List Sl} {σ : L2.St}, StOk K mg m E Γ τ σ Hb H → ValsOk K mg E H0 Hb H vs sls → is.length = sls.length → (∀ (j : Nat) (es : List D) (p : Addr), Γ[j]? = some (.own es) → σ[j]? = some (some (.ref p)) → H0 p ≠ none ∨ (∀ (l : Nat) (fs : List D), sls[l]? = some (.own fs) → vs[l]? ≠ some (.ref p))) →
    StOk K mg m E (setSls Γ (is.zip sls)) τ (setVs σ (is.zip vs)) Hb H
  | [], _, _, Γ, σ, s, .nil, _, _ => s
  | i :: is, _, _, Γ, σ, s, .cons (v := v) (vs := vs) (sl := sl) (sls := sls) h1 h2 h3, hl, hn => by
    have hset : StOk K mg m E (Γ.set i sl) τ (σ.set i (some v)) Hb H := s.setVal h1 fun ds p e1 e2 j es hj hg he => by
      rcases hn j es p hg he with z | z
      · subst e1
        obtain ⟨p', vs', a1, a2, a3, _⟩ := h1
        rw [e2] at a1
        cases a1
        exact z a3
      · exact z 0 ds (by simp [e1]) (by simp [e2])
    refine StOk.setVals (is := is) (Γ := Γ.set i sl) (σ := σ.set i (some v)) (vs := vs) (sls := sls) hset h2 (by simpa using hl) fun j es p hg he => ?_
    by_cases hj : i = j
    · subst hj
      rw [List.getElem?_set] at hg he
      simp only [if_true] at hg he
      split at hg
      · split at he
        · cases hg
          cases he
          exact .inr fun l fs hl' => h3 es p rfl rfl l fs hl'
        · cases he
      · cases hg
    · rw [List.getElem?_set_ne hj] at hg he
      rcases hn j es p hg he with z | z
      · exact .inl z
      · exact .inr fun l fs hl' => by simpa using z (l + 1) fs (by simpa using hl')
  | [], _, _, Γ, σ, s, .cons h1 h2 h3, hl, hn => by simp at hl
  | _ :: _, _, _, Γ, σ, s, .nil, hl, hn => by simp at hl
end
/-- e gives a value for a slot -/
def GV (X : Cx) (m : Bool) (e : Expr) (Γ : List Sl) (τ : Tape) (sl : Sl) (τ' : Tape) : Prop :=
  ∀ E σ Hb H Q, StOk X.K X.mg m E Γ τ σ Hb H → (∀ v Hb' H', Grow m E Hb H Hb' H' → TpOk m E τ' Hb' H' → ValOk X.K X.mg E H Hb' H' v sl → Q v H') → uE X e σ H Q
def GVs (X : Cx) (m : Bool) (es : List Expr) (Γ : List Sl) (τ : Tape) (sls : List Sl) (τ' : Tape) : Prop :=
  ∀ E σ Hb H Q, StOk X.K X.mg m E Γ τ σ Hb H → (∀ vs Hb' H', Grow m E Hb H Hb' H' → TpOk m E τ' Hb' H' → ValsOk X.K X.mg E H Hb' H' vs sls → Q vs H') → uA X es σ H Q
section
variable {X : Cx} {m w : Bool} {Γ Γ' : List Sl} {τ τ' τ1 τ2 τ3 : Tape} {a b c e tg iter : Expr} {es : List Expr} {st : Stmt} {sts body orelse : List Stmt} {d d1 d2 d3 : D} {ds ds1 ds2 : List D} {o o1 o2 o3 : Opd} {sl : Sl} {sls : List Sl} {pos p1 p2 p3 p4 tpos : Pos} {k kk : Nat} {i j l : Nat} {x y z : Str} {sc scope : Scope} {N : List Str} {P P' : Out → Prop}
theorem gv_e (h : GE X m e Γ τ d τ1) : GV X m e Γ τ (.dat d) τ1 := fun E σ Hb H Q S q => h E σ Hb H Q S fun v Hb1 H1 g1 t1 r1 => q v Hb1 H1 g1 t1 r1
theorem gv_n (h : GN X m e Γ τ ds τ1) : GV X m e Γ τ (.own ds) τ1 := fun E σ Hb H Q S q => h E σ Hb H Q S fun p vs Hb1 H1 g1 t1 n1 n2 h1 h2 h3 => q _ Hb1 H1 g1 t1 ⟨p, vs, rfl, S.g.fresh n1, n1, n2, h1, h3, h2⟩
theorem gvs_nil : GVs X m [] Γ τ [] τ := fun E σ Hb H Q S q => u_of_pa pa_nil (q [] Hb H (Grow.refl S.same) S.tp .nil)
theorem gvs_cons (he : GV X m e Γ τ sl τ1) (hr : GVs X m es Γ τ1 sls τ2) (hs : starEach (e :: es) X.env = (false, eval e X.env) :: starEach es X.env := by rfl) : GVs X m (e :: es) Γ τ (sl :: sls) τ2 := fun E σ Hb H Q S q =>
  u_of_pa (pa_cons pe_u pa_u hs) (he E σ Hb H _ S fun v Hb1 H1 g1 t1 r1 => hr E σ Hb1 H1 _ (S.grow g1 t1) fun vs Hb2 H2 g2 t2 r2 => by
    refine q (v :: vs) Hb2 H2 (g1.trans g2) t2 (.cons (r1.grow g2 S.tpTop) (r2.low fun p hp => g1.fresh hp) fun ds p e1 e2 j es' hj hv => ?_)
    obtain ⟨p', h1, h2⟩ := r2.own j es' hj
    rw [hv] at h1
    cases h1
    subst e1
    obtain ⟨p'', vs', a1, a2, a3, a4, a5, _⟩ := r1
    rw [e2] at a1
    cases a1
    rw [a5] at h2
    cases h2)

/-! ### statements -/
theorem GSs.imp (h : GSs X m sts Γ τ P) (hp : ∀ o, P o → P' o) : GSs X m sts Γ τ P' := fun E σ Hb H D S hd => h E σ Hb H D S ⟨fun a b c d e f => hd.nx a b c d e (hp _ f), fun a b c d e f => hd.rt a b c d e (hp _ f), fun a b c d e f => hd.bk a b c d e (hp _ f), fun a b c d e f => hd.ct a b c d e (hp _ f)⟩
theorem gss_nil (h : P (.nx Γ τ)) : GSs X m [] Γ τ P := fun E σ Hb H D S hd => u_of_pss pss_nil (hd.nx Γ τ σ Hb H h S)
/-- what is wanted of a statement that others follow -/
def Then (X : Cx) (m : Bool) (sts : List Stmt) (P : Out → Prop) : Out → Prop
  | .nx Γ τ => GSs X m sts Γ τ P
  | o => P o
theorem gss_cons (h : GS X m st Γ τ (Then X m sts P)) : GSs X m (st :: sts) Γ τ P := fun E σ Hb H D S hd =>
  u_of_pss (pss_cons ps_u pss_u) (h E σ Hb H _ S ⟨fun Γ1 τ1 σ1 Hb1 H1 p1 S1 => p1 E σ1 Hb1 H1 D S1 hd, fun a b c d e f => hd.rt a b c d e f, fun a b c d e f => hd.bk a b c d e f, fun a b c d e f => hd.ct a b c d e f⟩)
/-- one's own list will not change any more -/
theorem gss_freeze (i : Nat) (hi : Γ[i]? = some (.own ds)) (h : GSs X m sts (Γ.set i (.dat (.lst ds))) τ P) : GSs X m sts Γ τ P := fun E σ Hb H D S hd => by
  obtain ⟨Hb', _, S'⟩ := S.freeze hi
  exact h E σ Hb' H D S' hd
/-- the slots in another writing -/
theorem gss_is {Γ' : List Sl} (h : GSs X m sts Γ' τ P) (e : Γ = Γ') : GSs X m sts Γ τ P := e ▸ h
theorem gs_pass (h : P (.nx Γ τ)) : GS X m (.Pass pos) Γ τ P := fun E σ Hb H D S hd => u_of_ps ps_pass (hd.nx Γ τ σ Hb H h S)
theorem gs_break (h : P (.bk Γ τ)) : GS X m (.Break pos) Γ τ P := fun E σ Hb H D S hd => u_of_ps ps_break (hd.bk Γ τ σ Hb H h S)
theorem gs_continue (h : P (.ct Γ τ)) : GS X m (.Continue pos) Γ τ P := fun E σ Hb H D S hd => u_of_ps ps_continue (hd.ct Γ τ σ Hb H h S)
theorem gs_ret (he : GE X m e Γ τ d τ1) (h : P (.rt d τ1)) : GS X m (.Return (some e) pos) Γ τ P := fun E σ Hb H D S hd =>
  u_of_ps (ps_ret pe_u) (he E σ Hb H _ S fun v Hb1 H1 g1 t1 r1 => hd.rt d τ1 v Hb1 H1 h (S.g.trans g1) t1 r1)
theorem gs_set (nd : X.N.Nodup) (n : Sm X i x) (he : GV X m e Γ τ sl τ1) (h : P (.nx (Γ.set i sl) τ1)) (hs : swapsWith e (some (.Name x p1)) pos.line X.env = pure false := by rfl) : GS X m (.Assign [.Name x p1] e pos) Γ τ P := fun E σ Hb H D S hd =>
  u_of_ps (ps_set nd n.n n.v pe_u hs n.f) (he E σ Hb H _ S fun v Hb1 H1 g1 t1 r1 => by
    refine hd.nx _ _ _ Hb1 H1 h ((S.grow g1 t1).setVal r1 fun ds p e1 e2 j es hj hg hq => ?_)
    subst e1
    obtain ⟨p', vs, a1, a2, a3, _⟩ := r1
    rw [e2] at a1
    cases a1
    exact S.dom hg hq a3)
/-- x = [.. for ..], x a plain local -/
theorem gs_setLc {α : Type} {elt : Expr} {ifs : List Expr} (enc : α → D) (xs : List α) (c : α → Tape → Bool × Tape) (f : α → Tape → D × Tape) (cn : Cn X sc N k) (n : Sm X i x) (hl : lkL sc x = true) (own : List (Str × Nat)) (hk : blkC N sc scope own = true) (hz : xs.length < sizeLine) (hi : GI X m w tg iter Γ τ (xs.map enc) τ1)
    (hel : ∀ x ∈ xs, ∀ τ, ∃ Γ2, ∀ X', Blk X X' scope → GG X' m tg (enc x) (own.map (·.2)) (wipeG Γ (own.map (·.2))) Γ2 ∧ GTs X' m ifs Γ2 τ (c x τ).1 (c x τ).2 ∧ ((c x τ).1 = true → GE X' m elt Γ2 (c x τ).2 (f x (c x τ).2).1 (f x (c x τ).2).2))
    (hln : (p2.line == p1.line) = true) (hnm : (scope.names.any fun (n, k) => n == x && (k == .local || k == .cell)) = false)
    (h : P (.nx (Γ.set i (.own (scan c f xs τ1).1)) (scan c f xs τ1).2)) (hs : ∀ x, foldedSetIterable iter X.env x = pure x := by intro _; rfl) : GS X m (.Assign [.Name x p2] (.ListComp elt [⟨tg, iter, ifs, 0⟩] scope p1) pos) Γ τ P := fun E σ Hb H D S hd => by
  have ok0 : BlkOk N sc scope own := blkOk_by hk
  have ok : BlkOk X.N X.env.scope scope own := ⟨ok0.kind, ok0.uniq, by rw [cn.hN]; exact ok0.ix, fun y hy e => cn.cf _ (ok0.free y hy e), by rw [cn.hN]; exact ok0.own⟩
  refine u_of_ps (ps_setLc cn.calm cn.ndX n.n (cn.l hl) (sw_true cn.kind (cn.l hl) hln hnm) pi_u ok (fun s H C cl fp => ⟨fun pins s' σ H v u Q I r h => h s _ C cl fp pins s' u I r⟩) (fun s H C cl fp => ⟨fun pins s' σ H' Q I h => pts_u.run pins s' σ H' Q I (h s H C cl fp)⟩) (fun s H C cl fp => ⟨fun pins s' σ H' Q I h => h s H C cl fp pins s' I⟩) hs)
    (u_lc enc xs c f cn hk hi hel S (fun p vs Hb1 H1 g1 t1 n1 n2 h1 h2 h3 S1 => ?_) hz)
  exact hd.nx _ _ _ Hb1 H1 h (S1.setOwn (S.g.fresh n1) n2 h1 h3 h2 fun j es hj hg hq => S.dom hg hq n1)
theorem gs_if {s : Bool} (hc : GT X m c Γ τ s τ1) (ha : s = true → GSs X m sts Γ τ1 P) (hb : s = false → GSs X m orelse Γ τ1 P) : GS X m (.If c sts orelse pos) Γ τ P := fun E σ Hb H D S hd =>
  u_of_ps (ps_if pt_u pss_u pss_u) (hc E σ Hb H _ S fun Hb1 H1 g1 t1 => by
    cases s with
    | true => exact ha rfl E σ Hb1 H1 D (S.grow g1 t1) hd
    | false => exact hb rfl E σ Hb1 H1 D (S.grow g1 t1) hd)
/-- an expression as a statement -/
theorem gs_expr (he : GE X m e Γ τ d τ1) (h : P (.nx Γ τ1)) (hs : swapsWith e none pos.line X.env = pure false := by rfl) : GS X m (.Expr e pos) Γ τ P := fun E σ Hb H D S hd =>
  u_of_ps (ps_expr pe_u hs) (he E σ Hb H _ S fun v Hb1 H1 g1 t1 r1 => hd.nx _ _ _ Hb1 H1 h (S.grow g1 t1))
/-- a, b = x, y; a, b, c = x, y, z -/
theorem gs_par2 (hcm : X.calm = true) (nd : X.N.Nodup) (hi : X.N[i]? = some x) (hj : X.N[j]? = some y) (hij : i ≠ j) (hx : X.env.scope.names.lookup x = some .local) (hy : X.env.scope.names.lookup y = some .local) {sl1 sl2 : Sl} {kt k2 : Nat} {px py pt pt2 : Pos} (he : GVs X m [a, b] Γ τ [sl1, sl2] τ1)
    (hw : swappedStores [.Tuple [.Name x px, .Name y py] kt pt] (.Tuple [a, b] k2 pt2) X.env = pure (some [x, y])) (h : P (.nx ((Γ.set i sl1).set j sl2) τ1)) (hs : swapsWithSole [.Tuple [.Name x px, .Name y py] kt pt] (.Tuple [a, b] k2 pt2) pos.line X.env = pure false := by rfl) :
    GS X m (.Assign [.Tuple [.Name x px, .Name y py] kt pt] (.Tuple [a, b] k2 pt2) pos) Γ τ P := fun E σ Hb H D S hd =>
  u_of_ps (ps_par hcm nd hi hj hij hx hy pa_u hw hs) (he E σ Hb H _ S fun vs Hb1 H1 g1 t1 r1 => by
    have S2 := (S.grow g1 t1).setVals (is := [i, j]) r1 rfl fun j es p hg he => .inl (S.dom hg he)
    cases r1 with | cons a1 r1 _ => cases r1 with | cons a2 r1 _ => cases r1 with | nil => exact ⟨_, _, rfl, hd.nx _ _ _ Hb1 H1 h S2⟩)
theorem gs_par3 (hcm : X.calm = true) (nd : X.N.Nodup) (hi : X.N[i]? = some x) (hj : X.N[j]? = some y) (hl : X.N[l]? = some z) (hij : i ≠ j) (hil : i ≠ l) (hjl : j ≠ l) (hx : X.env.scope.names.lookup x = some .local) (hy : X.env.scope.names.lookup y = some .local) (hz : X.env.scope.names.lookup z = some .local) {sl1 sl2 sl3 : Sl} {kt k2 : Nat} {px py pz pt pt2 : Pos} (he : GVs X m [a, b, c] Γ τ [sl1, sl2, sl3] τ1)
    (hw : swappedStores [.Tuple [.Name x px, .Name y py, .Name z pz] kt pt] (.Tuple [a, b, c] k2 pt2) X.env = pure (some [x, y, z])) (h : P (.nx (((Γ.set i sl1).set j sl2).set l sl3) τ1)) (hs : swapsWithSole [.Tuple [.Name x px, .Name y py, .Name z pz] kt pt] (.Tuple [a, b, c] k2 pt2) pos.line X.env = pure false := by rfl) :
    GS X m (.Assign [.Tuple [.Name x px, .Name y py, .Name z pz] kt pt] (.Tuple [a, b, c] k2 pt2) pos) Γ τ P := fun E σ Hb H D S hd =>
  u_of_ps (ps_par3 hcm nd hi hj hl hij hil hjl hx hy hz pa_u hw hs) (he E σ Hb H _ S fun vs Hb1 H1 g1 t1 r1 => by
    have S2 := (S.grow g1 t1).setVals (is := [i, j, l]) r1 rfl fun j es p hg he => .inl (S.dom hg he)
    cases r1 with | cons a1 r1 _ => cases r1 with | cons a2 r1 _ => cases r1 with | cons a3 r1 _ => cases r1 with | nil => exact ⟨_, _, _, rfl, hd.nx _ _ _ Hb1 H1 h S2⟩)
/-- names that take values in a row -/
inductive Sms (X : Cx) : List Expr → List Nat → Prop
  | nil : Sms X [] []
  | cons {i : Nat} {x : Str} {pos : Pos} {tgs : List Expr} {is : List Nat} : Sm X i x → Sms X tgs is → (assignEach (.Name x pos :: tgs) X.env).map (·.2) = assign (.Name x pos) X.env :: (assignEach tgs X.env).map (·.2) → Sms X (.Name x pos :: tgs) (i :: is)
theorem Sms.pgs (nd : X.N.Nodup) {tgs : List Expr} {is : List Nat} (h : Sms X tgs is) : ∀ {vs : List V} {σ : L2.St} {H : Hp} {Q : L2.St → Hp → Prop}, vs.length = is.length → Q (setVs σ (is.zip vs)) H → uGs X tgs vs σ H Q := by
  induction h with
  | nil =>
    intro vs σ H Q hl q
    cases vs with
    | nil => exact u_of_pgs pgs_nil ⟨rfl, q⟩
    | cons _ _ => simp at hl
  | cons n _ hs ih =>
    intro vs σ H Q hl q
    cases vs with
    | nil => simp at hl
    | cons v vs => exact u_of_pgs (pgs_cons (pg_name nd n.n n.v n.f) pgs_u hs) ⟨v, vs, rfl, ih (by simpa using hl) q⟩
/-- a, b, .. = x, y, ..: by way of a tuple -/
theorem gs_tup {tgs : List Expr} {is : List Nat} {kt k2 : Nat} {pt pt2 : Pos} (hcm : X.calm = true) (nd : X.N.Nodup) (ht : Sms X tgs is) (he : GVs X m es Γ τ sls τ1) (hl : is.length = sls.length) (hz : sls.length ≤ 1000) (h : P (.nx (setSls Γ (is.zip sls)) τ1))
    (hw : swappedStores [.Tuple tgs kt pt] (.Tuple es k2 pt2) X.env = pure none) (hs : swapsWithSole [.Tuple tgs kt pt] (.Tuple es k2 pt2) pos.line X.env = pure false := by rfl)
    (h1 : (assignEach [.Tuple tgs kt pt] X.env).map (·.2) = [assign (.Tuple tgs kt pt) X.env] := by rfl) (hn : (assignEach tgs X.env).length = is.length := by rfl) (hst : (assignEach tgs X.env).findIdx? (·.1) = none := by rfl) :
    GS X m (.Assign [.Tuple tgs kt pt] (.Tuple es k2 pt2) pos) Γ τ P := fun E σ Hb H D S hd =>
  u_of_ps (ps_asg (pe_tup pa_u) (pg_tup hcm pgs_u hn hst) hs hw h1) (he E σ Hb H _ S fun vs Hb1 H1 g1 t1 r1 => by
    have lv : ∀ {vs : List V} {sls : List Sl}, ValsOk X.K X.mg E H Hb1 H1 vs sls → vs.length = sls.length := by
      intro vs sls h
      induction h with
      | nil => rfl
      | cons _ _ _ ih => simp [ih]
    have hlv := lv r1
    refine ⟨Nat.le_trans (by omega : vs.length ≤ 1000) (by decide), fun p hp => ?_⟩
    refine ⟨p, vs, rfl, SqT.of upd_same, by omega, ht.pgs nd (by omega) ?_⟩
    have S1 := S.grow g1 t1
    have hb : Hb1 p = none := by
      cases z : Hb1 p with
      | none => rfl
      | some u => rw [g1.e p u z] at hp; cases hp
    have S1' := S1.other (o := .tup vs) (S1.g.fresh hp) hb fun i ds hg hq => S1.dom hg hq hp
    have r1' : ValsOk X.K X.mg E H Hb1 (upd H1 p (.tup vs)) vs sls := r1.newObj hp
    exact hd.nx _ _ _ Hb1 _ h (S1'.setVals (is := is) r1' hl fun j es p hg he => .inl (S.dom hg he)))
/-- t = e, t a tuple of targets -/
theorem gs_unpack {vs : List Nat} {kt : Nat} {pt : Pos} {tgs : List Expr} (he : GE X m e Γ τ d τ1) (hg : GG X m (.Tuple tgs kt pt) d vs Γ Γ') (h : P (.nx Γ' τ1)) (hs : swapsWithSole [.Tuple tgs kt pt] e pos.line X.env = pure false := by rfl) (hw : swappedStores [.Tuple tgs kt pt] e X.env = pure none := by rfl)
    (h1 : (assignEach [.Tuple tgs kt pt] X.env).map (·.2) = [assign (.Tuple tgs kt pt) X.env] := by rfl) : GS X m (.Assign [.Tuple tgs kt pt] e pos) Γ τ P := fun E σ Hb H D S hd =>
  u_of_ps (ps_asg pe_u pg_u hs hw h1) (he E σ Hb H _ S fun v Hb1 H1 g1 t1 r1 => hg E τ1 σ Hb1 H1 v _ (S.grow g1 t1) r1 fun σ' S' _ _ => hd.nx _ _ _ Hb1 H1 h S')

/-! ### one's own lists change -/
theorem gs_append {y : Str} {apos : Pos} (n : Nm X i y) (hi : Γ[i]? = some (.own ds)) (he : GE X m e Γ τ d τ1) (hz : ds.length < sizeLine) (h : P (.nx (Γ.set i (.own (ds ++ [d]))) τ1))
    (hs : swapsWith (.Call (.Attribute (.Name y p1) "append" apos) [e] [] p2) none pos.line X.env = pure false := by rfl) (hbase : attributeBase (.Name y p1) "append" X.env (eval (.Name y p1) X.env) = eval (.Name y p1) X.env := by rfl)
    (hfew : ((backTo p2 (starEach (e :: []) X.env)).all (fun x => !x.1) && (backToKw p2 (keywordEach [] X.env)).all (fun x => x.1.isSome) && decide ((e :: []).length + ([] : List Keyword).length + (if ([] : List Keyword).isEmpty then 0 else 1) < 30)) = true := by rfl)
    (hline : (apos.endLine == p2.line) = true := by rfl) (hst : starEach (e :: []) X.env = (false, eval e X.env) :: starEach [] X.env := by rfl) : GS X m (.Expr (.Call (.Attribute (.Name y p1) "append" apos) [e] [] p2) pos) Γ τ P := fun E σ Hb H D S hd =>
  u_of_ps (ps_expr (pe_bm PySem.F.plainAttrs_list PySem.F.slot_list_append PySem.F.type_list_append mt_append (pe_var n.n n.v n.d n.c) (pa_cons pe_u pa_nil hst) hbase hfew hline hst rfl) hs) (by
    obtain ⟨p, vs, e1, e2, e3, e4, e5, e6⟩ := S.own i ds hi
    refine ⟨.ref p, e1, .inl ⟨rfl, vs, SqL.of e4⟩, he E σ Hb H _ S fun v Hb1 H1 g1 t1 r1 => ?_⟩
    have S1 := S.grow g1 t1
    obtain ⟨p', vs', f1, f2, f3, f4, f5, f6⟩ := S1.own i ds hi
    rw [e1] at f1
    cases f1
    refine ⟨p, vs', v, rfl, rfl, f4, by rw [f5.length]; exact hz, ?_⟩
    exact hd.nx _ _ _ Hb1 _ h (S1.write hi e1 (f5.append (.cons r1 .nil)) (by rw [List.length_append, f5.length]; simp; omega)))
/-- xs[k] = e, xs one's own -/
theorem gs_setItem {y : Str} {zi : Int} {jj : Nat} (n : Nm X i y) (hi : Γ[i]? = some (.own ds)) (hv : GE X m e Γ τ d τ1) (hk : GE X m b Γ τ1 (.int zi) τ2) (hj : ixN ds.length zi = some jj) (h : P (.nx (Γ.set i (.own (ds.set jj d))) τ2))
    (ha : ∀ v, assign (.Subscript (.Name y p1) b p2) X.env v = (do
      let ov ← holding [v] (eval (.Name y p1) X.env)
      let iv ← holding [v, ov] (eval b X.env)
      standAt p2
      holding [v, ov, iv] (setItem ov iv v)
      release [v, ov, iv] []) := by intro _; rfl)
    (hs : swapsWithSole [.Subscript (.Name y p1) b p2] e pos.line X.env = pure false := by rfl) (hw : swappedStores [.Subscript (.Name y p1) b p2] e X.env = pure none := by rfl)
    (h1 : (assignEach [.Subscript (.Name y p1) b p2] X.env).map (·.2) = [assign (.Subscript (.Name y p1) b p2) X.env] := by rfl) : GS X m (.Assign [.Subscript (.Name y p1) b p2] e pos) Γ τ P := fun E σ Hb H D S hd =>
  u_of_ps (ps_asg pe_u (pg_sub (pe_var n.n n.v n.d n.c) pe_u set_list ha) hs hw h1) (hv E σ Hb H _ S fun v Hb1 H1 g1 t1 r1 => by
    have S1 := S.grow g1 t1
    obtain ⟨p, vs, e1, e2, e3, e4, e5, e6⟩ := S1.own i ds hi
    refine ⟨.ref p, e1, hk E σ Hb1 H1 _ S1 fun u Hb2 H2 g2 t2 r2 => ?_⟩
    have S2 := S1.grow g2 t2
    cases (Rp.int_inv r2)
    obtain ⟨p', vs', f1, f2, f3, f4, f5, f6⟩ := S2.own i ds hi
    rw [e1] at f1
    cases f1
    refine ⟨p, vs', zi, jj, rfl, rfl, f4, by rw [f5.length]; exact hj, ?_⟩
    exact hd.nx _ _ _ Hb2 _ h (S2.write hi e1 (f5.set (Rp.mono g2.b r1) jj) (by simpa using f6)))

/-! ### loops -/
/-- what is wanted of a turn: I of the next -/
def Turn1 (I : List Sl → Tape → Prop) (P : Out → Prop) : Out → Prop
  | .nx Γ τ => I Γ τ
  | .ct Γ τ => I Γ τ
  | .bk Γ τ => P (.nx Γ τ)
  | .rt d τ => P (.rt d τ)
/-- for: I by what is left -/
theorem gs_for (hx : X.xe = fun _ _ => False) (hcm : X.calm = true) (hi : GI X m false tg iter Γ τ ds τ1) (I : List D → List Sl → Tape → Prop) (h0 : I ds Γ τ1)
    (hs : ∀ d rest Γ' τ', I (d :: rest) Γ' τ' → ∃ Γ2 vs, GG X m tg d vs Γ' Γ2 ∧ GSs X m body Γ2 τ' (Turn1 (I rest) P)) (hd : ∀ Γ' τ', I [] Γ' τ' → P (.nx Γ' τ')) (hf : ∀ x, foldedSetIterable iter X.env x = pure x := by intro _; rfl) : GS X m (.For tg iter body [] pos) Γ τ P := fun E σ Hb H D S hD => by
  refine u_of_ps (ps_for (by rw [hx]; exact PassesOwn.never) hcm pi_u pg_u pss_u hf) (hi E σ Hb H _ S fun J Hb1 H1 wt g1 t1 it hw _ => ?_)
  have hw := hw rfl
  subst hw
  refine ⟨fun i mm σ' H' => mm = ds.length - i ∧ i ≤ ds.length ∧ ∃ Hb' Γ' τ', Same Hb1 Hb' ∧ StOk X.K X.mg m E Γ' τ' σ' Hb' H' ∧ I (ds.drop i) Γ' τ', ⟨ds.length, by simp, Nat.zero_le _, Hb1, Γ, τ1, Same.refl _, S.grow g1 t1, h0⟩, ?_⟩
  rintro i mm σ' H' ⟨rfl, hi', Hb', Γ', τ', sb, S', hI⟩
  by_cases hlt : i < ds.length
  · refine .inr ?_
    have hx : ds[i]? = some ds[i] := by simp [hlt]
    obtain ⟨hgo, hy⟩ := it.item i _ Hb' H' hx sb S'.same (fun p hp => by cases hp)
    refine ⟨hgo, fun σ2 H2 => ∃ Hb' Γ' τ', Same Hb1 Hb' ∧ StOk X.K X.mg m E Γ' τ' σ2 Hb' H2 ∧ I (ds.drop (i + 1)) Γ' τ', fun σ2 H2 h2 => ⟨ds.length - (i + 1), by omega, rfl, hlt, h2⟩, fun v H3 y => ?_⟩
    obtain ⟨Hb3, g3, r3⟩ := hy v H3 y
    have S3 := S'.grow g3.pure (S'.tp.grow g3.pure)
    rw [List.drop_eq_getElem_cons hlt] at hI
    obtain ⟨Γ2, vs, hg, hb⟩ := hs _ _ _ _ hI
    refine hg E τ' σ' Hb3 H3 v _ S3 r3 fun σ4 S4 _ _ => ?_
    have sb3 : Same Hb1 Hb3 := sb.trans g3.b
    let E' : Ent := ⟨Hb3, E.H, E.tp, E.lg⟩
    have S4' : StOk X.K X.mg m E' Γ2 τ' σ4 Hb3 H3 := ⟨⟨Same.refl _, S4.same, fun p o h z => S4.g.k p o h z, fun p h1 h2 => h2, S4.g.n⟩, fun hm => S4.tp hm, S4.len, S4.dat, S4.own, S4.apart, S4.tape⟩
    have back : ∀ {Γ5 τ5 σ5 Hb5 H5}, StOk X.K X.mg m E' Γ5 τ5 σ5 Hb5 H5 → StOk X.K X.mg m E Γ5 τ5 σ5 Hb5 H5 ∧ Same Hb3 Hb5 := fun {Γ5 τ5 σ5 Hb5 H5} S5 =>
      ⟨⟨⟨S4.g.b.trans S5.g.b, S5.g.e, fun p o h z => S5.g.k p o h z, fun p h1 h2 => S5.g.f p h1 (S4.g.f p h1 h2), S5.g.n⟩, fun hm => S5.tp hm, S5.len, S5.dat, S5.own, S5.apart, S5.tape⟩, S5.g.b⟩
    refine hb E' σ4 Hb3 H3 _ S4' ⟨fun Γ5 τ5 σ5 Hb5 H5 p5 S5 => ?_, fun d5 τ5 v5 Hb5 H5 p5 g5 t5 r5 => ?_, fun Γ5 τ5 σ5 Hb5 H5 p5 S5 => ?_, fun Γ5 τ5 σ5 Hb5 H5 p5 S5 => ?_⟩
    · obtain ⟨S6, sb6⟩ := back S5
      exact ⟨Hb5, Γ5, τ5, sb3.trans sb6, S6, p5⟩
    · exact hD.rt d5 τ5 v5 Hb5 H5 p5 ⟨S4.g.b.trans g5.b, g5.e, fun p o h z => g5.k p o h z, fun p h1 h2 => g5.f p h1 (S4.g.f p h1 h2), g5.n⟩ t5 r5
    · obtain ⟨S6, sb6⟩ := back S5
      exact hD.nx _ _ _ Hb5 H5 p5 S6
    · obtain ⟨S6, sb6⟩ := back S5
      exact ⟨Hb5, Γ5, τ5, sb3.trans sb6, S6, p5⟩
  · have e : i = ds.length := by omega
    subst e
    refine .inl ⟨it.stop Hb' H' sb S'.same (fun p hp => by cases hp), ?_⟩
    rw [List.drop_length] at hI
    exact hD.nx _ _ _ Hb' H' (hd _ _ hI) S'
/-- while: I with a measure -/
theorem gs_while (hx : X.xe = fun _ _ => False) (I : Nat → List Sl → Tape → Prop) (m0 : Nat) (h0 : I m0 Γ τ)
    (hs : ∀ n Γ' τ', I n Γ' τ' → ∃ b τ2, GT X m c Γ' τ' b τ2 ∧ (b = true → GSs X m body Γ' τ2 (Turn1 (fun Γ'' τ'' => ∃ n', n' < n ∧ I n' Γ'' τ'') P)) ∧ (b = false → P (.nx Γ' τ2))) : GS X m (.While c body [] pos) Γ τ P := fun E σ Hb H D S hD => by
  refine u_of_ps (ps_while (by rw [hx]; exact PassesOwn.never) pt_u pss_u) ⟨fun mm σ' H' => ∃ Hb' Γ' τ', StOk X.K X.mg m E Γ' τ' σ' Hb' H' ∧ I mm Γ' τ', ⟨m0, Hb, Γ, τ, S, h0⟩, ?_⟩
  rintro n σ' H' ⟨Hb', Γ', τ', S', hI⟩
  obtain ⟨b, τ2, hc, h1, h2⟩ := hs n Γ' τ' hI
  refine hc E σ' Hb' H' _ S' fun Hb2 H2 g2 t2 => ?_
  have S2 := S'.grow g2 t2
  cases b with
  | true =>
    refine iteT ⟨fun σ3 H3 => ∃ n', n' < n ∧ ∃ Hb' Γ' τ', StOk X.K X.mg m E Γ' τ' σ3 Hb' H3 ∧ I n' Γ' τ', fun σ3 H3 h3 => h3, ?_⟩
    refine h1 rfl E σ' Hb2 H2 _ S2 ⟨fun Γ5 τ5 σ5 Hb5 H5 p5 S5 => ?_, fun d5 τ5 v5 Hb5 H5 p5 g5 t5 r5 => hD.rt d5 τ5 v5 Hb5 H5 p5 g5 t5 r5, fun Γ5 τ5 σ5 Hb5 H5 p5 S5 => hD.nx _ _ _ Hb5 H5 p5 S5, fun Γ5 τ5 σ5 Hb5 H5 p5 S5 => ?_⟩
    · obtain ⟨n', hn, hI'⟩ := p5
      exact ⟨n', hn, Hb5, Γ5, τ5, S5, hI'⟩
    · obtain ⟨n', hn, hI'⟩ := p5
      exact ⟨n', hn, Hb5, Γ5, τ5, S5, hI'⟩
  | false => exact iteF (hD.nx _ _ _ Hb2 H2 (h2 rfl) S2)

/-! ### a def -/
end
/-- what a def's body is to give -/
def Ret (d : D) (τ : Tape) : Out → Prop
  | .rt d' τ' => d' = d ∧ τ' = τ
  | .nx _ τ' => d = .non ∧ τ' = τ
  | _ => False
/-- the slots at a def's entry -/
def entry (N : List Str) (as : List Sl) : List Sl := as ++ List.replicate (N.length - as.length) .no
section
variable {P : Program} {w : World} {K : PySem.W.Frag} {mg : Str → Option Value} {base : Heap}
theorem start_dat {N : List Str} {m : Bool} {E : Ent} {τ : Tape} {Hb H : Hp} {vs : List V} {ds : List D} (g : Grow m E E.Hb E.H Hb H) (t : TpOk m E τ Hb H) (r : RpA K mg Hb vs ds) : StOk K mg m E (entry N (ds.map .dat)) τ (L2.start N vs) Hb H := by
  have hl := r.length
  have no : ∀ (i : Nat) (sl : Sl), (entry N (ds.map .dat))[i]? = some sl → sl ≠ Sl.no → ∃ d : D, sl = Sl.dat d ∧ ds[i]? = some d := fun i sl h hn => by
    unfold entry at h
    rw [List.getElem?_append] at h
    split at h
    · rw [List.getElem?_map] at h
      cases hd : ds[i]? with
      | none => rw [hd] at h; cases h
      | some d => rw [hd] at h; exact ⟨d, (Option.some.inj h).symm, rfl⟩
    · rw [List.getElem?_replicate] at h
      split at h
      · cases h; exact absurd rfl hn
      · cases h
  refine ⟨g, t, ?_, fun i d h => ?_, fun i es h => ?_, fun i j es fs p _ h => ?_, fun i h => ?_⟩
  · unfold entry L2.start
    simp [hl]
  · obtain ⟨d', e, hd⟩ := no i _ h (fun z => by cases z)
    cases e
    obtain ⟨v, hv, rv⟩ := r.get hd
    refine ⟨v, ?_, rv⟩
    unfold L2.start
    rw [List.getElem?_append_left (by simpa using (List.getElem?_eq_some_iff.mp hv).1), List.getElem?_map, hv]
    rfl
  · obtain ⟨d', e, _⟩ := no i _ h (fun z => by cases z)
    cases e
  · obtain ⟨d', e, _⟩ := no i _ h (fun z => by cases z)
    cases e
  · obtain ⟨d', e, _⟩ := no i _ h (fun z => by cases z)
    cases e
theorem start_tape {N : List Str} {E : Ent} {τ : Tape} {Hb H : Hp} {vs : List V} {ds : List D} (g : Grow true E E.Hb E.H Hb H) (t : TpOk true E τ Hb H) (r : RpA K mg Hb vs ds) : StOk K mg true E (entry N (.tape :: ds.map .dat)) τ (L2.start N (.ref E.tp :: vs)) Hb H := by
  have hl := r.length
  have no : ∀ (i : Nat) (sl : Sl), (entry N (.tape :: ds.map .dat))[i]? = some sl → sl ≠ Sl.no → (i = 0 ∧ sl = Sl.tape) ∨ ∃ (j : Nat) (d : D), i = j + 1 ∧ sl = Sl.dat d ∧ ds[j]? = some d := fun i sl h hn => by
    unfold entry at h
    rw [List.getElem?_append] at h
    split at h
    · cases i with
      | zero => simp at h; exact .inl ⟨rfl, h.symm⟩
      | succ j =>
        simp only [List.getElem?_cons_succ] at h
        rw [List.getElem?_map] at h
        cases hd : ds[j]? with
        | none => rw [hd] at h; cases h
        | some d => rw [hd] at h; exact .inr ⟨j, d, rfl, (Option.some.inj h).symm, hd⟩
    · rw [List.getElem?_replicate] at h
      split at h
      · cases h; exact absurd rfl hn
      · cases h
  refine ⟨g, t, ?_, fun i d h => ?_, fun i es h => ?_, fun i j es fs p _ h => ?_, fun i h => ?_⟩
  · unfold entry L2.start
    simp [hl]
  · rcases no i _ h (fun z => by cases z) with ⟨_, e⟩ | ⟨j, d', rfl, e, hd⟩
    · cases e
    · cases e
      obtain ⟨v, hv, rv⟩ := r.get hd
      refine ⟨v, ?_, rv⟩
      unfold L2.start
      rw [List.getElem?_append_left (by simpa using (List.getElem?_eq_some_iff.mp hv).1)]
      simp only [List.map_cons, List.getElem?_cons_succ]
      rw [List.getElem?_map, hv]
      rfl
  · rcases no i _ h (fun z => by cases z) with ⟨_, e⟩ | ⟨j, d', _, e, _⟩ <;> cases e
  · rcases no i _ h (fun z => by cases z) with ⟨_, e⟩ | ⟨j, d', _, e, _⟩ <;> cases e
  · rcases no i _ h (fun z => by cases z) with ⟨e, _⟩ | ⟨j, d', _, e, _⟩
    · subst e
      exact ⟨rfl, by simp [L2.start]⟩
    · cases e
theorem cn_of {N ps : List Str} {st : Stmt} (S : FnScope N ps (defScope st)) {k : Nat} {qual : Str} {f : Addr} {cdv : Value} {A : Around} {outer : List Env} {s : Shared} {H : Hp} {E : XK} (hr : Room k (A.deeper (envOfC qual (defScope st) s.heap.objs.size f cdv))) :
    Cn (cxOf CX0 P w K mg base N qual (defScope st) f cdv A outer s H E).nox (defScope st) N k :=
  ⟨rfl, S.nd, fun _ h => h, fun _ h => h, fun _ h => h, fun _ h => ⟨h, rfl⟩, hr, rfl, S.kind, rfl⟩
/-- THE RULE for a def on data -/
theorem fnP_of {x : Str} {st : Stmt} {f : Addr} {fd : FuncData} {N ps : List Str} {k : Nat} {C : List D → D → Prop} (F : Fun K x x st f fd) (S : FnScope N ps (defScope st)) (hb : Binds K fd ps []) (hm : mg x = some (.ref f)) (hC : ∀ ds d, C ds d → ds.length = ps.length)
    (body : ∀ X : Cx, wd X = ⟨P, w, K, mg, base⟩ → Cn X (defScope st) N k → ∀ ds d τ, C ds d → GSs X false (defBody st) (entry N (ds.map .dat)) τ (Ret d τ)) : FnP ⟨P, w, K, mg, base⟩ (k + 1) x C := by
  refine ⟨f, fd, ps, ?_, hm, F.kp, hb⟩
  refine F.ok S (fun vs H Q E h => ?_) (fun cdv A outer s H vs Q E hr h => ?_)
  · obtain ⟨Hb, ds, d, hc, _, r, _⟩ := h
    rw [r.length, hC ds d hc]
  · obtain ⟨Hb, ds, d, hc, sb, r, q⟩ := h
    refine ⟨_, pss_u, ?_⟩
    refine body _ rfl (cn_of S hr) ds d ⟨[], 0, 0, []⟩ hc ⟨Hb, H, 0, 0⟩ (L2.start N vs) Hb H _ (start_dat (Grow.refl sb) (TpOk.off rfl) r) ⟨fun Γ τ σ Hb1 H1 p S1 => ?_, fun d1 τ v Hb1 H1 p g _ r1 => ?_, fun _ _ _ _ _ p _ => False.elim p, fun _ _ _ _ _ p _ => False.elim p⟩
    · obtain ⟨rfl, _⟩ := p
      exact q _ Hb1 H1 S1.g Rp.non
    · obtain ⟨rfl, _⟩ := p
      exact q v Hb1 H1 g r1
/-- .. that takes the tape first -/
theorem fnT_of {x : Str} {st : Stmt} {f : Addr} {fd : FuncData} {N ps : List Str} {k : Nat} {C : List D → Tape → D → Tape → Prop} (F : Fun K x x st f fd) (S : FnScope N ps (defScope st)) (hb : Binds K fd ps []) (hm : mg x = some (.ref f)) (hC : ∀ ds τ d τ', C ds τ d τ' → ds.length + 1 = ps.length)
    (body : ∀ X : Cx, wd X = ⟨P, w, K, mg, base⟩ → Cn X (defScope st) N k → ∀ ds τ d τ', C ds τ d τ' → GSs X true (defBody st) (entry N (.tape :: ds.map .dat)) τ (Ret d τ')) : FnT ⟨P, w, K, mg, base⟩ (k + 1) x C := by
  refine ⟨f, fd, ps, ?_, hm, F.kp, hb⟩
  refine F.ok S (fun vs H Q E h => ?_) (fun cdv A outer s H vs Q E hr h => ?_)
  · obtain ⟨_, Hb, ds, τ, d, τ', vs', rfl, hc, _, _, r, _⟩ := h
    rw [List.length_cons, r.length, hC ds τ d τ' hc]
  · obtain ⟨E0, Hb, ds, τ, d, τ', vs', rfl, hc, sb, t, r, q⟩ := h
    refine ⟨_, pss_u, ?_⟩
    have t' : TpOk true ⟨Hb, H, E0.tp, E0.lg⟩ τ Hb H := fun _ => by
      obtain ⟨cl, a1, a2, a3, a4, a5, a6, a7, a8, a9⟩ := t rfl
      exact ⟨cl, a1, a2, a3, a4, a5, a6, a7, fun z => (by have z : H E0.tp = none := z; rw [a1] at z; cases z), fun z => (by have z : H E0.lg = none := z; rw [a2] at z; cases z)⟩
    have tb : ∀ {τ1 : Tape} {Hb1 H1 : Hp}, TpOk true ⟨Hb, H, E0.tp, E0.lg⟩ τ1 Hb1 H1 → TpOk true E0 τ1 Hb1 H1 := fun {τ1 Hb1 H1} t1 _ => by
      obtain ⟨cl, a1, a2, a3, a4, a5, a6, a7, a8, a9⟩ := t1 rfl
      obtain ⟨_, _, _, _, _, _, _, _, b8, b9⟩ := t rfl
      exact ⟨cl, a1, a2, a3, a4, a5, a6, a7, b8, b9⟩
    refine body _ rfl (cn_of S hr) ds τ d τ' hc ⟨Hb, H, E0.tp, E0.lg⟩ (L2.start N (.ref E0.tp :: vs')) Hb H _ (start_tape (E := ⟨Hb, H, E0.tp, E0.lg⟩) (Grow.refl sb) t' r) ⟨fun Γ τ1 σ Hb1 H1 p S1 => ?_, fun d1 τ1 v Hb1 H1 p g t1 r1 => ?_, fun _ _ _ _ _ p _ => False.elim p, fun _ _ _ _ _ p _ => False.elim p⟩
    · obtain ⟨rfl, rfl⟩ := p
      exact q _ Hb1 H1 (S1.g.ent rfl rfl) (tb S1.tp) Rp.non
    · obtain ⟨rfl, rfl⟩ := p
      exact q v Hb1 H1 (g.ent rfl rfl) (tb t1) r1
end
end PD

set_option Elab.async false
set_option linter.all false
set_option maxRecDepth 100000
set_option maxHeartbeats 1000000
namespace PD
open PySem PySem.Spec PyProof.Rows L2

/-! ### isinstance -/
def tyS : D → String
  | .non => "NoneType"
  | .bl _ => "bool"
  | .int _ => "int"
  | .str _ => "str"
  | .lst _ => "list"
  | .tup _ => "tuple"
  | .dct _ _ => "dict"
  | .obj _ _ _ => ""
  | .scr _ => ""
def isObj : D → Bool
  | .obj _ _ _ => true
  | .scr _ => true
  | _ => false
theorem tyX_of {K : PySem.W.Frag} {mg : Str → Option Value} {H : Hp} {v : V} {d : D} (r : Rp K mg H v d) (hd : isObj d = false) : TyX K H v (.type (tyS d)) := by
  cases r with
  | non => exact .base .non
  | bl b => exact .base (.bl b)
  | int i => exact .base (.int i)
  | str s => exact .base (.str s)
  | lst h _ _ => exact .base (.lst h)
  | tup h _ _ =>
    rcases h with h | ⟨o, its, n, h1, h2, h3, _⟩
    · exact .base (.tup h)
    · exact .kTuple h1 h2
  | dct h _ _ => exact .base (.dK h)
  | obj _ _ _ _ => cases hd
  | scr _ => cases hd
section
variable {X : Cx} {m w : Bool} {Γ Γ' : List Sl} {τ τ' τ1 τ2 τ3 : Tape} {a b c e tg iter : Expr} {es : List Expr} {st : Stmt} {sts body orelse : List Stmt} {d d1 d2 d3 : D} {ds ds1 ds2 : List D} {o o1 o2 o3 : Opd} {pos p1 p2 p3 p4 tpos : Pos} {k kk : Nat} {i j l : Nat} {x y z : Str} {sc scope : Scope} {N : List Str} {P P' : Out → Prop}
theorem opd_obj (h : isObj o.d = false) {E : Ent} {Hb H : Hp} {v : V} (r : OpdOk X.K X.mg m E Hb H v o) (e : Same Hb H) : TyX X.K H v (.type (tyS o.d)) := tyX_of (r.rp e) h
/-- isinstance(x, T), T a built-in class -/
theorem ge_isinst {T : String} {q : Bool} {n : Str} (B : Bt X.mg) (hg : Gl X "isinstance") (hgT : Gl X n) (hm : X.mg n = none) (hv : bootBuiltins n = some (.type T)) (hd : isObj o.d = false) (hk : kitB (tyS o.d) T = some q) (ha : GO X m a Γ τ o τ1)
    (hn : n ≠ "__name__" := by decide) (hdb : (n == ("__debug__" : Str)) = false := by decide) (hs : starEach (a :: [.Name n p2]) X.env = (false, eval a X.env) :: starEach [.Name n p2] X.env := by rfl) (hs2 : starEach (.Name n p2 :: []) X.env = (false, eval (.Name n p2) X.env) :: starEach [] X.env := by rfl)
    (hpl : (backTo pos (starEach [.Name n p2] X.env)).any (·.1) = false := by rfl) : GE X m (.Call (.Name "isinstance" p1) [a, .Name n p2] [] pos) Γ τ (.bl q) τ1 := fun E σ Hb H Q S qq =>
  u_of_pe (pe_callB call_isi hg B.isinstance (by decide +kernel) (pa_cons pe_u (pa_cons (pe_bltn (v := .ty T) hgT hm hv rfl hn hdb) pa_nil hs2) hs) (by decide) (by decide) hs hpl) (ha E σ Hb H _ S fun v Hb1 H1 g1 t1 r1 =>
    ⟨v, .ty T, _, _, q, rfl, .ty T, opd_obj hd r1 g1.e, kit_ty hk, qq _ Hb1 H1 g1 t1 (Rp.bl _)⟩)
/-- isinstance(x, (T1, T2)) -/
theorem ge_isinst2 {T1 T2 : String} {q1 q2 : Bool} {n1 n2 : Str} {kt : Nat} (B : Bt X.mg) (hg : Gl X "isinstance") (hg1 : Gl X n1) (hm1 : X.mg n1 = none) (hv1 : bootBuiltins n1 = some (.type T1)) (hg2 : Gl X n2) (hm2 : X.mg n2 = none) (hv2 : bootBuiltins n2 = some (.type T2)) (hd : isObj o.d = false) (hk1 : kitB (tyS o.d) T1 = some q1) (hk2 : kitB (tyS o.d) T2 = some q2) (ha : GO X m a Γ τ o τ1)
    (hn1 : n1 ≠ "__name__" := by decide) (hdb1 : (n1 == ("__debug__" : Str)) = false := by decide) (hn2 : n2 ≠ "__name__" := by decide) (hdb2 : (n2 == ("__debug__" : Str)) = false := by decide)
    (hs : starEach (a :: [.Tuple [.Name n1 p2, .Name n2 p3] kt p4]) X.env = (false, eval a X.env) :: starEach [.Tuple [.Name n1 p2, .Name n2 p3] kt p4] X.env := by rfl) (hs2 : starEach (.Tuple [.Name n1 p2, .Name n2 p3] kt p4 :: []) X.env = (false, eval (.Tuple [.Name n1 p2, .Name n2 p3] kt p4) X.env) :: starEach [] X.env := by rfl)
    (hs3 : starEach (.Name n1 p2 :: [.Name n2 p3]) X.env = (false, eval (.Name n1 p2) X.env) :: starEach [.Name n2 p3] X.env := by rfl) (hs4 : starEach (.Name n2 p3 :: []) X.env = (false, eval (.Name n2 p3) X.env) :: starEach [] X.env := by rfl)
    (hpl : (backTo pos (starEach [.Tuple [.Name n1 p2, .Name n2 p3] kt p4] X.env)).any (·.1) = false := by rfl) : GE X m (.Call (.Name "isinstance" p1) [a, .Tuple [.Name n1 p2, .Name n2 p3] kt p4] [] pos) Γ τ (.bl (q1 || q2)) τ1 := fun E σ Hb H Q S qq =>
  u_of_pe (pe_callB call_isiT hg B.isinstance (by decide +kernel) (pa_cons pe_u (pa_cons (pe_tup (pa_cons (pe_bltn (v := .ty T1) hg1 hm1 hv1 rfl hn1 hdb1) (pa_cons (pe_bltn (v := .ty T2) hg2 hm2 hv2 rfl hn2 hdb2) pa_nil hs4) hs3)) pa_nil hs2) hs) (by decide) (by decide) hs hpl) (ha E σ Hb H _ S fun v Hb1 H1 g1 t1 r1 => by
    refine ⟨two_le, fun p hp => ?_⟩
    have hb : Hb1 p = none := by
      cases zz : Hb1 p with
      | none => rfl
      | some u => rw [g1.e p u zz] at hp; cases hp
    have g2 : Grow m E Hb1 H1 Hb1 (upd H1 p (.tup [.ty T1, .ty T2])) := Grow.alloc g1.e hp
    refine ⟨v, p, [.ty T1, .ty T2], _, [.type T1, .type T2], q1 || q2, rfl, upd_same, .cons (.ty T1) (.cons (.ty T2) .nil), opd_obj hd (r1.grow g2) g2.e, kitAny_cons (kit_ty hk1) (fun z => kitAny_cons (kit_ty hk2) (fun z2 => ?_) fun z2 => ?_) (fun z => by rw [z]; rfl), qq _ Hb1 _ (g1.trans g2) (fun hm => ?_) (Rp.bl _)⟩
    · rw [z, z2]; rfl
    · rw [z, z2]; rfl
    · obtain ⟨cl, a1, a2, a3⟩ := t1 hm
      exact ⟨cl, same_new hp _ _ a1, same_new hp _ _ a2, a3⟩)
/-- isinstance(x, C), C an own class of the module, x no instance -/
theorem ge_isinstC {C : Addr} {q : Bool} {n : Str} (B : Bt X.mg) (hg : Gl X "isinstance") (hgT : Gl X n) (hm : X.mg n = some (.ref C)) (hd : isObj o.d = false) (hk : PySem.W.kitOne X.K (.type (tyS o.d)) (.ref C) = some q) (ha : GO X m a Γ τ o τ1)
    (hdb : (n == ("__debug__" : Str)) = false := by decide) (hs : starEach (a :: [.Name n p2]) X.env = (false, eval a X.env) :: starEach [.Name n p2] X.env := by rfl) (hs2 : starEach (.Name n p2 :: []) X.env = (false, eval (.Name n p2) X.env) :: starEach [] X.env := by rfl)
    (hpl : (backTo pos (starEach [.Name n p2] X.env)).any (·.1) = false := by rfl) : GE X m (.Call (.Name "isinstance" p1) [a, .Name n p2] [] pos) Γ τ (.bl q) τ1 := fun E σ Hb H Q S qq =>
  u_of_pe (pe_callB call_isi hg B.isinstance (by decide +kernel) (pa_cons pe_u (pa_cons (pe_glob (v := .ref C) hgT hm rfl hdb) pa_nil hs2) hs) (by decide) (by decide) hs hpl) (ha E σ Hb H _ S fun v Hb1 H1 g1 t1 r1 =>
    ⟨v, .ref C, _, _, q, rfl, .own C, opd_obj hd r1 g1.e, hk, qq _ Hb1 H1 g1 t1 (Rp.bl _)⟩)
/-- .. x the tape -/
theorem ge_isinstTape {C : Addr} {q : Bool} {n : Str} (B : Bt X.mg) (hg : Gl X "isinstance") (hgT : Gl X n) (hm : X.mg n = some (.ref C)) (hk : PySem.W.kitOne X.K (.type "dict") (.ref C) = some q) (ny : Nm X i y) (hy : Γ[i]? = some .tape)
    (hdb : (n == ("__debug__" : Str)) = false := by decide) (hs : starEach (.Name y p3 :: [.Name n p2]) X.env = (false, eval (.Name y p3) X.env) :: starEach [.Name n p2] X.env := by rfl) (hs2 : starEach (.Name n p2 :: []) X.env = (false, eval (.Name n p2) X.env) :: starEach [] X.env := by rfl)
    (hpl : (backTo pos (starEach [.Name n p2] X.env)).any (·.1) = false := by rfl) : GE X m (.Call (.Name "isinstance" p1) [.Name y p3, .Name n p2] [] pos) Γ τ (.bl q) τ := fun E σ Hb H Q S qq => by
  obtain ⟨em, ht⟩ := S.tape i hy
  obtain ⟨cl, a1, _⟩ := S.tp em
  exact u_of_pe (pe_callB call_isi hg B.isinstance (by decide +kernel) (pa_cons (pe_var ny.n ny.v ny.d ny.c) (pa_cons (pe_glob (v := .ref C) hgT hm rfl hdb) pa_nil hs2) hs) (by decide) (by decide) hs hpl)
    ⟨_, ht, .ref E.tp, .ref C, _, _, q, rfl, .own C, .base (.dK a1), hk, qq _ Hb H (Grow.refl S.same) S.tp (Rp.bl _)⟩

/-! ### in, index -/
theorem Room.u65 {k : Nat} {A : Around} (r : Room k A) : A.units + 65 < cLine := by have := r.un; omega
theorem opd_dpl {s : Bool} {n : Nat} {E : Ent} {Hb H : Hp} {v : V} (h : ∀ x ∈ ds, Sh s n x) (r : OpdOk X.K X.mg m E Hb H v (.l ds)) (e : Same Hb H) : Dp X.K H v (.list (D.pyA ds)) := by
  obtain ⟨p, vs, rfl, h1, h2, h3, _⟩ := r
  exact .lst (SqL.of h1) ((h3.mono e).dp h)
theorem shaped_lst {s : Bool} {n : Nat} (h : ∀ x ∈ ds, Sh s n x) (hn : n ≤ 50) : SeqAt.shaped (.list (D.pyA ds)) = true := by
  have h2 : Sh s (n + 1) (.lst ds) := h
  have h1 := sh_shaped h2 (by omega)
  simpa [D.py] using h1
theorem eqv_any {s : Bool} {n : Nat} (hd : Sh s n d) : ∀ {ds : List D}, (∀ x ∈ ds, Sh s n x) → ((D.pyA ds).any (fun z => PyData.eqv z d.py) = true ↔ d ∈ ds)
  | [], _ => by simp [D.pyA]
  | x :: ds, h => by
    simp only [D.pyA, List.any_cons, Bool.or_eq_true, List.mem_cons]
    rw [eqv_iff (h x (by simp)) hd, eqv_any hd fun y hy => h y (by simp [hy])]
    exact or_congr eq_comm Iff.rfl
theorem rg_in {s q : Bool} {n : Nat} (h1 : Sh s n o1.d) (h2 : ∀ x ∈ ds, Sh s n x) (hn : n ≤ 50) (hq : q = true ↔ o1.d ∈ ds) : RG X m (rInD X.K) o1 (.l ds) (.bl q) := by
  intro E Hb H v u Q e r1 r2 k
  refine ⟨o1.d.py, D.pyA ds, Rp.dp h1 (r1.rp e), opd_dpl h2 r2 e, sh_shaped h1 (by omega), shaped_lst h2 hn, ?_⟩
  have : (D.pyA ds).any (fun z => PyData.eqv z o1.d.py) = q := by rw [Bool.eq_iff_iff, eqv_any h1 h2, hq]
  first
  | (rw [this]; exact k _ (Rp.bl q))
  | (show Q (.bl _) H; simp only [this]; exact k _ (Rp.bl q))
theorem rg_notin {s q : Bool} {n : Nat} (h1 : Sh s n o1.d) (h2 : ∀ x ∈ ds, Sh s n x) (hn : n ≤ 50) (hq : q = true ↔ ¬ o1.d ∈ ds) : RG X m (rNotInD X.K) o1 (.l ds) (.bl q) := by
  intro E Hb H v u Q e r1 r2 k
  refine ⟨o1.d.py, D.pyA ds, Rp.dp h1 (r1.rp e), opd_dpl h2 r2 e, sh_shaped h1 (by omega), shaped_lst h2 hn, ?_⟩
  have : (!(D.pyA ds).any (fun z => PyData.eqv z o1.d.py)) = q := by
    rw [Bool.eq_iff_iff, hq, ← eqv_any h1 h2]
    simp
  first
  | (rw [this]; exact k _ (Rp.bl q))
  | (show Q (.bl _) H; simp only [this]; exact k _ (Rp.bl q))
theorem ge_in {kq : Nat} {s : Bool} {n : Nat} (q : Bool) (hr : Room kq X.A) (h1 : Sh s n o1.d) (h2 : ∀ x ∈ ds, Sh s n x) (hn : n ≤ 50) (hq : q = true ↔ o1.d ∈ ds) (hb' : behindInMarks .In b = false) (ha : GO X m a Γ τ o1 τ1) (hb : GL X m b Γ τ1 ds τ2) : GE X m (.Compare a [.In] [b] pos) Γ τ (.bl q) τ2 :=
  ge_cmp (op_inD (Room.u65 hr)) (rg_in h1 h2 hn hq) hb' ha hb
theorem gt_in {kq : Nat} {s : Bool} {n : Nat} (q : Bool) (hr : Room kq X.A) (h1 : Sh s n o1.d) (h2 : ∀ x ∈ ds, Sh s n x) (hn : n ≤ 50) (hq : q = true ↔ o1.d ∈ ds) (hb' : behindInMarks .In b = false) (ha : GO X m a Γ τ o1 τ1) (hb : GL X m b Γ τ1 ds τ2) : GT X m (.Compare a [.In] [b] pos) Γ τ q τ2 :=
  gt_cmp (op_inD (Room.u65 hr)) (rg_in h1 h2 hn hq) hb' ha hb
theorem ge_notin {kq : Nat} {s : Bool} {n : Nat} (q : Bool) (hr : Room kq X.A) (h1 : Sh s n o1.d) (h2 : ∀ x ∈ ds, Sh s n x) (hn : n ≤ 50) (hq : q = true ↔ ¬ o1.d ∈ ds) (hb' : behindInMarks .NotIn b = false) (ha : GO X m a Γ τ o1 τ1) (hb : GL X m b Γ τ1 ds τ2) : GE X m (.Compare a [.NotIn] [b] pos) Γ τ (.bl q) τ2 :=
  ge_cmp (op_notInD (Room.u65 hr)) (rg_notin h1 h2 hn hq) hb' ha hb
theorem gt_notin {kq : Nat} {s : Bool} {n : Nat} (q : Bool) (hr : Room kq X.A) (h1 : Sh s n o1.d) (h2 : ∀ x ∈ ds, Sh s n x) (hn : n ≤ 50) (hq : q = true ↔ ¬ o1.d ∈ ds) (hb' : behindInMarks .NotIn b = false) (ha : GO X m a Γ τ o1 τ1) (hb : GL X m b Γ τ1 ds τ2) : GT X m (.Compare a [.NotIn] [b] pos) Γ τ q τ2 :=
  gt_cmp (op_notInD (Room.u65 hr)) (rg_notin h1 h2 hn hq) hb' ha hb
theorem pyA_get : ∀ {ds : List D} {i : Nat}, (D.pyA ds)[i]? = (ds[i]?).map D.py
  | [], _ => by simp [D.pyA]
  | d :: ds, 0 => by simp [D.pyA]
  | d :: ds, i + 1 => by simp [D.pyA, pyA_get]
/-- xs.index(x): the first place of x -/
theorem ge_index {kq : Nat} {s : Bool} {n : Nat} {apos : Pos} (jj : Nat) (hr : Room kq X.A) (h1 : Sh s n d) (h2 : ∀ x ∈ ds, Sh s n x) (hn : n ≤ 50) (hj : ds[jj]? = some d) (hno : ∀ (mm : Nat), mm < jj → ds[mm]? ≠ some d) (ha : GL X m a Γ τ ds τ1) (hb : GE X m b Γ τ1 d τ2)
    (hbase : attributeBase a "index" X.env (eval a X.env) = eval a X.env := by rfl)
    (hfew : ((backTo pos (starEach (b :: []) X.env)).all (fun x => !x.1) && (backToKw pos (keywordEach [] X.env)).all (fun x => x.1.isSome) && decide ((b :: []).length + ([] : List Keyword).length + (if ([] : List Keyword).isEmpty then 0 else 1) < 30)) = true := by rfl)
    (hline : (apos.endLine == pos.line) = true := by rfl) (hst : starEach (b :: []) X.env = (false, eval b X.env) :: starEach [] X.env := by rfl) : GE X m (.Call (.Attribute a "index" apos) [b] [] pos) Γ τ (.int (jj : Nat)) τ2 := fun E σ Hb H Q S q =>
  u_of_pe (pe_bm PySem.F.plainAttrs_list PySem.F.slot_list_index PySem.F.type_list_index (mt_indexD (Room.u65 hr)) pe_u (pa_cons pe_u pa_nil hst) hbase hfew hline hst rfl) (ha E σ Hb H _ S fun v Hb1 H1 g1 t1 r1 => by
    refine ⟨?_, hb E σ Hb1 H1 _ (S.grow g1 t1) fun u Hb2 H2 g2 t2 r2 => ?_⟩
    · obtain ⟨p, vs, rfl, e1, _⟩ := r1
      exact .inl ⟨rfl, vs, SqL.of e1⟩
    · have r1' := r1.grow g2
      obtain ⟨p, vs, rfl, e1, e2, e3, _⟩ := id r1'
      refine ⟨p, u, d.py, D.pyA ds, jj, d.py, rfl, rfl, opd_dpl h2 r1' g2.e, Rp.dp h1 (Rp.mono g2.e r2), shaped_lst h2 hn, sh_shaped h1 (by omega), by rw [pyA_get, hj]; rfl, (eqv_iff h1 h1).mpr rfl, fun mm z' hm hz => ?_, q _ Hb2 H2 (g1.trans g2) t2 (Rp.int _)⟩
      rw [pyA_get] at hz
      cases hd : ds[mm]? with
      | none => rw [hd] at hz; cases hz
      | some d' =>
        rw [hd] at hz
        cases hz
        rw [← Bool.not_eq_true, eqv_iff (h2 d' (List.mem_of_getElem? hd)) h1]
        intro e
        subst e
        exact hno mm hm hd)

/-! ### list(range(n)) -/
theorem rgV_ints (lo n : Int) : rgV lo n = (irange lo (n - lo).toNat).map V.int := by
  unfold rgV irange
  rw [List.map_map]
  rfl
variable {zi zj : Int}
theorem gn_listRange {q1 : Pos} (B : Bt X.mg) (hcm : X.calm = true) (hg : Gl X "list") (hgr : Gl X "range") (h0 : 0 ≤ zi) (h1 : zi ≤ 16777216) (ha : GE X m a Γ τ (.int zi) τ1) (hs : starEach (a :: []) X.env = (false, eval a X.env) :: starEach [] X.env := by rfl) (hs2 : starEach (.Call (.Name "range" q1) [a] [] p2 :: []) X.env = (false, eval (.Call (.Name "range" q1) [a] [] p2) X.env) :: starEach [] X.env := by rfl) :
    GN X m (.Call (.Name "list" p1) [.Call (.Name "range" q1) [a] [] p2] [] pos) Γ τ ((irange 0 zi.toNat).map .int) τ1 := fun E σ Hb H Q S q =>
  u_of_pe (pe_listRg hcm hg B.list (prg_1 hgr B.range pe_u hs) hs2) (ha E σ Hb H _ S fun v Hb1 H1 g1 t1 r1 => by
    cases (Rp.int_inv r1)
    refine ⟨zi, rfl, .of_le (by omega) h1 (by omega) h0, fun p hp => ?_⟩
    rw [rgV_ints]
    have e0 : (zi - 0).toNat = zi.toNat := by omega
    rw [e0]
    refine gn_fin (σ := σ) q g1 t1 hp ?_ (RpA.ofInts _)
    simp only [irange, List.length_map, List.length_range]
    have : sizeLine = 16777216 := by decide
    omega)

/-! ### x += e; xs[k] -= e -/
theorem gs_augAdd (nd : X.N.Nodup) (n : Sm X i x) (hi : Γ[i]? = some (.dat (.int zi))) (he : GE X m e Γ τ (.int zj) τ1) (h : P (.nx (Γ.set i (.dat (.int (zi + zj)))) τ1)) : GS X m (.AugAssign (.Name x p1) .Add e pos) Γ τ P := fun E σ Hb H D S hd => by
  obtain ⟨v, hv, rv⟩ := S.dat i _ hi
  cases (Rp.int_inv rv)
  exact u_of_ps (ps_aug nd n.n n.v pe_u ip_add n.f) ⟨_, hv, he E σ Hb H _ S fun u Hb1 H1 g1 t1 r1 => ⟨zi, zj, rfl, Rp.int_inv r1, hd.nx _ _ _ Hb1 H1 h ((S.grow g1 t1).setDat (Rp.int _))⟩⟩
theorem gs_augSub (nd : X.N.Nodup) (n : Sm X i x) (hi : Γ[i]? = some (.dat (.int zi))) (he : GE X m e Γ τ (.int zj) τ1) (h : P (.nx (Γ.set i (.dat (.int (zi - zj)))) τ1)) : GS X m (.AugAssign (.Name x p1) .Sub e pos) Γ τ P := fun E σ Hb H D S hd => by
  obtain ⟨v, hv, rv⟩ := S.dat i _ hi
  cases (Rp.int_inv rv)
  exact u_of_ps (ps_aug nd n.n n.v pe_u ip_sub n.f) ⟨_, hv, he E σ Hb H _ S fun u Hb1 H1 g1 t1 r1 => ⟨zi, zj, rfl, Rp.int_inv r1, hd.nx _ _ _ Hb1 H1 h ((S.grow g1 t1).setDat (Rp.int _))⟩⟩

/-! ### an expression that changes one's own list -/
def GX (X : Cx) (m : Bool) (e : Expr) (Γ : List Sl) (τ : Tape) (d : D) (Γ' : List Sl) (τ' : Tape) : Prop :=
  ∀ E σ Hb H Q, StOk X.K X.mg m E Γ τ σ Hb H → (∀ v Hb' H', StOk X.K X.mg m E Γ' τ' σ Hb' H' → Rp X.K X.mg Hb' v d → Q v H') → uE X e σ H Q
/-- xs.pop(k) -/
theorem gx_popAt {apos : Pos} {jj : Nat} (n : Nm X i y) (hi : Γ[i]? = some (.own ds)) (hb : GE X m b Γ τ (.int zi) τ1) (h1 : 0 ≤ zi) (hj : zi.toNat = jj) (hz : ds[jj]? = some d)
    (hbase : attributeBase (.Name y p1) "pop" X.env (eval (.Name y p1) X.env) = eval (.Name y p1) X.env := by rfl)
    (hfew : ((backTo pos (starEach (b :: []) X.env)).all (fun x => !x.1) && (backToKw pos (keywordEach [] X.env)).all (fun x => x.1.isSome) && decide ((b :: []).length + ([] : List Keyword).length + (if ([] : List Keyword).isEmpty then 0 else 1) < 30)) = true := by rfl)
    (hline : (apos.endLine == pos.line) = true := by rfl) (hst : starEach (b :: []) X.env = (false, eval b X.env) :: starEach [] X.env := by rfl) : GX X m (.Call (.Attribute (.Name y p1) "pop" apos) [b] [] pos) Γ τ d (Γ.set i (.own (ds.eraseIdx jj))) τ1 := fun E σ Hb H Q S q =>
  u_of_pe (pe_bm PySem.F.plainAttrs_list PySem.F.slot_list_pop PySem.F.type_list_pop mt_popAt (pe_var n.n n.v n.d n.c) (pa_cons pe_u pa_nil hst) hbase hfew hline hst rfl) (by
    obtain ⟨p, vs, e1, e2, e3, e4, e5, e6⟩ := S.own i ds hi
    refine ⟨.ref p, e1, .inl ⟨rfl, vs, SqL.of e4⟩, hb E σ Hb H _ S fun u Hb1 H1 g1 t1 r1 => ?_⟩
    cases (Rp.int_inv r1)
    have S1 := S.grow g1 t1
    obtain ⟨p', vs', f1, f2, f3, f4, f5, f6⟩ := S1.own i ds hi
    rw [e1] at f1
    cases f1
    obtain ⟨v, hv, rv⟩ := f5.get hz
    have hlt : jj < vs'.length := (List.getElem?_eq_some_iff.mp hv).1
    have hsz : sizeLine = 16777216 := by decide
    refine ⟨p, vs', zi, jj, v, rfl, rfl, f4, by omega, by omega, ?_, hv, q v Hb1 _ (S1.write hi e1 (f5.eraseIdx jj) (Nat.le_trans (List.length_eraseIdx_le ..) f6)) rv⟩
    unfold seqIndex?
    have : ¬ zi < 0 := by omega
    simp only [this, if_false]
    have h3 : (0 ≤ zi && decide (zi < (vs'.length : Int))) = true := by simp; omega
    rw [if_pos (by simpa using h3), hj])
/-- ys.append(e), e changing other lists of one's own -/
theorem gs_appendX {y : Str} {apos : Pos} {es0 : List D} (n : Nm X j y) (hi0 : Γ[j]? = some (.own es0)) (he : GX X m e Γ τ d Γ' τ1) (hi : Γ'[j]? = some (.own ds)) (hz : ds.length < sizeLine) (h : P (.nx (Γ'.set j (.own (ds ++ [d]))) τ1))
    (hs : swapsWith (.Call (.Attribute (.Name y p1) "append" apos) [e] [] p2) none pos.line X.env = pure false := by rfl) (hbase : attributeBase (.Name y p1) "append" X.env (eval (.Name y p1) X.env) = eval (.Name y p1) X.env := by rfl)
    (hfew : ((backTo p2 (starEach (e :: []) X.env)).all (fun x => !x.1) && (backToKw p2 (keywordEach [] X.env)).all (fun x => x.1.isSome) && decide ((e :: []).length + ([] : List Keyword).length + (if ([] : List Keyword).isEmpty then 0 else 1) < 30)) = true := by rfl)
    (hline : (apos.endLine == p2.line) = true := by rfl) (hst : starEach (e :: []) X.env = (false, eval e X.env) :: starEach [] X.env := by rfl) : GS X m (.Expr (.Call (.Attribute (.Name y p1) "append" apos) [e] [] p2) pos) Γ τ P := fun E σ Hb H D S hd =>
  u_of_ps (ps_expr (pe_bm PySem.F.plainAttrs_list PySem.F.slot_list_append PySem.F.type_list_append mt_append (pe_var n.n n.v n.d n.c) (pa_cons pe_u pa_nil hst) hbase hfew hline hst rfl) hs) (by
    obtain ⟨p, vs, e1, e2, e3, e4, e5, e6⟩ := S.own j es0 hi0
    refine ⟨.ref p, e1, .inl ⟨rfl, vs, SqL.of e4⟩, he E σ Hb H _ S fun v Hb1 H1 S1 r1 => ?_⟩
    obtain ⟨p', vs', f1, f2, f3, f4, f5, f6⟩ := S1.own j ds hi
    rw [e1] at f1
    cases f1
    refine ⟨p, vs', v, rfl, rfl, f4, by rw [f5.length]; exact hz, ?_⟩
    exact hd.nx _ _ _ Hb1 _ h (S1.write hi e1 (f5.append (.cons r1 .nil)) (by rw [List.length_append, f5.length]; simp; omega)))

/-! ### the tape -/
theorem tapeK_get (lg cl : Addr) (τ : Tape) : valV (tapeK lg cl τ) ((Sum.inr ("large" : Str) : Key)) = some (.ref lg) ∧ valV (tapeK lg cl τ) ((Sum.inr ("rest" : Str) : Key)) = some (.int τ.rest) ∧ valV (tapeK lg cl τ) ((Sum.inr ("cells" : Str) : Key)) = some (.ref cl) ∧ valV (tapeK lg cl τ) ((Sum.inr ("turn" : Str) : Key)) = some (.int τ.turn) := by
  have n1 : ¬ ((Sum.inr ("large" : Str) : Key) = (Sum.inr ("rest" : Str) : Key)) := by decide +kernel
  have n2 : ¬ ((Sum.inr ("large" : Str) : Key) = (Sum.inr ("cells" : Str) : Key)) := by decide +kernel
  have n3 : ¬ ((Sum.inr ("rest" : Str) : Key) = (Sum.inr ("cells" : Str) : Key)) := by decide +kernel
  have n4 : ¬ ((Sum.inr ("large" : Str) : Key) = (Sum.inr ("turn" : Str) : Key)) := by decide +kernel
  have n5 : ¬ ((Sum.inr ("rest" : Str) : Key) = (Sum.inr ("turn" : Str) : Key)) := by decide +kernel
  have n6 : ¬ ((Sum.inr ("cells" : Str) : Key) = (Sum.inr ("turn" : Str) : Key)) := by decide +kernel
  unfold tapeK
  refine ⟨valV_pos rfl, ?_, ?_, ?_⟩
  · rw [valV_neg n1]; exact valV_pos rfl
  · rw [valV_neg n2, valV_neg n3]; exact valV_pos rfl
  · rw [valV_neg n4, valV_neg n5, valV_neg n6]; exact valV_pos rfl
theorem tapeK_put (lg cl : Addr) (τ : Tape) (zi : Int) : putK (tapeK lg cl τ) ((Sum.inr ("rest" : Str) : Key)) (.int zi) = tapeK lg cl { τ with rest := zi } ∧ putK (tapeK lg cl τ) ((Sum.inr ("turn" : Str) : Key)) (.int zi) = tapeK lg cl { τ with turn := zi } := by
  have n1 : ¬ ((Sum.inr ("large" : Str) : Key) = (Sum.inr ("rest" : Str) : Key)) := by decide +kernel
  have n2 : ¬ ((Sum.inr ("large" : Str) : Key) = (Sum.inr ("turn" : Str) : Key)) := by decide +kernel
  have n3 : ¬ ((Sum.inr ("rest" : Str) : Key) = (Sum.inr ("turn" : Str) : Key)) := by decide +kernel
  have n4 : ¬ ((Sum.inr ("cells" : Str) : Key) = (Sum.inr ("turn" : Str) : Key)) := by decide +kernel
  have n5 : ¬ ((Sum.inr ("turn" : Str) : Key) = (Sum.inr ("rest" : Str) : Key)) := by decide +kernel
  have n6 : ¬ ((Sum.inr ("cells" : Str) : Key) = (Sum.inr ("rest" : Str) : Key)) := by decide +kernel
  unfold putK tapeK
  constructor
  · rw [if_pos (by simp)]
    simp [n1, n6, n5]
  · rw [if_pos (by simp)]
    simp [n2, n3, n4]
theorem hu1 {k : Nat} {A : Around} (r : Room k A) : A.units + 1 < cLine := by have := r.un; omega
theorem gt_get {q1 : Pos} {kq : Nat} (hr : Room kq X.A) (ny : Nm X i y) (hy : Γ[i]? = some .tape) : GE X m (.Subscript (.Name y p1) (.Constant (.str "rest") k q1) pos) Γ τ (.int τ.rest) τ := fun E σ Hb H Q S q => by
  obtain ⟨em, ht⟩ := S.tape i hy
  obtain ⟨cl, a1, _⟩ := S.tp em
  refine u_of_pe (pe_dget (hu1 hr) (pe_var ny.n ny.v ny.d ny.c) pe_str (fun _ _ => rfl)) ⟨_, ht, E.tp, .int τ.rest, rfl, ?_, q _ Hb H (Grow.refl S.same) S.tp (Rp.int _)⟩
  rw [← (tapeK_get E.lg cl τ).2.1]
  exact DGet.k (k := (Sum.inr ("rest" : Str) : Key)) a1
theorem gt_turn {q1 : Pos} {kq : Nat} (hr : Room kq X.A) (ny : Nm X i y) (hy : Γ[i]? = some .tape) : GE X m (.Subscript (.Name y p1) (.Constant (.str "turn") k q1) pos) Γ τ (.int τ.turn) τ := fun E σ Hb H Q S q => by
  obtain ⟨em, ht⟩ := S.tape i hy
  obtain ⟨cl, a1, _⟩ := S.tp em
  refine u_of_pe (pe_dget (hu1 hr) (pe_var ny.n ny.v ny.d ny.c) pe_str (fun _ _ => rfl)) ⟨_, ht, E.tp, .int τ.turn, rfl, ?_, q _ Hb H (Grow.refl S.same) S.tp (Rp.int _)⟩
  rw [← (tapeK_get E.lg cl τ).2.2.2]
  exact DGet.k (k := (Sum.inr ("turn" : Str) : Key)) a1
theorem gt_cells {q1 : Pos} {kq : Nat} (hr : Room kq X.A) (ny : Nm X i y) (hy : Γ[i]? = some .tape) : GE X m (.Subscript (.Name y p1) (.Constant (.str "cells") k q1) pos) Γ τ (.lst (τ.cells.map .int)) τ := fun E σ Hb H Q S q => by
  obtain ⟨em, ht⟩ := S.tape i hy
  obtain ⟨cl, a1, a2, a3, a4, _⟩ := S.tp em
  refine u_of_pe (pe_dget (hu1 hr) (pe_var ny.n ny.v ny.d ny.c) pe_str (fun _ _ => rfl)) ⟨_, ht, E.tp, .ref cl, rfl, ?_, q _ Hb H (Grow.refl S.same) S.tp (Rp.lst a4 (by simpa using a3.2) (RpA.ofInts _))⟩
  rw [← (tapeK_get E.lg cl τ).2.2.1]
  exact DGet.k (k := (Sum.inr ("cells" : Str) : Key)) a1
/-- tape["large"] != [] -/
theorem gt_large {q1 q2 : Pos} {kq : Nat} (hr : Room kq X.A) (ny : Nm X i y) (hy : Γ[i]? = some .tape) : GT X m (.Compare (.Subscript (.Name y p1) (.Constant (.str "large") k q1) p2) [.NotEq] [.List [] q2] pos) Γ τ (!τ.large.isEmpty) τ := fun E σ Hb H Q S q => by
  obtain ⟨em, ht⟩ := S.tape i hy
  obtain ⟨cl, a1, a2, a3, a4, a5, a6, a7⟩ := S.tp em
  refine u_of_pt (pt_cmpR (op_neD hr.units) (pe_dget (hu1 hr) (pe_var ny.n ny.v ny.d ny.c) pe_str (fun _ _ => rfl)) (pe_lst pa_nil) (nomark _)) ⟨_, ht, E.tp, .ref E.lg, rfl, ?_, Nat.zero_le _, fun p hp => ?_⟩
  · rw [← (tapeK_get E.lg cl τ).1]
    exact DGet.k (k := (Sum.inr ("large" : Str) : Key)) a1
  · have g2 : Grow m E Hb H Hb (upd H p (.lst [])) := Grow.alloc S.same hp
    have dp : ∀ ns : List Int, DpAll X.K (upd H p (.lst [])) (ns.map V.int) (D.pyA (ns.map D.int)) := by
      intro ns
      induction ns with
      | nil => exact .nil
      | cons n ns ih => exact .cons (.int n) ih
    have sh : ∀ ns : List Int, Sh true 1 (.lst (ns.map D.int)) := fun ns z hz => by
      obtain ⟨n, _, rfl⟩ := List.mem_map.mp hz
      exact rfl
    refine ⟨(D.lst (τ.large.map .int)).py, (D.lst []).py, .lst (SqL.of (same_new hp _ _ a2)) (dp _), .lst (SqL.of upd_same) .nil, sh_shaped (sh _) (by decide), sh_shaped (sh []) (by decide), !τ.large.isEmpty, ?_, q Hb _ g2 (fun _ => ?_)⟩
    · congr 1
      rw [Bool.eq_iff_iff, Bool.not_eq_true', ← Bool.not_eq_true, eqv_iff (sh _) (show Sh true 1 (.lst []) from fun z hz => by cases hz)]
      cases τ.large <;> simp
    · exact ⟨cl, same_new hp _ _ a1, same_new hp _ _ a2, a3, a4, a5, a6, a7⟩
/-- tape["large"].pop(0) -/
theorem ge_popLarge {q1 q2 apos : Pos} {kq k2 : Nat} {g : Int} {r : List Int} (hr : Room kq X.A) (ny : Nm X i y) (hy : Γ[i]? = some .tape) (hl : τ.large = g :: r)
    (hbase : attributeBase (.Subscript (.Name y p1) (.Constant (.str "large") k q1) p2) "pop" X.env (eval (.Subscript (.Name y p1) (.Constant (.str "large") k q1) p2) X.env) = eval (.Subscript (.Name y p1) (.Constant (.str "large") k q1) p2) X.env := by rfl)
    (hfew : ((backTo pos (starEach (.Constant (.int 0) k2 q2 :: []) X.env)).all (fun x => !x.1) && (backToKw pos (keywordEach [] X.env)).all (fun x => x.1.isSome) && decide ((Expr.Constant (.int 0) k2 q2 :: []).length + ([] : List Keyword).length + (if ([] : List Keyword).isEmpty then 0 else 1) < 30)) = true := by rfl)
    (hline : (apos.endLine == pos.line) = true := by rfl) (hst : starEach (.Constant (.int 0) k2 q2 :: []) X.env = (false, eval (.Constant (.int 0) k2 q2) X.env) :: starEach [] X.env := by rfl) :
    GE X m (.Call (.Attribute (.Subscript (.Name y p1) (.Constant (.str "large") k q1) p2) "pop" apos) [.Constant (.int 0) k2 q2] [] pos) Γ τ (.int g) { τ with large := r } := fun E σ Hb H Q S q => by
  obtain ⟨em, ht⟩ := S.tape i hy
  obtain ⟨cl, a1, a2, a3, a4, a5, a6, a7⟩ := S.tp em
  refine u_of_pe (pe_bm PySem.F.plainAttrs_list PySem.F.slot_list_pop PySem.F.type_list_pop mt_popAt (pe_dget (hu1 hr) (pe_var ny.n ny.v ny.d ny.c) pe_str (fun _ _ => rfl)) (pa_cons pe_int pa_nil hst) hbase hfew hline hst rfl) ⟨_, ht, E.tp, .ref E.lg, rfl, ?_, .inl ⟨rfl, _, SqL.of a2⟩, E.lg, τ.large.map V.int, 0, 0, .int g, rfl, rfl, a2, by decide, by decide, ?_, by rw [hl]; rfl, ?_⟩
  · rw [← (tapeK_get E.lg cl τ).1]
    exact DGet.k (k := (Sum.inr ("large" : Str) : Key)) a1
  · rw [hl]
    simp [seqIndex?]
  · have e : (τ.large.map V.int).eraseIdx 0 = r.map V.int := by rw [hl]; rfl
    rw [e]
    have sb : Same Hb (upd H E.lg (.lst (r.map V.int))) := fun q o hq => by rw [upd_ne (ne_of_none hq a6)]; exact S.same q o hq
    refine q _ Hb _ ⟨Same.refl _, sb, fun p o hp hn => ?_, fun _ _ h => h, fun p hp => ?_⟩ (fun _ => ⟨cl, ?_, upd_same, ?_, a4, a5, a6, a7⟩) (Rp.int _)
    · rw [upd_ne (hn em).2]; exact hp
    · by_cases h : p = E.lg
      · subst h; rw [upd_same]; exact fun z => by cases z
      · rw [upd_ne h]; exact hp
    · rw [upd_ne a7.1]; exact a1
    · have a31 := a3.1
      rw [hl] at a31
      simp at a31
      exact ⟨by show r.length ≤ sizeLine; omega, a3.2⟩
/-- tape["rest"] = e, tape["turn"] = e -/
theorem gs_rest {q1 : Pos} {kq : Nat} (hr : Room kq X.A) (ny : Nm X i y) (hy : Γ[i]? = some .tape) (he : GE X m e Γ τ (.int zi) τ1) (h : P (.nx Γ { τ1 with rest := zi })) (hs : swapsWith e (some (.Subscript (.Name y p1) (.Constant (.str "rest") k q1) p2)) pos.line X.env = pure false := by rfl) : GS X m (.Assign [.Subscript (.Name y p1) (.Constant (.str "rest") k q1) p2] e pos) Γ τ P := fun E σ Hb H D S hd =>
  u_of_ps (ps_dput (hu1 hr) (pe_var ny.n ny.v ny.d ny.c) pe_str pe_u hs) (he E σ Hb H _ S fun v Hb1 H1 g1 t1 r1 => by
    cases (Rp.int_inv r1)
    have S1 := S.grow g1 t1
    obtain ⟨em, ht⟩ := S1.tape i hy
    obtain ⟨cl, a1, a2, a3, a4, a5, a6, a7⟩ := S1.tp em
    refine ⟨_, ht, E.tp, _, rfl, DPut.k (k := (Sum.inr ("rest" : Str) : Key)) a1 (by show 4 < sizeLine; decide), ?_⟩
    rw [(tapeK_put E.lg cl τ1 zi).1]
    have sb : Same Hb1 (upd H1 E.tp (.dK (tapeK E.lg cl { τ1 with rest := zi }))) := fun q o hq => by rw [upd_ne (ne_of_none hq a5)]; exact S1.same q o hq
    refine hd.nx _ _ _ Hb1 _ h (S1.grow ⟨Same.refl _, sb, fun p o hp hn => ?_, fun _ _ h => h, fun p hp => ?_⟩ fun _ => ⟨cl, upd_same, ?_, a3, a4, a5, a6, a7⟩)
    · rw [upd_ne (hn em).1]; exact hp
    · by_cases h : p = E.tp
      · subst h; rw [upd_same]; exact fun z => by cases z
      · rw [upd_ne h]; exact hp
    · rw [upd_ne (Ne.symm a7.1)]; exact a2)
theorem gs_turn {q1 : Pos} {kq : Nat} (hr : Room kq X.A) (ny : Nm X i y) (hy : Γ[i]? = some .tape) (he : GE X m e Γ τ (.int zi) τ1) (h : P (.nx Γ { τ1 with turn := zi })) (hs : swapsWith e (some (.Subscript (.Name y p1) (.Constant (.str "turn") k q1) p2)) pos.line X.env = pure false := by rfl) : GS X m (.Assign [.Subscript (.Name y p1) (.Constant (.str "turn") k q1) p2] e pos) Γ τ P := fun E σ Hb H D S hd =>
  u_of_ps (ps_dput (hu1 hr) (pe_var ny.n ny.v ny.d ny.c) pe_str pe_u hs) (he E σ Hb H _ S fun v Hb1 H1 g1 t1 r1 => by
    cases (Rp.int_inv r1)
    have S1 := S.grow g1 t1
    obtain ⟨em, ht⟩ := S1.tape i hy
    obtain ⟨cl, a1, a2, a3, a4, a5, a6, a7⟩ := S1.tp em
    refine ⟨_, ht, E.tp, _, rfl, DPut.k (k := (Sum.inr ("turn" : Str) : Key)) a1 (by show 4 < sizeLine; decide), ?_⟩
    rw [(tapeK_put E.lg cl τ1 zi).2]
    have sb : Same Hb1 (upd H1 E.tp (.dK (tapeK E.lg cl { τ1 with turn := zi }))) := fun q o hq => by rw [upd_ne (ne_of_none hq a5)]; exact S1.same q o hq
    refine hd.nx _ _ _ Hb1 _ h (S1.grow ⟨Same.refl _, sb, fun p o hp hn => ?_, fun _ _ h => h, fun p hp => ?_⟩ fun _ => ⟨cl, upd_same, ?_, a3, a4, a5, a6, a7⟩)
    · rw [upd_ne (hn em).1]; exact hp
    · by_cases h : p = E.tp
      · subst h; rw [upd_same]; exact fun z => by cases z
      · rw [upd_ne h]; exact hp
    · rw [upd_ne (Ne.symm a7.1)]; exact a2)
end
end PD

set_option Elab.async false
set_option linter.all false
set_option maxRecDepth 100000
set_option maxHeartbeats 1000000
namespace PD
open PySem PySem.Spec PyProof.Rows L2

/-! ### what the printed walks use -/
open Classical in
noncomputable def eqb (a b : D) : Bool := decide (a = b)
open Classical in
noncomputable def inb (a : D) (ds : List D) : Bool := decide (a ∈ ds)
theorem eqb_iff {a b : D} : eqb a b = true ↔ a = b := by unfold eqb; simp
theorem eqb_self (a : D) : eqb a a = true := eqb_iff.mpr rfl
theorem eqb_ne {a b : D} (h : a ≠ b) : eqb a b = false := by
  rw [← Bool.not_eq_true, eqb_iff]; exact h
theorem inb_iff {a : D} {ds : List D} : inb a ds = true ↔ a ∈ ds := by unfold inb; simp
class ShC (b : Bool) (k : Nat) (d : D) : Prop where
  h : Sh b k d
theorem shc {b : Bool} {k : Nat} {d : D} [i : ShC b k d] : Sh b k d := i.h
theorem shcA {b : Bool} {k : Nat} {ds : List D} [i : ShC b (k + 1) (.lst ds)] : ∀ x ∈ ds, Sh b k x := i.h
instance {b : Bool} {k : Nat} : ShC b k .non := ⟨by cases k <;> trivial⟩
instance {k : Nat} {i : Int} : ShC true k (.int i) := ⟨by cases k <;> rfl⟩
instance {k : Nat} {i : Bool} : ShC false k (.bl i) := ⟨by cases k <;> rfl⟩
instance {b : Bool} {k : Nat} : ShC b (k + 1) (.lst []) := ⟨fun x hx => by cases hx⟩
instance {b : Bool} {k : Nat} : ShC b (k + 1) (.tup []) := ⟨fun x hx => by cases hx⟩
instance {b : Bool} {k : Nat} {d : D} {ds : List D} [i : ShC b k d] [j : ShC b (k + 1) (.lst ds)] : ShC b (k + 1) (.lst (d :: ds)) := ⟨fun x hx => by
  rcases List.mem_cons.mp hx with rfl | hx
  · exact i.h
  · exact j.h x hx⟩
instance {b : Bool} {k : Nat} {d : D} {ds : List D} [i : ShC b k d] [j : ShC b (k + 1) (.tup ds)] : ShC b (k + 1) (.tup (d :: ds)) := ⟨fun x hx => by
  rcases List.mem_cons.mp hx with rfl | hx
  · exact i.h
  · exact j.h x hx⟩
instance {b : Bool} {k : Nat} {α : Type} {f : α → D} {xs : List α} [i : ∀ x, ShC b k (f x)] : ShC b (k + 1) (.lst (xs.map f)) := ⟨fun x hx => by
  obtain ⟨y, _, rfl⟩ := List.mem_map.mp hx
  exact (i y).h⟩
instance {b : Bool} {k : Nat} {α : Type} {f : α → D} {xs : List α} [i : ∀ x, ShC b k (f x)] : ShC b (k + 1) (.tup (xs.map f)) := ⟨fun x hx => by
  obtain ⟨y, _, rfl⟩ := List.mem_map.mp hx
  exact (i y).h⟩
instance {b : Bool} {k : Nat} {ds es : List D} [i : ShC b (k + 1) (.lst ds)] [j : ShC b (k + 1) (.lst es)] : ShC b (k + 1) (.lst (ds ++ es)) := ⟨fun x hx => by
  rcases List.mem_append.mp hx with hx | hx
  · exact i.h x hx
  · exact j.h x hx⟩
instance {b : Bool} {k : Nat} {ds : List D} [i : ShC b (k + 1) (.lst ds)] : ShC b (k + 1) (.lst ds.reverse) := ⟨fun x hx => i.h x (List.mem_reverse.mp hx)⟩
instance {b : Bool} {k : Nat} {ds : List D} {lo hi : Option Int} [i : ShC b (k + 1) (.lst ds)] : ShC b (k + 1) (.lst (cutD ds lo hi)) := ⟨fun x hx => i.h x (List.mem_of_mem_drop (List.mem_of_mem_take hx))⟩
/-- None or a datum -/
def optD {α : Type} (f : α → D) : Option α → D
  | none => .non
  | some x => f x
instance {b : Bool} {k : Nat} {α : Type} {f : α → D} {x : Option α} [i : ∀ x, ShC b k (f x)] : ShC b k (optD f x) := by
  cases x with
  | none => exact inferInstanceAs (ShC b k .non)
  | some y => exact i y

section
variable {X : Cx} {m w : Bool} {Γ Γ' : List Sl} {τ τ' τ1 τ2 τ3 : Tape} {a b c e tg iter elt : Expr} {es ifs : List Expr} {st : Stmt} {sts body orelse : List Stmt} {d d1 d2 d3 : D} {ds ds1 ds2 : List D} {o o1 o2 o3 : Opd} {sl : Sl} {pos p1 p2 p3 p4 tpos : Pos} {k kk kq : Nat} {i j l : Nat} {x y z : Str} {sc scope : Scope} {N : List Str} {P P' : Out → Prop} {W : Wd}
theorem bt_of (h : wd X = W) (B : Bt W.mg) : Bt X.mg := by subst h; exact B
theorem fp_of {C : List D → D → Prop} (h : wd X = W) (F : FnP W k x C) : FnP (wd X) k x C := h ▸ F
theorem ft_of {C : List D → Tape → D → Tape → Prop} (h : wd X = W) (F : FnT W k x C) : FnT (wd X) k x C := h ▸ F
theorem mg_of {v : Option Value} (h : wd X = W) (F : W.mg x = v) : X.mg x = v := by subst h; exact F
theorem gss_norm {Γ' : List Sl} (e : Γ = Γ') (h : GSs X m sts Γ' τ P) : Then X m sts P (.nx Γ τ) := by subst e; exact h
theorem gt_eqC {s : Bool} {n : Nat} (hr : Room kq X.A) (h1 : Sh s n o1.d) (h2 : Sh s n o2.d) (hn : n ≤ 60) (ha : GO X m a Γ τ o1 τ1) (hb : GO X m b Γ τ1 o2 τ2) : GT X m (.Compare a [.Eq] [b] pos) Γ τ (eqb o1.d o2.d) τ2 := gt_eqD _ hr h1 h2 hn eqb_iff ha hb
theorem ge_eqC {s : Bool} {n : Nat} (hr : Room kq X.A) (h1 : Sh s n o1.d) (h2 : Sh s n o2.d) (hn : n ≤ 60) (ha : GO X m a Γ τ o1 τ1) (hb : GO X m b Γ τ1 o2 τ2) : GE X m (.Compare a [.Eq] [b] pos) Γ τ (.bl (eqb o1.d o2.d)) τ2 := ge_eqD _ hr h1 h2 hn eqb_iff ha hb
theorem neb_iff {a b : D} : (!eqb a b) = true ↔ ¬ a = b := by rw [← eqb_iff]; simp
theorem gt_neC {s : Bool} {n : Nat} (hr : Room kq X.A) (h1 : Sh s n o1.d) (h2 : Sh s n o2.d) (hn : n ≤ 60) (ha : GO X m a Γ τ o1 τ1) (hb : GO X m b Γ τ1 o2 τ2) : GT X m (.Compare a [.NotEq] [b] pos) Γ τ (!eqb o1.d o2.d) τ2 := gt_neD _ hr h1 h2 hn neb_iff ha hb
theorem ge_neC {s : Bool} {n : Nat} (hr : Room kq X.A) (h1 : Sh s n o1.d) (h2 : Sh s n o2.d) (hn : n ≤ 60) (ha : GO X m a Γ τ o1 τ1) (hb : GO X m b Γ τ1 o2 τ2) : GE X m (.Compare a [.NotEq] [b] pos) Γ τ (.bl (!eqb o1.d o2.d)) τ2 := ge_neD _ hr h1 h2 hn neb_iff ha hb
theorem gt_inC {s : Bool} {n : Nat} (hr : Room kq X.A) (h1 : Sh s n o1.d) (h2 : ∀ x ∈ ds, Sh s n x) (hn : n ≤ 50) (hb' : behindInMarks .In b = false) (ha : GO X m a Γ τ o1 τ1) (hb : GL X m b Γ τ1 ds τ2) : GT X m (.Compare a [.In] [b] pos) Γ τ (inb o1.d ds) τ2 := gt_in _ hr h1 h2 hn inb_iff hb' ha hb
theorem ge_inC {s : Bool} {n : Nat} (hr : Room kq X.A) (h1 : Sh s n o1.d) (h2 : ∀ x ∈ ds, Sh s n x) (hn : n ≤ 50) (hb' : behindInMarks .In b = false) (ha : GO X m a Γ τ o1 τ1) (hb : GL X m b Γ τ1 ds τ2) : GE X m (.Compare a [.In] [b] pos) Γ τ (.bl (inb o1.d ds)) τ2 := ge_in _ hr h1 h2 hn inb_iff hb' ha hb
theorem ninb_iff {a : D} {ds : List D} : (!inb a ds) = true ↔ ¬ a ∈ ds := by rw [← inb_iff]; simp
theorem gt_ninC {s : Bool} {n : Nat} (hr : Room kq X.A) (h1 : Sh s n o1.d) (h2 : ∀ x ∈ ds, Sh s n x) (hn : n ≤ 50) (hb' : behindInMarks .NotIn b = false) (ha : GO X m a Γ τ o1 τ1) (hb : GL X m b Γ τ1 ds τ2) : GT X m (.Compare a [.NotIn] [b] pos) Γ τ (!inb o1.d ds) τ2 := gt_notin _ hr h1 h2 hn ninb_iff hb' ha hb
theorem ge_ninC {s : Bool} {n : Nat} (hr : Room kq X.A) (h1 : Sh s n o1.d) (h2 : ∀ x ∈ ds, Sh s n x) (hn : n ≤ 50) (hb' : behindInMarks .NotIn b = false) (ha : GO X m a Γ τ o1 τ1) (hb : GL X m b Γ τ1 ds τ2) : GE X m (.Compare a [.NotIn] [b] pos) Γ τ (.bl (!inb o1.d ds)) τ2 := ge_notin _ hr h1 h2 hn ninb_iff hb' ha hb
/-- an if whose answer is known -/
theorem gs_ifF {s : Bool} (hc : GT X m c Γ τ s τ1) (hs : s = false) (h : GSs X m orelse Γ τ1 P) : GS X m (.If c sts orelse pos) Γ τ P := gs_if hc (fun z => by rw [hs] at z; cases z) (fun _ => h)
theorem gs_ifT {s : Bool} (hc : GT X m c Γ τ s τ1) (hs : s = true) (h : GSs X m sts Γ τ1 P) : GS X m (.If c sts orelse pos) Γ τ P := gs_if hc (fun _ => h) (fun z => by rw [hs] at z; cases z)
/-- if c: .. without else, both ways come to one state -/
theorem gss_cut (M : List Sl → Tape → Prop) (h : GS X m st Γ τ (fun o => match o with | .nx Γ τ => M Γ τ | o => P o)) (h2 : ∀ Γ' τ', M Γ' τ' → GSs X m sts Γ' τ' P) : GSs X m (st :: sts) Γ τ P := gss_cons (fun E σ Hb H D S hd => h E σ Hb H D S ⟨fun Γ' τ' σ' Hb' H' p S' => hd.nx Γ' τ' σ' Hb' H' (h2 Γ' τ' p) S', fun d τ' v Hb' H' p => hd.rt d τ' v Hb' H' p, fun Γ' τ' σ' Hb' H' p => hd.bk Γ' τ' σ' Hb' H' p, fun Γ' τ' σ' Hb' H' p => hd.ct Γ' τ' σ' Hb' H' p⟩)
theorem gs_retN (h : P (.rt .non τ)) : GS X m (.Return none pos) Γ τ P := fun E σ Hb H D S hd => u_of_ps ps_retN (hd.rt .non τ .non Hb H h S.g S.tp Rp.non)
/-! comprehensions that draw nothing -/
theorem scan_pure {α : Type} (p : α → Bool) (g : α → D) (xs : List α) (τ : Tape) : scan (fun x τ => (p x, τ)) (fun x τ => (g x, τ)) xs τ = ((xs.filter p).map g, τ) := by
  induction xs with
  | nil => rfl
  | cons x xs ih =>
    unfold scan
    cases h : p x <;> simp [h, ih]
variable {α : Type}
theorem gn_lcp {enc : α → D} {xs : List α} {p : α → Bool} {g : α → D} (cn : Cn X sc N k) (own : List (Str × Nat)) (hk : blkC N sc scope own = true) (hz : xs.length < sizeLine) (hi : GI X m w tg iter Γ τ (xs.map enc) τ1)
    (hel : ∀ x ∈ xs, ∀ τ, ∃ Γ2, ∀ X', Blk X X' scope → GG X' m tg (enc x) (own.map (·.2)) (wipeG Γ (own.map (·.2))) Γ2 ∧ GTs X' m ifs Γ2 τ (p x) τ ∧ (p x = true → GE X' m elt Γ2 τ (g x) τ))
    (hs : ∀ x, foldedSetIterable iter X.env x = pure x := by intro _; rfl) : GN X m (.ListComp elt [⟨tg, iter, ifs, 0⟩] scope pos) Γ τ ((xs.filter p).map g) τ1 := by
  have h := gn_lc (elt := elt) (ifs := ifs) (pos := pos) enc xs (fun x τ => (p x, τ)) (fun x τ => (g x, τ)) cn own hk hz hi hel hs
  rw [scan_pure] at h
  exact h
theorem gs_setLcp {enc : α → D} {xs : List α} {p : α → Bool} {g : α → D} (cn : Cn X sc N k) (n : Sm X i x) (hl : lkL sc x = true) (own : List (Str × Nat)) (hk : blkC N sc scope own = true) (hz : xs.length < sizeLine) (hi : GI X m w tg iter Γ τ (xs.map enc) τ1)
    (hel : ∀ x ∈ xs, ∀ τ, ∃ Γ2, ∀ X', Blk X X' scope → GG X' m tg (enc x) (own.map (·.2)) (wipeG Γ (own.map (·.2))) Γ2 ∧ GTs X' m ifs Γ2 τ (p x) τ ∧ (p x = true → GE X' m elt Γ2 τ (g x) τ))
    (hln : (p2.line == p1.line) = true) (hnm : (scope.names.any fun (n, k) => n == x && (k == .local || k == .cell)) = false)
    (h : P (.nx (Γ.set i (.own ((xs.filter p).map g))) τ1)) (hs : ∀ x, foldedSetIterable iter X.env x = pure x := by intro _; rfl) : GS X m (.Assign [.Name x p2] (.ListComp elt [⟨tg, iter, ifs, 0⟩] scope p1) pos) Γ τ P := by
  refine gs_setLc enc xs (fun x τ => (p x, τ)) (fun x τ => (g x, τ)) cn n hl own hk hz hi hel hln hnm ?_ hs
  rw [scan_pure]
  exact h
theorem gts_nil : GTs X m [] Γ τ true τ := ⟨rfl, rfl⟩
theorem gts_one {s : Bool} (h : GT X m c Γ τ s τ1) : GTs X m [c] Γ τ s τ1 := h
/-- a list in another writing -/
theorem GI.is {ds' : List D} (h : GI X m w tg iter Γ τ ds τ1) (e : ds = ds') : GI X m w tg iter Γ τ ds' τ1 := e ▸ h
end
/-! ### how the lists of places read -/
theorem atI_zero {α : Type} {x : α} {xs : List α} : atI (x :: xs) 0 = some x := by simp [atI, ixN]
theorem atI_get2 {α : Type} {xs : List α} {z : Int} (h0 : 0 ≤ z) (h1 : z < xs.length) : atI xs z = some (xs[z.toNat]'(by omega)) := by
  unfold atI ixN
  rw [if_pos h0, if_pos h1]
  show xs[z.toNat]? = _
  rw [List.getElem?_eq_getElem]
theorem atI_map {α β : Type} {f : α → β} {xs : List α} {z : Int} {v : α} (h : atI xs z = some v) : atI (xs.map f) z = some (f v) := by
  unfold atI at h ⊢
  rw [List.length_map]
  cases e : ixN xs.length z with
  | none => rw [e] at h; cases h
  | some j =>
    rw [e] at h
    show (xs.map f)[j]? = _
    have h : xs[j]? = some v := h
    rw [List.getElem?_map, h]
    rfl
theorem ixN_nat {n j : Nat} (h : j < n) : ixN n (j : Int) = some j := by
  unfold ixN
  rw [if_pos (by omega), if_pos (by omega)]
  simp
theorem ixN_int {n : Nat} {z : Int} (h0 : 0 ≤ z) (h1 : z < n) : ixN n z = some z.toNat := by
  unfold ixN
  rw [if_pos h0, if_pos h1]
theorem sizeLine_val : sizeLine = 16777216 := by decide
end PD
namespace PD
open PySem PySem.Spec PyProof.Rows L2
section
variable {X : Cx} {m w : Bool} {Γ Γ' : List Sl} {τ τ' τ1 τ2 τ3 : Tape} {a b c e tg iter elt : Expr} {es ifs : List Expr} {st : Stmt} {sts body orelse : List Stmt} {d d1 d2 d3 : D} {ds ds1 ds2 : List D} {pos p1 p2 p3 p4 tpos : Pos} {k kk kq : Nat} {i j l : Nat} {x y z : Str} {sc scope : Scope} {N : List Str} {P P' : Out → Prop} {W : Wd} {α β : Type}
/-- a comprehension that draws -/
theorem gn_lct {enc : α → D} {xs : List α} {cp : α → Tape → Bool} {ct : α → Tape → Tape} {fd : α → Tape → D} {ft : α → Tape → Tape} (cn : Cn X sc N k) (own : List (Str × Nat)) (hk : blkC N sc scope own = true) (hz : xs.length < sizeLine) (hi : GI X m w tg iter Γ τ (xs.map enc) τ1)
    (hel : ∀ x ∈ xs, ∀ τ, ∃ Γ2, ∀ X', Blk X X' scope → GG X' m tg (enc x) (own.map (·.2)) (wipeG Γ (own.map (·.2))) Γ2 ∧ GTs X' m ifs Γ2 τ (cp x τ) (ct x τ) ∧ (cp x τ = true → ∀ τ2, GE X' m elt Γ2 τ2 (fd x τ2) (ft x τ2)))
    (hs : ∀ x, foldedSetIterable iter X.env x = pure x := by intro _; rfl) : GN X m (.ListComp elt [⟨tg, iter, ifs, 0⟩] scope pos) Γ τ (scan (fun x τ => (cp x τ, ct x τ)) (fun x τ => (fd x τ, ft x τ)) xs τ1).1 (scan (fun x τ => (cp x τ, ct x τ)) (fun x τ => (fd x τ, ft x τ)) xs τ1).2 :=
  gn_lc (elt := elt) (ifs := ifs) (pos := pos) enc xs (fun x τ => (cp x τ, ct x τ)) (fun x τ => (fd x τ, ft x τ)) cn own hk hz hi (fun x hx τ => by
    obtain ⟨Γ2, h⟩ := hel x hx τ
    exact ⟨Γ2, fun X' B => ⟨(h X' B).1, (h X' B).2.1, fun z => (h X' B).2.2 z _⟩⟩) hs
theorem gs_setLct {enc : α → D} {xs : List α} {cp : α → Tape → Bool} {ct : α → Tape → Tape} {fd : α → Tape → D} {ft : α → Tape → Tape} (cn : Cn X sc N k) (n : Sm X i x) (hl : lkL sc x = true) (own : List (Str × Nat)) (hk : blkC N sc scope own = true) (hz : xs.length < sizeLine) (hi : GI X m w tg iter Γ τ (xs.map enc) τ1)
    (hel : ∀ x ∈ xs, ∀ τ, ∃ Γ2, ∀ X', Blk X X' scope → GG X' m tg (enc x) (own.map (·.2)) (wipeG Γ (own.map (·.2))) Γ2 ∧ GTs X' m ifs Γ2 τ (cp x τ) (ct x τ) ∧ (cp x τ = true → ∀ τ2, GE X' m elt Γ2 τ2 (fd x τ2) (ft x τ2)))
    (hln : (p2.line == p1.line) = true) (hnm : (scope.names.any fun (n, k) => n == x && (k == .local || k == .cell)) = false)
    (h : P (.nx (Γ.set i (.own (scan (fun x τ => (cp x τ, ct x τ)) (fun x τ => (fd x τ, ft x τ)) xs τ1).1)) (scan (fun x τ => (cp x τ, ct x τ)) (fun x τ => (fd x τ, ft x τ)) xs τ1).2)) (hs : ∀ x, foldedSetIterable iter X.env x = pure x := by intro _; rfl) : GS X m (.Assign [.Name x p2] (.ListComp elt [⟨tg, iter, ifs, 0⟩] scope p1) pos) Γ τ P :=
  gs_setLc enc xs (fun x τ => (cp x τ, ct x τ)) (fun x τ => (fd x τ, ft x τ)) cn n hl own hk hz hi (fun x hx τ => by
    obtain ⟨Γ2, h⟩ := hel x hx τ
    exact ⟨Γ2, fun X' B => ⟨(h X' B).1, (h X' B).2.1, fun z => (h X' B).2.2 z _⟩⟩) hln hnm h hs
/-- what a drawing comprehension gives, by kind -/
theorem scan_typed {f2 : β → D} {Q : β → Prop} {c : α → Tape → Bool × Tape} {f : α → Tape → D × Tape} : ∀ (xs : List α) (τ : Tape), (∀ x ∈ xs, ∀ τ, ∃ y, (f x τ).1 = f2 y ∧ Q y) → ∃ ys : List β, (scan c f xs τ).1 = ys.map f2 ∧ ys.length ≤ xs.length ∧ (∀ y ∈ ys, Q y) ∧ ((∀ x τ, (c x τ).1 = true) → ys.length = xs.length)
  | [], τ, _ => ⟨[], rfl, Nat.le_refl _, fun y hy => (by cases hy), fun _ => rfl⟩
  | x :: xs, τ, h => by
    unfold scan
    by_cases hc : (c x τ).1 = true
    · rw [if_pos hc]
      obtain ⟨y, hy, qy⟩ := h x (by simp) (c x τ).2
      obtain ⟨ys, h1, h2, h3, h4⟩ := scan_typed (Q := Q) xs (f x (c x τ).2).2 fun x' hx' => h x' (by simp [hx'])
      refine ⟨y :: ys, by simp only [List.map_cons]; rw [← hy, ← h1], by simpa using h2, fun z hz => ?_, fun hh => by simpa using h4 hh⟩
      rcases List.mem_cons.mp hz with rfl | hz
      · exact qy
      · exact h3 z hz
    · rw [if_neg hc]
      obtain ⟨ys, h1, h2, h3, h4⟩ := scan_typed (Q := Q) xs (c x τ).2 fun x' hx' => h x' (by simp [hx'])
      exact ⟨ys, h1, by simp; omega, h3, fun hh => absurd (hh x τ) hc⟩
end
end PD

set_option Elab.async false
set_option linter.all false
set_option maxRecDepth 100000
set_option maxHeartbeats 1000000
namespace PD
open PySem PySem.Spec PyProof.Rows L2
/-! ### a list or a tuple -/
def sq (b : Bool) (ds : List D) : D := if b then .tup ds else .lst ds

section
variable {X : Cx} {m w : Bool} {Γ Γ' : List Sl} {τ τ' τ1 τ2 τ3 : Tape} {a b c e tg iter : Expr} {es elts : List Expr} {st : Stmt} {sts body orelse : List Stmt} {d d1 d2 d3 : D} {ds ds1 ds2 : List D} {o o1 o2 o3 : Opd} {pos p1 p2 p3 p4 tpos : Pos} {k kk : Nat} {i j l : Nat} {x y z : Str} {sc scope : Scope} {N : List Str} {P P' : Out → Prop} {s q : Bool}
theorem ge_iteI {u v : Int} (hc : GT X m c Γ τ s τ1) (ha : s = true → GE X m a Γ τ1 (.int u) τ3) (hb : s = false → GE X m b Γ τ1 (.int v) τ3) : GE X m (.IfExp c a b pos) Γ τ (.int (if s then u else v)) τ3 :=
  ge_if (o := .e (.int (if s then u else v))) hc (fun e => by have := ha e; subst e; exact this) (fun e => by have := hb e; subst e; exact this)
theorem ge_iteD (hc : GT X m c Γ τ s τ1) (ha : s = true → GE X m a Γ τ1 d1 τ3) (hb : s = false → GE X m b Γ τ1 d2 τ3) : GE X m (.IfExp c a b pos) Γ τ (if s then d1 else d2) τ3 :=
  ge_if (o := .e (if s then d1 else d2)) hc (fun e => by have := ha e; subst e; exact this) (fun e => by have := hb e; subst e; exact this)
theorem ge_is (h : GE X m e Γ τ d τ1) (q : d = d1) : GE X m e Γ τ d1 τ1 := q ▸ h
theorem gt_is (h : GT X m e Γ τ s τ1) (z : s = q) : GT X m e Γ τ q τ1 := z ▸ h
theorem gn_is (h : GN X m e Γ τ ds τ1) (q : ds = ds1) : GN X m e Γ τ ds1 τ1 := q ▸ h
theorem gl_is (h : GL X m e Γ τ ds τ1) (q : ds = ds1) : GL X m e Γ τ ds1 τ1 := q ▸ h
theorem ge_lenQ {bq : Bool} (B : Bt X.mg) (hg : Gl X "len") (ha : GE X m a Γ τ (sq bq ds) τ1) (hs : starEach (a :: []) X.env = (false, eval a X.env) :: starEach [] X.env := by rfl) : GE X m (.Call (.Name "len" p1) [a] [] pos) Γ τ (.int ds.length) τ1 := by
  cases bq with
  | true => exact ge_lenT B hg ha hs
  | false => exact ge_len B hg (gl_of ha) hs
theorem gi_seq {bq : Bool} (h : GE X m e Γ τ (sq bq ds) τ1) : GI X m w tg e Γ τ ds τ1 := by
  cases bq with
  | true => exact gi_tup h
  | false => exact gi_list h
theorem gn_listQ {bq : Bool} (B : Bt X.mg) (hg : Gl X "list") (ha : GE X m a Γ τ (sq bq ds) τ1) (hs : starEach (a :: []) X.env = (false, eval a X.env) :: starEach [] X.env := by rfl) : GN X m (.Call (.Name "list" p1) [a] [] pos) Γ τ ds τ1 := by
  cases bq with
  | true => exact gn_listT B hg ha hs
  | false => exact gn_list B hg (gl_of ha) hs
/-- isinstance(x, (list, tuple)) -/
theorem ge_isLT {bq : Bool} {kt : Nat} (B : Bt X.mg) (hg : Gl X "isinstance") (hg1 : Gl X "list") (hg2 : Gl X "tuple") (ha : GE X m a Γ τ (sq bq ds) τ1)
    (hs : starEach (a :: [.Tuple [.Name "list" p2, .Name "tuple" p3] kt p4]) X.env = (false, eval a X.env) :: starEach [.Tuple [.Name "list" p2, .Name "tuple" p3] kt p4] X.env := by rfl) : GE X m (.Call (.Name "isinstance" p1) [a, .Tuple [.Name "list" p2, .Name "tuple" p3] kt p4] [] pos) Γ τ (.bl true) τ1 := by
  cases bq with
  | true => exact ge_isinst2 (T1 := "list") (T2 := "tuple") (o := .e (.tup ds)) B hg hg1 B.list (by decide +kernel) hg2 B.tuple (by decide +kernel) rfl (show kitB "tuple" "list" = some false by decide +kernel) (show kitB "tuple" "tuple" = some true by decide +kernel) ha (hs := hs)
  | false => exact ge_isinst2 (T1 := "list") (T2 := "tuple") (o := .e (.lst ds)) B hg hg1 B.list (by decide +kernel) hg2 B.tuple (by decide +kernel) rfl (show kitB "list" "list" = some true by decide +kernel) (show kitB "list" "tuple" = some false by decide +kernel) ha (hs := hs)
theorem sq_tyS {bq : Bool} : tyS (sq bq ds) = if bq then "tuple" else "list" := by cases bq <;> rfl
/-! ### exchanged stores -/
def isStar : Expr → Bool
  | .Starred .. => true
  | _ => false
theorem star_key {es : List Expr} (h : es.any isStar = false) (f : Expr → Bool) (e : ∀ x, f x = isStar x) : es.any f = false := by rw [show f = isStar from funext e]; exact h
theorem Cn.bk (c : Cn X sc N k) : X.env.blockKind = .function := by unfold Env.blockKind; rw [c.kind]; rfl
theorem Cn.kl (c : Cn X sc N k) {x : Str} (h : lkL sc x = true) : X.env.kindOf x = some .local := c.l h
theorem Cn.kc (c : Cn X sc N k) {x : Str} (h : sc.names.lookup x = some .cell) : X.env.kindOf x = some .cell := (c.fn x h).1
/-- a comprehension stored in a cell: an ordinary assignment -/
theorem sw_cell {elt : Expr} {gs : List Comprehension} {l : Nat} (c : Cn X sc N k) (h : sc.names.lookup x = some .cell) : swapsWith (.ListComp elt gs scope pos) (some (.Name x p1)) l X.env = pure false := by
  unfold swapsWith
  simp only [c.bk, c.kc h]
  rfl
theorem swap2 {kt k2 : Nat} {px py pt pt2 : Pos} (c : Cn X sc N k) (hx : lkL sc x = true) (hy : lkL sc y = true) (hl : ((py.line == px.line) && !(x == y)) = true)
    (hf : (!([a, b].any isStar) && !([a, b].all (foldedForSure 8)) && !([a, b].all (constantsAlone 8))) = true) :
    swappedStores [.Tuple [.Name x px, .Name y py] kt pt] (.Tuple [a, b] k2 pt2) X.env = pure (some [x, y]) := by
  simp only [Bool.and_eq_true, Bool.not_eq_true'] at hf hl
  have e1 : (px.line == px.line) = true := by simp
  have nx : ¬ (y = x) := fun z => by
    have := hl.2
    rw [z] at this
    simp at this
  have e2 : ((y == x) = false) := by simpa using nx
  have en : (some NameKind.local == some NameKind.local) = true := rfl
  have eb : (ScopeKind.function != ScopeKind.function) = false := rfl
  unfold swappedStores
  dsimp only
  rw [star_key hf.1.1 _ (fun e => by cases e <;> rfl)]
  simp only [en, eb, Bool.true_and, Bool.and_true, Bool.and_self, if_true, if_false, hf.1.2, hf.2, c.bk, List.head?, Option.map, Option.getD, Expr.pos, List.filterMap_cons, List.filterMap_nil, c.kl hx, c.kl hy, e1, hl.1, List.length_cons, List.length_nil, List.eraseDups_cons, List.eraseDups_nil, List.filter_cons, List.filter_nil, e2, Bool.not_false, Bool.false_eq_true]
  first | done | rfl | decide
theorem swap3 {kt k2 : Nat} {px py pz pt pt2 : Pos} (cn : Cn X sc N k) (hx : lkL sc x = true) (hy : lkL sc y = true) (hz : lkL sc z = true) (hl : ((py.line == px.line) && (pz.line == px.line) && !(y == x) && !(z == x) && !(z == y)) = true)
    (hf : (!([a, b, c].any isStar) && !([a, b, c].all (foldedForSure 8)) && !([a, b, c].all (constantsAlone 8))) = true) :
    swappedStores [.Tuple [.Name x px, .Name y py, .Name z pz] kt pt] (.Tuple [a, b, c] k2 pt2) X.env = pure (some [x, y, z]) := by
  simp only [Bool.and_eq_true, Bool.not_eq_true'] at hf hl
  have e1 : (px.line == px.line) = true := by simp
  have en : (some NameKind.local == some NameKind.local) = true := rfl
  have eb : (ScopeKind.function != ScopeKind.function) = false := rfl
  unfold swappedStores
  dsimp only
  rw [star_key hf.1.1 _ (fun e => by cases e <;> rfl)]
  simp only [en, eb, Bool.true_and, Bool.and_true, Bool.and_self, if_true, if_false, hf.1.2, hf.2, cn.bk, List.head?, Option.map, Option.getD, Expr.pos, List.filterMap_cons, List.filterMap_nil, cn.kl hx, cn.kl hy, cn.kl hz, e1, hl.1.1.1.1, hl.1.1.1.2, List.length_cons, List.length_nil, List.eraseDups_cons, List.eraseDups_nil, List.filter_cons, List.filter_nil, hl.1.1.2, hl.1.2, hl.2, Bool.not_false, Bool.false_eq_true]
  first | done | rfl | decide
/-- one of the names is a cell -/
theorem noswapC2 {kt k2 : Nat} {px py pt pt2 : Pos} (c : Cn X sc N k) (h : sc.names.lookup x = some .cell ∨ sc.names.lookup y = some .cell) (hf : ([a, b].any isStar) = false) :
    swappedStores [.Tuple [.Name x px, .Name y py] kt pt] (.Tuple [a, b] k2 pt2) X.env = pure none := by
  have ne : ((some NameKind.cell == some NameKind.local) = false) := by decide
  unfold swappedStores
  dsimp only
  rw [star_key hf _ (fun e => by cases e <;> rfl)]
  rcases h with h | h
  · simp only [c.bk, List.head?, Option.map, Option.getD, Expr.pos, List.filterMap_cons, List.filterMap_nil, c.kc h, ne, Bool.false_and]
    by_cases hy : (X.env.kindOf y == some NameKind.local && py.line == px.line) = true
    · simp only [hy, if_true, if_false, Bool.false_eq_true, List.length_cons, List.length_nil]; rfl
    · simp only [hy, if_true, if_false, Bool.false_eq_true, List.length_cons, List.length_nil]; rfl
  · simp only [c.bk, List.head?, Option.map, Option.getD, Expr.pos, List.filterMap_cons, List.filterMap_nil, c.kc h, ne, Bool.false_and]
    by_cases hy : (X.env.kindOf x == some NameKind.local && px.line == px.line) = true
    · simp only [hy, if_true, if_false, Bool.false_eq_true, List.length_cons, List.length_nil]; rfl
    · simp only [hy, if_true, if_false, Bool.false_eq_true, List.length_cons, List.length_nil]; rfl
/-- constants alone -/
theorem noswapF2 {kt k2 : Nat} {px py pt pt2 : Pos} (c : Cn X sc N k) (hx : lkL sc x = true) (hy : lkL sc y = true) (hl : ((py.line == px.line) && !(y == x)) = true)
    (hf : (!([a, b].any isStar) && ([a, b].all (foldedForSure 8))) = true) :
    swappedStores [.Tuple [.Name x px, .Name y py] kt pt] (.Tuple [a, b] k2 pt2) X.env = pure none := by
  simp only [Bool.and_eq_true, Bool.not_eq_true'] at hf hl
  have e1 : (px.line == px.line) = true := by simp
  have en : (some NameKind.local == some NameKind.local) = true := rfl
  have eb : (ScopeKind.function != ScopeKind.function) = false := rfl
  unfold swappedStores
  dsimp only
  rw [star_key hf.1 _ (fun e => by cases e <;> rfl)]
  simp only [en, eb, Bool.true_and, Bool.and_true, Bool.and_self, if_true, if_false, hf.2, c.bk, List.head?, Option.map, Option.getD, Expr.pos, List.filterMap_cons, List.filterMap_nil, c.kl hx, c.kl hy, e1, hl.1, List.length_cons, List.length_nil, List.eraseDups_cons, List.eraseDups_nil, List.filter_cons, List.filter_nil, hl.2, Bool.not_false, Bool.false_eq_true]
  first | done | rfl | decide
end
end PD

set_option Elab.async false
set_option linter.all false
set_option maxRecDepth 100000
set_option maxHeartbeats 1000000
namespace PD
open PySem PySem.Spec PyProof.Rows L2
/-! ### the draws, in plain words -/
def mixCells (g : Int) (cells : List Int) (b : Int) : Int := cells.foldl (fun b c => (b * 48271 + c) % g) b
def mixOne (turn : Int) (cells : List Int) (found g : Int) : Int := found * 2147483647 + mixCells g cells ((turn * 69621 + g / 7) % g) ^ 5 % g
def mixAll (τ : Tape) : Int := [2147483629, 2147483587, 2147483579].foldl (mixOne (τ.turn + 1) τ.cells) 0
/-- the tape with a number to draw from -/
def refill (τ : Tape) : Tape := if τ.rest = 0 then (match τ.large with
  | g :: r => { τ with large := r, rest := g }
  | [] => { τ with turn := τ.turn + 1, rest := mixAll τ }) else τ
/-- the number drawn below n, and the tape behind it -/
def dr (τ : Tape) (n : Int) : Int := (refill τ).rest % n
def nx (τ : Tape) (n : Int) : Tape := { refill τ with rest := (refill τ).rest / n }
theorem dr_lo {τ : Tape} {n : Int} (h : 0 < n) : 0 ≤ dr τ n := Int.emod_nonneg _ (by omega)
theorem dr_hi {τ : Tape} {n : Int} (h : 0 < n) : dr τ n < n := Int.emod_lt_of_pos _ h
theorem nx_cells {τ : Tape} {n : Int} : (nx τ n).cells = τ.cells := by
  unfold nx refill
  split
  · split <;> rfl
  · rfl
theorem mixCells_range {g : Int} (hg : 0 < g) : ∀ (cells : List Int) (b : Int), 0 ≤ b → b < g → 0 ≤ mixCells g cells b ∧ mixCells g cells b < g
  | [], b, h1, h2 => ⟨h1, h2⟩
  | c :: cs, b, h1, h2 => mixCells_range hg cs _ (Int.emod_nonneg _ (by omega)) (Int.emod_lt_of_pos _ hg)
/-- several draws of one size -/
def pk {α : Type} [Inhabited α] (τ : Tape) (xs : List α) : α := xs.getD (dr τ xs.length).toNat default
def pkT {α : Type} (τ : Tape) (xs : List α) : Tape := nx τ xs.length
theorem pk_mem {α : Type} [Inhabited α] {τ : Tape} {xs : List α} (h : xs ≠ []) : pk τ xs ∈ xs := by
  have hl : 0 < xs.length := List.length_pos_iff.mpr h
  have h1 := dr_lo (τ := τ) (n := xs.length) (by omega)
  have h2 := dr_hi (τ := τ) (n := xs.length) (by omega)
  have h3 : (dr τ xs.length).toNat < xs.length := by omega
  unfold pk
  rw [List.getD_eq_getElem?_getD, List.getElem?_eq_getElem h3]
  exact List.getElem_mem h3
/-- some things in a drawn sequence -/
def shuf {α : Type} : Nat → List α → Tape → List α
  | 0, _, _ => []
  | n + 1, xs, τ => match xs[(dr τ xs.length).toNat]? with
    | some x => x :: shuf n (xs.eraseIdx (dr τ xs.length).toNat) (nx τ xs.length)
    | none => []
def shufT {α : Type} : Nat → List α → Tape → Tape
  | 0, _, τ => τ
  | n + 1, xs, τ => shufT n (xs.eraseIdx (dr τ xs.length).toNat) (nx τ xs.length)
theorem dr_idx {τ : Tape} {n : Nat} (h : 0 < n) : (dr τ n).toNat < n := by
  have h1 := dr_lo (τ := τ) (n := n) (by omega)
  have h2 := dr_hi (τ := τ) (n := n) (by omega)
  omega
theorem erase_perm {α : Type} : ∀ (xs : List α) (i : Nat) (h : i < xs.length), (xs[i] :: xs.eraseIdx i).Perm xs
  | x :: xs, 0, h => .refl _
  | x :: xs, i + 1, h => by
    have h' : i < xs.length := by simpa using h
    exact (List.Perm.swap x (xs[i]) (xs.eraseIdx i)).trans (List.Perm.cons x (erase_perm xs i h'))
theorem shuf_perm {α : Type} : ∀ (n : Nat) (xs : List α) (τ : Tape), xs.length = n → (shuf n xs τ).Perm xs
  | 0, xs, τ, h => by
    cases xs with
    | nil => exact .nil
    | cons _ _ => simp at h
  | n + 1, xs, τ, h => by
    have hi : (dr τ xs.length).toNat < xs.length := dr_idx (by omega)
    unfold shuf
    rw [List.getElem?_eq_getElem hi]
    have ih := shuf_perm n (xs.eraseIdx (dr τ xs.length).toNat) (nx τ xs.length) (by rw [List.length_eraseIdx, if_pos hi]; omega)
    exact (List.Perm.cons _ ih).trans (erase_perm xs _ hi)
/-! ### small things that the printed walks name -/
theorem map_cons_inv {α : Type} {f : α → D} {d : D} {rest : List D} {gs : List α} (e : d :: rest = gs.map f) : ∃ g gs', gs = g :: gs' ∧ d = f g ∧ rest = gs'.map f := by
  cases gs with
  | nil => cases e
  | cons g gs =>
    obtain ⟨e1, e2⟩ := List.cons.inj e
    exact ⟨g, gs, rfl, e1, e2⟩
theorem map_nil_inv {α : Type} {f : α → D} {gs : List α} (e : [] = gs.map f) : gs = [] := by
  cases gs with
  | nil => rfl
  | cons g gs => cases e
theorem atI_getD {xs : List D} {z : Int} (h0 : 0 ≤ z) (h1 : z < xs.length) : atI xs z = some (xs.getD z.toNat .non) := by
  rw [atI_get2 h0 h1, List.getD_eq_getElem?_getD, List.getElem?_eq_getElem (by omega)]
  rfl
theorem shuf_step {α : Type} {xs : List α} {τ : Tape} (h : 0 < xs.length) : shuf xs.length xs τ = (xs[(dr τ xs.length).toNat]'(dr_idx h)) :: shuf (xs.length - 1) (xs.eraseIdx (dr τ xs.length).toNat) (nx τ xs.length) := by
  obtain ⟨n, hn⟩ : ∃ n, xs.length = n + 1 := ⟨xs.length - 1, by omega⟩
  have hi := dr_idx (τ := τ) h
  have e : shuf (n + 1) xs τ = (xs[(dr τ xs.length).toNat]'hi) :: shuf n (xs.eraseIdx (dr τ xs.length).toNat) (nx τ xs.length) := by
    show (match xs[(dr τ xs.length).toNat]? with | some x => x :: shuf n (xs.eraseIdx (dr τ xs.length).toNat) (nx τ xs.length) | none => []) = _
    rw [List.getElem?_eq_getElem hi]
  have e2 : xs.length - 1 = n := by omega
  rw [e2]
  exact (congrArg (fun k => shuf k xs τ) hn).trans e
theorem shufT_step {α : Type} {xs : List α} {τ : Tape} (h : 0 < xs.length) : shufT xs.length xs τ = shufT (xs.length - 1) (xs.eraseIdx (dr τ xs.length).toNat) (nx τ xs.length) := by
  obtain ⟨n, hn⟩ : ∃ n, xs.length = n + 1 := ⟨xs.length - 1, by omega⟩
  have e : shufT (n + 1) xs τ = shufT n (xs.eraseIdx (dr τ xs.length).toNat) (nx τ xs.length) := rfl
  have e2 : xs.length - 1 = n := by omega
  rw [e2]
  exact (congrArg (fun k => shufT k xs τ) hn).trans e
theorem erase_map {α β : Type} (f : α → β) : ∀ (xs : List α) (i : Nat), (xs.map f).eraseIdx i = (xs.eraseIdx i).map f
  | [], _ => rfl
  | _ :: _, 0 => rfl
  | x :: xs, i + 1 => congrArg (f x :: ·) (erase_map f xs i)
theorem shuf_map {α β : Type} (f : α → β) : ∀ (n : Nat) (xs : List α) (τ : Tape), shuf n (xs.map f) τ = (shuf n xs τ).map f ∧ shufT n (xs.map f) τ = shufT n xs τ
  | 0, _, _ => ⟨rfl, rfl⟩
  | n + 1, xs, τ => by
    have ih := shuf_map f n (xs.eraseIdx (dr τ xs.length).toNat) (nx τ xs.length)
    constructor
    · unfold shuf
      rw [List.length_map, List.getElem?_map, erase_map, ih.1]
      cases xs[(dr τ xs.length).toNat]? <;> rfl
    · unfold PD.shufT
      rw [List.length_map, erase_map, ih.2]
end PD

set_option Elab.async false
set_option linter.all false
set_option maxRecDepth 100000
set_option maxHeartbeats 2000000
namespace PD
open PySem PySem.Spec PyProof.Rows L2
open Builtin Builtin.Str
/-! ### enumerate of a tuple -/
theorem meets_enum_any {v : Value} {o : Obj} {H : Heap → Prop} (B : Begins v o H) :
    Meets (Builtin.«enumerate.__new__» ⟨[.type "enumerate", v], []⟩) (fun _ R s => H s.heap ∧
      R (.ok (.ret (.ref (s.heap.push o).objs.size))) { s with heap := (s.heap.push o).push { cls := .type "enumerate", data := .fields #[.none, .bool false, .ref s.heap.objs.size, rawInt 0, .none, .none] } }) :=
  .of_wp fun prog w A R s h => by
    obtain ⟨hp, g, d, tk, os⟩ := s; obtain ⟨h1, h⟩ := h
    have hsub := sub_enumerate
    have q1 : ∀ {A' : Around} {E : Value → Shared → Prop} {Q : Value → Shared → Prop}, Q (.ref hp.objs.size) ⟨hp.push o, g, d, tk, os⟩ → wpAny (model prog w) A' (pyIter v) Q E ⟨hp, g, d, tk, os⟩ :=
      fun q => B.iter prog w _ _ ⟨hp, g, d, tk, os⟩ _ h1 q
    wp_walk using q1
    refine wpAny_stack_any fun st => wpAny_pure ?_
    split
    · rename_i c _ _ _ _ _
      cases (c == Value.type "enumerate")
      · wp_walk using q1
        exact ⟨_, rfl, h⟩
      · wp_walk using q1
        exact ⟨_, rfl, h⟩
    · wp_walk using q1
      exact ⟨_, rfl, h⟩
theorem enum_any {prog : Program} {w : World} {A : Around} {E : Value → Shared → Prop} {s : Shared} {v : Value} {o : Obj} {H : Heap → Prop} {Q : Value → Shared → Prop} (B : Begins v o H) (h1 : H s.heap)
    (h : ∀ h', IsEnum h' (s.heap.objs.size + 1) s.heap.objs.size 0 .none → h'.get? s.heap.objs.size = some o → h'.objs.size = s.heap.objs.size + 2 →
      (∀ b o, s.heap.get? b = some o → h'.get? b = some o) → Q (.ref (s.heap.objs.size + 1)) { s with heap := h' }) :
    wpAny (model prog w) A (call (.type "enumerate") [v]) Q E s := by
  refine callType_new F.called_enumerate (by decide) (F.typeCall_enumerate_1 _) (F.newCall_enumerate_1 _) (fun obj => F.args_object_init_2 obj _) F.entry_enumerate_new
    (meets_enum_any B) ⟨h1, ?_⟩
  have hz : (s.heap.push o).objs.size = s.heap.objs.size + 1 := Heap.size_push ..
  show _ ∧ _
  rw [hz]
  have he : IsEnum ((s.heap.push o).push { cls := .type "enumerate", data := .fields #[.none, .bool false, .ref s.heap.objs.size, rawInt 0, .none, .none] }) (s.heap.objs.size + 1) s.heap.objs.size 0 .none := by
    have := Heap.get?_push_size (s.heap.push o) (o := { cls := .type "enumerate", data := .fields #[.none, .bool false, .ref s.heap.objs.size, rawInt 0, .none, .none] }) rfl
    rw [hz] at this; exact this
  refine ⟨⟨_, he, rfl⟩, h _ he (Heap.get?_push_of_some _ (Heap.get?_push_size _ B.free)) (by rw [Heap.size_push, hz]) fun b o x => Heap.get?_push_of_some _ (Heap.get?_push_of_some _ x)⟩
/-- the tuple at a as it stands at each turn, each item in a new pair -/
def IteT (K : PySem.W.Frag) (a : Addr) : It :=
  ⟨fun i H => ∃ (xs : List V) (x : V), SqT K H a xs ∧ xs[i]? = some x, fun i H v H' => ∃ T x, v = .ref T ∧ H T = none ∧ H' = upd H T (.tup [.int (i : Nat), x]) ∧ ∀ xs, SqT K H a xs → xs[i]? = some x, fun i H => ∃ xs : List V, SqT K H a xs ∧ xs.length ≤ i⟩
theorem turn_enumT {P : Program} {w : World} {K : PySem.W.Frag} {elts : List Expr} {kk : Nat} {tpos : Pos} (a e it : Addr) :
    Turn P w K (.Tuple elts kk tpos) (IteT K a) [e, it] e (fun i h => (∃ old, IsEnum h e it ((i : Nat) : Int) old) ∧ h.IsTupleIter it a i ∧ e ≠ it ∧ a ≠ it ∧ e ≠ a) where
  mem := by simp
  obj := fun i h st b hb => by
    obtain ⟨⟨old, he⟩, ⟨o, ho, hc, hd⟩, _⟩ := st
    have e' : b = e ∨ b = it := by simpa using hb
    rcases e' with z | z
    · rw [z]; exact ⟨_, he, fun v q => nomatch q⟩
    · rw [z]; exact ⟨o, ho, fun v q => by rw [hd] at q; cases q⟩
  keep := fun i h h' st k => let ⟨⟨old, he⟩, hi, hne⟩ := st; ⟨⟨old, k e (by simp) _ he⟩, hi.at fun o q => k it (by simp) o q, hne⟩
  item := by
    intro X hP hw hK hc i pins s σ H E I hf st hg
    subst hP hw hK
    obtain ⟨⟨old, he⟩, hit, hne, hai, hea⟩ := st
    obtain ⟨xs, x, hq, hx⟩ := hg
    obtain ⟨its, rv, p, hz⟩ := I.tuple hq
    obtain ⟨u, hu, ru⟩ := rv.get hx
    have hel : e < s.heap.objs.size := Heap.lt_size he
    have hil : it < s.heap.objs.size := by obtain ⟨_, q, _⟩ := hit; exact Heap.lt_size q
    have hlt : i < its.toArray.size := by
      have := (List.getElem?_eq_some_iff.mp hu).1
      simpa using this
    refine wpAny_pyNext_enum_itemD (Draws.tuple (A := X.A.in1) (I.ok.hd hc) it a hai its.toArray) he ⟨hit, p⟩ hlt hne (by simp; exact ⟨hne, hea⟩) fun u' h' tk hPu ho hst' hT hsz hk => ?_
    have hu' : u = u' := by
      have h2 : its.toArray[i]? = some u' := hPu
      rw [List.getElem?_toArray, hu] at h2
      exact Option.some.inj h2
    subst hu'
    obtain ⟨hit', _⟩ := hst'
    refine ⟨_, rfl, wpAny_letOwnedTupleGo_enum (s := { s with heap := h', toks := tk + 1 }) ho fun h'' he' sb => ?_⟩
    have hT2 : h''.get? s.heap.objs.size = some { cls := .type "tuple", data := .seq #[.int i tk, u] } := (sb.2 _ (Nat.ne_of_gt hel)).trans hT
    have new : ObjOk X.prog X.w (upd H s.heap.objs.size (.tup [.int (i : Nat), x])) h'' s.heap.objs.size (.tup [.int (i : Nat), x]) :=
      ⟨by show 2 ≤ sizeLine; decide, [.int i tk, u], .cons ⟨_, rfl⟩ (.cons ru .nil), ⟨_, hT2, rfl, _, rfl⟩⟩
    have I1 : Inv X pins σ (upd H s.heap.objs.size (.tup [.int (i : Nat), x])) { s with heap := h'', toks := tk + 1 } :=
      I.turnedNew (t' := tk + 1) (ch := [e, it]) (fun b ob hb q => (sb.2 b (fun z => hb (by simp [z]))).trans (hk b ob (fun z => hb (by simp [z])) (fun z => hb (by simp [z])) q)) hf (Nat.le_refl _) new
    refine ⟨.ref s.heap.objs.size, _, I1, rfl, ⟨_, x, rfl, I.hok.fresh (Nat.le_refl _), rfl, fun ys hy => by rw [I.tuple_inj hy hq]; exact hx⟩, ⟨⟨u, ?_⟩, hit'.at fun o q => (sb.2 it (Ne.symm hne)).trans q, hne, hai, hea⟩, fun b hb => ?_⟩
    · have e1 : ((i + 1 : Nat) : Int) = (i : Int) + 1 := by omega
      rw [e1]; exact he'
    · have hb' : b < s.heap.objs.size := by
        have e' : b = e ∨ b = it := by simpa using hb
        rcases e' with z | z
        · rw [z]; exact hel
        · rw [z]; exact hil
      rw [upd_ne (Nat.ne_of_lt hb')]
      exact (hf b hb).1
  done := by
    intro X hP hw hK hc i pins s σ H E I hf st hg
    subst hP hw hK
    obtain ⟨⟨old, he⟩, hit, hne, hai, hea⟩ := st
    obtain ⟨xs, hq, hx⟩ := hg
    obtain ⟨its, rv, p, hz⟩ := I.tuple hq
    obtain ⟨f0, f1, f2, f3, f4, f5⟩ := hf it (by simp)
    have hl := rv.length
    have D' : Draws X.prog X.w X.A.in1 it [it, a] 0 (fun _ _ => False) (fun _ h => h.IsTupleIter it a i ∧ h.IsTuple a its.toArray) :=
      ⟨fun _ _ st => let ⟨o, ho, _⟩ := st.1; ⟨o, ho⟩, fun _ _ _ st hk => ⟨st.1.at fun o e => hk it (by simp) o e, st.2.at fun o e => hk a (by simp) o e⟩, fun j s Q E hj st hQ => absurd hj (Nat.not_lt_zero j),
        fun s Q E st hE => wpAny_nextOf_tuple_end (A := X.A.in1) (I.ok.hd hc) st.1 st.2 (by simp; omega) hE⟩
    exact wpAny_pyNext_enum_endD D' he ⟨hit, p⟩ fun h' eb => ⟨rfl, I.turned (t' := s.toks) (fun b o hb q => eb b o hb q) f0 f1 f3 f4 f5⟩
  self := fun A i s Q E st h => let ⟨⟨_, he⟩, _⟩ := st; wpAny_pyIter_enum he h
def iEnumT (K : PySem.W.Frag) (ta : TA) : TI := fun σ H R => ta σ H fun vs H1 => ∃ a xs, vs = [.ref a] ∧ SqT K H1 a xs ∧ R (IteT K a) H1
theorem pi_enumT {X : Cx} {e : Expr} {ta : TA} {p pos tpos : Pos} {elts : List Expr} {kk : Nat} (hg : Gl X "enumerate") (hm : X.mg "enumerate" = none) (ha : PA X [e] ta) (hs : starEach [e] X.env = [(false, eval e X.env)] := by rfl) :
    PI X (.Tuple elts kk tpos) (.Call (.Name "enumerate" p) [e] [] pos) (iEnumT X.K ta) := by
  refine ⟨fun pins s σ H R I h => ?_⟩
  refine Call_ (ld_blt I hg hm boot_enumerate (PyProof.Rows.callWith_type1 (thn (ha.run _ pins s σ H _ I h) fun us s1 ⟨vs, H1, I1, r1, q1⟩ => ?_) hs rfl))
  obtain ⟨a, xs, ex, hq, q⟩ := q1
  subst ex
  cases r1 with
  | cons r rr =>
    cases rr
    cases r
    obtain ⟨its, rv, p', hz⟩ := I1.tuple hq
    refine enum_any (begins_tuple a its.toArray) p' fun h' he hit hsz hk => wpAny_pyIter_enum he ?_
    have I2 : Inv X pins σ H1 { s1 with heap := h' } := I1.kept (t' := s1.toks) hk
    have hal : a < s1.heap.objs.size := by obtain ⟨_, q, _⟩ := p'; exact Heap.lt_size q
    refine ⟨s1.heap.objs.size + 1, [s1.heap.objs.size + 1, s1.heap.objs.size], _, _, H1, rfl, I2, turn_enumT a (s1.heap.objs.size + 1) s1.heap.objs.size, ⟨⟨.none, he⟩, ⟨_, hit, rfl, rfl⟩, Nat.succ_ne_self _, Nat.ne_of_lt hal, fun z => absurd hal (by rw [← z]; exact Nat.not_lt.mpr (Nat.le_succ _))⟩, fun b hb => ?_, q⟩
    have e' : b = s1.heap.objs.size + 1 ∨ b = s1.heap.objs.size := by simpa using hb
    have hle : s1.heap.objs.size ≤ b := by
      rcases e' with z | z
      · rw [z]; exact Nat.le_add_right _ _
      · rw [z]; exact Nat.le_refl _
    exact I1.fpOk hle (I1.hok.fresh hle)
theorem it_enumT {K : PySem.W.Frag} {mg : Str → Option Value} {Hb H : Hp} {p : Addr} {vs : List V} {wt : List Addr} {ds : List D} (hl : ∀ Hb1 H1, Same Hb Hb1 → Same Hb1 H1 → (∀ p ∈ wt, H1 p = H p) → SqT K H1 p vs) (r : RpA K mg Hb vs ds) : ItOk K mg (IteT K p) Hb H wt (enumD 0 ds) := by
  refine ⟨fun i d Hb2 H2 hd s1 s2 hp => ?_, fun Hb2 H2 s1 s2 hp => ?_⟩
  · rw [enumD_get] at hd
    cases hdi : ds[i]? with
    | none => rw [hdi] at hd; cases hd
    | some d0 =>
      rw [hdi] at hd
      have hd : D.tup [.int ((0 + i : Nat) : Int), d0] = d := Option.some.inj hd
      subst hd
      obtain ⟨v, hv, rv⟩ := r.get hdi
      have h2 := hl Hb2 H2 s1 s2 hp
      refine ⟨⟨vs, v, h2, hv⟩, fun x H3 y => ?_⟩
      obtain ⟨T, x', rfl, hT, rfl, y⟩ := y
      have : v = x' := Option.some.inj (hv.symm.trans (y vs h2))
      subst this
      have hg := grow_pair (E := ⟨Hb2, H2, 0, 0⟩) (o := .tup [.int ((i : Nat) : Int), v]) s2 hT
      refine ⟨_, hg, Rp.tup (.inl upd_same) two_le (.cons ?_ (.cons ((rv.mono s1).mono hg.b) .nil))⟩
      rw [Nat.zero_add]
      exact Rp.int _
  · exact ⟨vs, hl Hb2 H2 s1 s2 hp, by rw [enumD_len, r.length]; exact Nat.le_refl _⟩
section
variable {X : Cx} {m w : Bool} {Γ Γ' : List Sl} {τ τ' τ1 τ2 τ3 : Tape} {e : Expr} {elts : List Expr} {ds : List D} {p1 pos tpos : Pos} {kk : Nat}
theorem gi_enumT (B : Bt X.mg) (hg : Gl X "enumerate") (h : GE X m e Γ τ (.tup ds) τ1) (hs : starEach [e] X.env = [(false, eval e X.env)] := by rfl) : GI X m w (.Tuple elts kk tpos) (.Call (.Name "enumerate" p1) [e] [] pos) Γ τ (enumD 0 ds) τ1 := fun E σ Hb H R S q =>
  u_of_pi (pi_enumT hg B.enumerate pa_u hs) (u_arg1 hs (h E σ Hb H _ S fun v Hb1 H1 g1 t1 r1 => by
    obtain ⟨p, vs, rfl, h1, h2, h3⟩ := Rp.tup_inv r1
    exact ⟨p, vs, rfl, (same_t g1.e h1).sq, q _ Hb1 H1 [] g1 t1 (it_enumT (fun Hb2 H2 s1 s2 _ => (same_t s2 (same_t s1 h1)).sq) h3) (fun _ => rfl) (fun p hp => by cases hp)⟩))
theorem gi_enumQ {bq : Bool} (B : Bt X.mg) (hg : Gl X "enumerate") (h : GE X m e Γ τ (sq bq ds) τ1) (hs : starEach [e] X.env = [(false, eval e X.env)] := by rfl) : GI X m w (.Tuple elts kk tpos) (.Call (.Name "enumerate" p1) [e] [] pos) Γ τ (enumD 0 ds) τ1 := by
  cases bq with
  | true => exact gi_enumT B hg h hs
  | false => exact gi_enum B hg h hs
end
end PD

set_option Elab.async false
set_option linter.all false
set_option maxRecDepth 100000
set_option maxHeartbeats 2000000
namespace PD
open PySem PySem.Spec PyProof.Rows L2
/-! ### max(xs, default=d) -/
theorem max_def_raw {prog : Program} {w : World} {A : Around} {E : Value → Shared → Prop} {s : Shared} {l : Addr} {its : List Value} {ns : List Int} {d : Value} {Q : Value → Shared → Prop} (hh : A.handled = none) (hl : s.heap.IsList l its.toArray) (hi : IntsAre its ns)
    (h0 : ns = [] → ∀ h' tk, (∀ b o, s.heap.get? b = some o → h'.get? b = some o) → Q d { s with heap := h', toks := tk })
    (h : ∀ h' tk M t', (∀ b o, s.heap.get? b = some o → h'.get? b = some o) → M ∈ ns → (∀ a, a ∈ ns → a ≤ M) → Q (.int M t') { s with heap := h', toks := tk }) :
    wpAny (model prog w) A (call (.builtin "max") [.ref l] [(Str.ofString "default", d)]) Q E s := by
  obtain ⟨xs, e⟩ := hi.allInts.items
  have hn : numsOf (intItems xs).toList = ns := by rw [← e]; exact hi.numsOf
  rw [nums_intItems] at hn
  subst hn
  rw [e] at hl
  have hz : (intItems xs).size = xs.size := by simp [intItems]
  refine call_max_walkD (PySem.W.iter_listW (A := A.in1) hh hl fun s₂ e W st hfp hw hk => ?_)
  refine ⟨_, _, _, _, _, _, _, s.heap, (fun i j => decide (numAt xs i > numAt xs j)), rfl, W, st, hfp, hw, hk, fun hz0 s' m => ?_, fun hp => ⟨fun i j vi vj s Q E _ hi hj hq => CmpOf.ints_gt (numAt xs) (fun _ _ => intItems_at) i j vi vj s Q E hi hj hq, fun v s' hP m => ?_⟩⟩
  · obtain ⟨h', tk, rfl, hk'⟩ := PySem.W.moved_old e rfl m
    exact h0 (List.eq_nil_of_length_eq_zero (by rw [List.length_map, Array.length_toList]; omega)) h' tk hk'
  · obtain ⟨h', tk, rfl, hk'⟩ := PySem.W.moved_old e rfl m
    obtain ⟨t, rfl⟩ := intItems_at hP
    obtain ⟨h1, h2⟩ := argBest_gt (numAt xs) ((intItems xs).size - 1)
    refine h h' tk _ t hk' ?_ fun a ha => ?_
    · rw [numAt_eq]; exact PySem.getD_mem (by rw [List.length_map, Array.length_toList]; omega)
    · obtain ⟨j, hj, rfl⟩ := mem_getD ha
      rw [List.length_map, Array.length_toList] at hj
      rw [← numAt_eq]; exact h2 j (by omega)
def rMaxDef (K : PySem.W.Frag) : List V → List V → Hp → VK → Prop := fun vs zs H Q => ∃ (a : Addr) (ns : List Int) (d : Int), vs = [V.ref a] ∧ zs = [V.int d] ∧ SqL K H a (ns.map V.int) ∧ (ns = [] → Q (.int d) H) ∧ ∀ m, m ∈ ns → (∀ y, y ∈ ns → y ≤ m) → Q (.int m) H
theorem cr_maxDef {X : Cx} (hc : X.calm = true) : CallRK X (.builtin "max") [("default" : Str)] (rMaxDef X.K) := by
  intro pins s σ H vs zs us ws Q I r rz h
  obtain ⟨a, ns, d, rfl, rfl, hs, q0, q⟩ := h
  obtain ⟨its, rv, hl, _⟩ := I.list hs
  rw [Vals.ref1 r]
  cases rz with
  | cons r1 rr =>
    cases rr
    obtain ⟨t0, rfl⟩ := r1
    exact max_def_raw (I.ok.hd hc) hl.isList rv.ints (fun e h' tk hk => ⟨.int d, H, I.kept hk, ⟨_, rfl⟩, q0 e⟩) fun h' tk m t' hk h1 h2 => ⟨.int _, H, I.kept hk, ⟨_, rfl⟩, q m h1 h2⟩
section
variable {X : Cx} {m w : Bool} {Γ Γ' : List Sl} {τ τ' τ1 τ2 τ3 : Tape} {a b e : Expr} {es : List Expr} {ns : List Int} {z v : Int} {d : D} {ds : List D} {p1 pos kp : Pos} {k kk : Nat} {x : Str}
theorem u_pk1 (h : GE X m b Γ τ d τ1) {E : Ent} {σ : L2.St} {Hb H : Hp} {Q : List V → Hp → Prop} (S : StOk X.K X.mg m E Γ τ σ Hb H) (q : ∀ v Hb1 H1, Grow m E Hb H Hb1 H1 → TpOk m E τ1 Hb1 H1 → Rp X.K X.mg Hb1 v d → Q [v] H1) : tCons (uE X b) tNil σ H Q :=
  h E σ Hb H _ S fun v Hb1 H1 g1 t1 r1 => q v Hb1 H1 g1 t1 r1
theorem ge_maxDef (B : Bt X.mg) (hcm : X.calm = true) (hg : Gl X "max") (hz : (ns = [] ∧ z = v) ∨ (z ∈ ns ∧ ∀ y ∈ ns, y ≤ z)) (ha : GL X m a Γ τ (ns.map .int) τ1) (hb : GE X m b Γ τ1 (.int v) τ2)
    (hs : starEach (a :: []) X.env = (false, eval a X.env) :: starEach [] X.env := by rfl) (he : backTo pos (starEach (a :: []) X.env) = (false, eval a X.env) :: backTo pos (starEach [] X.env) := by rfl) (hpl : (backTo pos (starEach (a :: []) X.env)).any (·.1) = false := by rfl) :
    GE X m (.Call (.Name "max" p1) [a] [⟨some "default", b, kp⟩] pos) Γ τ (.int z) τ2 := fun E σ Hb H Q S q =>
  u_of_pe (pe_callBK (cr_maxDef hcm) hg B.max (by decide +kernel) pa_u (pk_cons pe_u pk_nil) (by decide) (by decide) he hpl rfl rfl rfl) (u_arg1 hs (ha E σ Hb H _ S fun v1 Hb1 H1 g1 t1 r1 => by
    obtain ⟨p, vs, rfl, h1, h2, h3, h4⟩ := r1
    cases h3.ints
    refine u_pk1 hb (S.grow g1 t1) fun u Hb2 H2 g2 t2 r2 => ?_
    cases Rp.int_inv r2
    have h1' : H2 p = some (.lst (ns.map V.int)) := g2.k p _ h1 h4
    refine ⟨p, ns, v, rfl, rfl, SqL.of h1', fun e => ?_, fun mm hm hmm => ?_⟩
    · rcases hz with ⟨_, rfl⟩ | ⟨hz, _⟩
      · exact q _ Hb2 H2 (g1.trans g2) t2 (Rp.int _)
      · rw [e] at hz; cases hz
    · rcases hz with ⟨e, _⟩ | ⟨hz, hz2⟩
      · rw [e] at hm; cases hm
      · have : mm = z := by have := hmm z hz; have := hz2 mm hm; omega
        subst this
        exact q _ Hb2 H2 (g1.trans g2) t2 (Rp.int _)))
end
/-! ### f(a, k1 = b1, ..): the keywords in the parameters' order, behind the others -/
def kwJoin {α : Type} (n k : Nat) (us ws : List α) : List α := if us.length = n ∧ ws.length = k then us ++ ws else []
theorem Vals.app {vs zs : List V} {us ws : List Value} (h : Vals vs us) (g : Vals zs ws) : Vals (vs ++ zs) (us ++ ws) := by
  induction h with
  | nil => exact g
  | cons r _ ih => exact .cons r ih
theorem kwJoin_rel {n k : Nat} {vs zs : List V} {us ws : List Value} (h : Vals vs us) (g : Vals zs ws) : Vals (kwJoin n k vs zs) (kwJoin n k us ws) := by
  unfold kwJoin
  rw [h.length, g.length]
  split
  · exact Vals.app h g
  · exact .nil
def FnK (W : Wd) (k : Nat) (x : Str) (ks : List Str) (n : Nat) (C : List D → D → Prop) : Prop := ∃ (f : Addr) (fd : FuncData) (ps : List Str), FnOk W.P W.w W.K W.mg W.base CX0 k f fd ps (spP W.K W.mg C) ∧ W.mg x = some (.ref f) ∧ PySem.W.keepIn W.K (.ref f) = true ∧ KBinds W.K fd ps ks (kwJoin n ks.length) (kwJoin n ks.length)
theorem fk_of {X : Cx} {W : Wd} {k n : Nat} {x : Str} {ks : List Str} {C : List D → D → Prop} (h : wd X = W) (F : FnK W k x ks n C) : FnK (wd X) k x ks n C := h ▸ F
theorem kb_of {K : PySem.W.Frag} {x qual : Str} {st : Stmt} {f : Addr} {fd : FuncData} {ps ks : List Str} (F : Fun K x qual st f fd) (n : Nat) (h0 : ps.length ≠ 0)
    (h : ∀ (kV doc pm : Value) (an : Option Addr) (cdv ct : Value) (us ws : List Value), us.length = n → ws.length = ks.length → bindArgs (PySem.W.fnOf x qual (defArgs st) (defBody st) (defScope st) .none kV doc pm an cdv ct) ⟨us, ks.zip ws⟩ = pure (ps.zip (us ++ ws))) : KBinds K fd ps ks (kwJoin n ks.length) (kwJoin n ks.length) := by
  refine ⟨fun s us ws hin hl => ?_, kwJoin_rel⟩
  obtain ⟨oc, od, kV, doc, pm, an, cdv, ct, osl, rfl, lk, hcd⟩ := F.ex
  unfold kwJoin at hl ⊢
  by_cases hc : us.length = n ∧ ws.length = ks.length
  · rw [if_pos hc]
    exact .of_eq (h kV doc pm an cdv ct us ws hc.1 hc.2)
  · rw [if_neg hc] at hl
    exact absurd hl.symm h0
section
variable {P : Program} {w : World} {K : PySem.W.Frag} {mg : Str → Option Value} {base : Heap}
theorem fnK_of {x : Str} {st : Stmt} {f : Addr} {fd : FuncData} {N ps ks : List Str} {k n : Nat} {C : List D → D → Prop} (F : Fun K x x st f fd) (S : FnScope N ps (defScope st)) (hb : KBinds K fd ps ks (kwJoin n ks.length) (kwJoin n ks.length)) (hm : mg x = some (.ref f)) (hC : ∀ ds d, C ds d → ds.length = ps.length)
    (body : ∀ X : Cx, wd X = ⟨P, w, K, mg, base⟩ → Cn X (defScope st) N k → ∀ ds d τ, C ds d → GSs X false (defBody st) (entry N (ds.map .dat)) τ (Ret d τ)) : FnK ⟨P, w, K, mg, base⟩ (k + 1) x ks n C := by
  refine ⟨f, fd, ps, ?_, hm, F.kp, hb⟩
  refine F.ok S (fun vs H Q E h => ?_) (fun cdv A outer s H vs Q E hr h => ?_)
  · obtain ⟨Hb, ds, d, hc, _, r, _⟩ := h
    rw [r.length, hC ds d hc]
  · obtain ⟨Hb, ds, d, hc, sb, r, q⟩ := h
    refine ⟨_, pss_u, ?_⟩
    refine body _ rfl (cn_of S hr) ds d ⟨[], 0, 0, []⟩ hc ⟨Hb, H, 0, 0⟩ (L2.start N vs) Hb H _ (start_dat (Grow.refl sb) (TpOk.off rfl) r) ⟨fun Γ τ σ Hb1 H1 p S1 => ?_, fun d1 τ v Hb1 H1 p g _ r1 => ?_, fun _ _ _ _ _ p _ => False.elim p, fun _ _ _ _ _ p _ => False.elim p⟩
    · obtain ⟨rfl, _⟩ := p
      exact q _ Hb1 H1 S1.g Rp.non
    · obtain ⟨rfl, _⟩ := p
      exact q v Hb1 H1 g r1
end
section
variable {X : Cx} {m : Bool} {Γ : List Sl} {τ τ1 τ2 : Tape} {e b1 b2 : Expr} {es : List Expr} {d d1 d2 d3 : D} {p1 pos kp1 kp2 : Pos} {k : Nat} {x n1 n2 : Str}
/-- f(a, k1 = b1, k2 = b2) -/
theorem ge_callK2 {C : List D → D → Prop} {τ3 : Tape} (F : FnK (wd X) k x [n1, n2] 1 C) (hr : Room k X.A) (hg : Gl X x) (hC : C [d1, d2, d3] d) (ha : GE X m e Γ τ d1 τ1) (hb1 : GE X m b1 Γ τ1 d2 τ2) (hb2 : GE X m b2 Γ τ2 d3 τ3)
    (hdb : (x == ("__debug__" : Str)) = false := by decide) (hs : starEach (e :: []) X.env = (false, eval e X.env) :: starEach [] X.env := by rfl)
    (hall : (backToKw pos (keywordEach [⟨some n1, b1, kp1⟩, ⟨some n2, b2, kp2⟩] X.env)).all (·.1.isSome) = true := by rfl) (hks : (backToKw pos (keywordEach [⟨some n1, b1, kp1⟩, ⟨some n2, b2, kp2⟩] X.env)).filterMap (·.1) = [n1, n2] := by rfl)
    (hpl : ((backTo pos (starEach (e :: []) X.env)).any (·.1) || (backToKw pos (keywordEach [⟨some n1, b1, kp1⟩, ⟨some n2, b2, kp2⟩] X.env)).any (·.1.isNone)) = false := by rfl) :
    GE X m (.Call (.Name x p1) (e :: []) [⟨some n1, b1, kp1⟩, ⟨some n2, b2, kp2⟩] pos) Γ τ d τ3 := by
  intro E σ Hb H Q S q
  obtain ⟨f, fd, ps, F, hm, hk, hb⟩ := F
  refine u_of_pe (pe_callK F hr hg hm hk hb pass0 pa_u (pk_cons pe_u (pk_cons pe_u pk_nil)) hall hks hdb hs hpl) (u_arg1 hs (ha E σ Hb H _ S fun v Hb1 H1 g1 t1 r1 => ?_))
  have S1 := S.grow g1 t1
  refine hb1 E σ Hb1 H1 _ S1 fun v2 Hb2 H2 g2 t2 r2 => ?_
  have S2 := S1.grow g2 t2
  refine hb2 E σ Hb2 H2 _ S2 fun v3 Hb3 H3 g3 t3 r3 => ?_
  show spP X.K X.mg C (kwJoin 1 2 [v] [v2, v3]) H3 Q E0
  exact ⟨Hb3, [d1, d2, d3], d, hC, g3.e, .cons (Rp.mono g3.b (Rp.mono g2.b r1)) (.cons (Rp.mono g3.b r2) (.cons r3 .nil)), fun u Hb4 H4 g4 r4 => q u Hb4 H4 (((g1.trans g2).trans g3).trans g4.pure) (t3.grow g4.pure) r4⟩
end
end PD

set_option Elab.async false
set_option linter.all false
set_option maxRecDepth 100000
set_option maxHeartbeats 2000000
namespace PD
open PySem PySem.Spec PyProof.Rows L2
/-! ### comprehensions without a condition -/
/-- one draw after the other -/
def mapT {α β : Type} (g : α → Tape → β) (gt : α → Tape → Tape) : List α → Tape → List β × Tape
  | [], τ => ([], τ)
  | x :: xs, τ => (g x τ :: (mapT g gt xs (gt x τ)).1, (mapT g gt xs (gt x τ)).2)
theorem mapT_scan {α β : Type} (g : α → Tape → β) (gt : α → Tape → Tape) (f2 : β → D) : ∀ (xs : List α) (τ : Tape), scan (fun _ τ => (true, τ)) (fun x τ => (f2 (g x τ), gt x τ)) xs τ = ((mapT g gt xs τ).1.map f2, (mapT g gt xs τ).2)
  | [], τ => rfl
  | x :: xs, τ => by
    unfold scan
    rw [if_pos rfl]
    simp only [mapT_scan g gt f2 xs]
    rfl
theorem mapT_len {α β : Type} (g : α → Tape → β) (gt : α → Tape → Tape) : ∀ (xs : List α) (τ : Tape), (mapT g gt xs τ).1.length = xs.length
  | [], _ => rfl
  | x :: xs, τ => congrArg Nat.succ (mapT_len g gt xs _)
theorem mapT_all {α β : Type} {g : α → Tape → β} {gt : α → Tape → Tape} {Q : β → Prop} (h : ∀ x τ, Q (g x τ)) : ∀ (xs : List α) (τ : Tape), ∀ y ∈ (mapT g gt xs τ).1, Q y
  | [], _, y, hy => by cases hy
  | x :: xs, τ, y, hy => by
    rcases List.mem_cons.mp hy with rfl | hy
    · exact h x τ
    · exact mapT_all h xs _ y hy
section
variable {X : Cx} {m w : Bool} {Γ Γ' : List Sl} {τ τ' τ1 τ2 τ3 : Tape} {a b c e tg iter elt : Expr} {es ifs : List Expr} {st : Stmt} {sts body orelse : List Stmt} {d d1 d2 d3 : D} {ds ds1 ds2 : List D} {pos p1 p2 p3 p4 tpos : Pos} {k kk kq : Nat} {i j l : Nat} {x y z : Str} {sc scope : Scope} {N : List Str} {P P' : Out → Prop} {W : Wd} {α β : Type}
theorem gn_lcm {enc : α → D} {xs : List α} {g : α → D} (cn : Cn X sc N k) (own : List (Str × Nat)) (hk : blkC N sc scope own = true) (hz : xs.length < sizeLine) (hi : GI X m w tg iter Γ τ (xs.map enc) τ1)
    (hel : ∀ x ∈ xs, ∀ τ, ∃ Γ2, ∀ X', Blk X X' scope → GG X' m tg (enc x) (own.map (·.2)) (wipeG Γ (own.map (·.2))) Γ2 ∧ GTs X' m [] Γ2 τ true τ ∧ (true = true → GE X' m elt Γ2 τ (g x) τ))
    (hs : ∀ x, foldedSetIterable iter X.env x = pure x := by intro _; rfl) : GN X m (.ListComp elt [⟨tg, iter, [], 0⟩] scope pos) Γ τ (xs.map g) τ1 :=
  gn_is (gn_lcp (p := fun _ => true) cn own hk hz hi hel hs) (by rw [List.filter_eq_self.mpr (fun _ _ => rfl)])
theorem gs_setLcm {enc : α → D} {xs : List α} {g : α → D} (cn : Cn X sc N k) (n : Sm X i x) (hl : lkL sc x = true) (own : List (Str × Nat)) (hk : blkC N sc scope own = true) (hz : xs.length < sizeLine) (hi : GI X m w tg iter Γ τ (xs.map enc) τ1)
    (hel : ∀ x ∈ xs, ∀ τ, ∃ Γ2, ∀ X', Blk X X' scope → GG X' m tg (enc x) (own.map (·.2)) (wipeG Γ (own.map (·.2))) Γ2 ∧ GTs X' m [] Γ2 τ true τ ∧ (true = true → GE X' m elt Γ2 τ (g x) τ))
    (hln : (p2.line == p1.line) = true) (hnm : (scope.names.any fun (n, k) => n == x && (k == .local || k == .cell)) = false)
    (h : P (.nx (Γ.set i (.own (xs.map g))) τ1)) (hs : ∀ x, foldedSetIterable iter X.env x = pure x := by intro _; rfl) : GS X m (.Assign [.Name x p2] (.ListComp elt [⟨tg, iter, [], 0⟩] scope p1) pos) Γ τ P :=
  gs_setLcp (p := fun _ => true) cn n hl own hk hz hi hel hln hnm (by rw [List.filter_eq_self.mpr (fun _ _ => rfl)]; exact h) hs
theorem gn_lcf {enc : α → D} {xs : List α} {p : α → Bool} {g : α → β} {f2 : β → D} (cn : Cn X sc N k) (own : List (Str × Nat)) (hk : blkC N sc scope own = true) (hz : xs.length < sizeLine) (hi : GI X m w tg iter Γ τ (xs.map enc) τ1)
    (hel : ∀ x ∈ xs, ∀ τ, ∃ Γ2, ∀ X', Blk X X' scope → GG X' m tg (enc x) (own.map (·.2)) (wipeG Γ (own.map (·.2))) Γ2 ∧ GTs X' m ifs Γ2 τ (p x) τ ∧ (p x = true → GE X' m elt Γ2 τ (f2 (g x)) τ))
    (hs : ∀ x, foldedSetIterable iter X.env x = pure x := by intro _; rfl) : GN X m (.ListComp elt [⟨tg, iter, ifs, 0⟩] scope pos) Γ τ (((xs.filter p).map g).map f2) τ1 :=
  gn_is (gn_lcp cn own hk hz hi hel hs) (by rw [List.map_map]; rfl)
theorem gs_setLcf {enc : α → D} {xs : List α} {p : α → Bool} {g : α → β} {f2 : β → D} (cn : Cn X sc N k) (n : Sm X i x) (hl : lkL sc x = true) (own : List (Str × Nat)) (hk : blkC N sc scope own = true) (hz : xs.length < sizeLine) (hi : GI X m w tg iter Γ τ (xs.map enc) τ1)
    (hel : ∀ x ∈ xs, ∀ τ, ∃ Γ2, ∀ X', Blk X X' scope → GG X' m tg (enc x) (own.map (·.2)) (wipeG Γ (own.map (·.2))) Γ2 ∧ GTs X' m ifs Γ2 τ (p x) τ ∧ (p x = true → GE X' m elt Γ2 τ (f2 (g x)) τ))
    (hln : (p2.line == p1.line) = true) (hnm : (scope.names.any fun (n, k) => n == x && (k == .local || k == .cell)) = false)
    (h : P (.nx (Γ.set i (.own (((xs.filter p).map g).map f2))) τ1)) (hs : ∀ x, foldedSetIterable iter X.env x = pure x := by intro _; rfl) : GS X m (.Assign [.Name x p2] (.ListComp elt [⟨tg, iter, ifs, 0⟩] scope p1) pos) Γ τ P :=
  gs_setLcp cn n hl own hk hz hi hel hln hnm (by rw [List.map_map] at h; exact h) hs
theorem gn_lcmf {enc : α → D} {xs : List α} {g : α → β} {f2 : β → D} (cn : Cn X sc N k) (own : List (Str × Nat)) (hk : blkC N sc scope own = true) (hz : xs.length < sizeLine) (hi : GI X m w tg iter Γ τ (xs.map enc) τ1)
    (hel : ∀ x ∈ xs, ∀ τ, ∃ Γ2, ∀ X', Blk X X' scope → GG X' m tg (enc x) (own.map (·.2)) (wipeG Γ (own.map (·.2))) Γ2 ∧ GTs X' m [] Γ2 τ true τ ∧ (true = true → GE X' m elt Γ2 τ (f2 (g x)) τ))
    (hs : ∀ x, foldedSetIterable iter X.env x = pure x := by intro _; rfl) : GN X m (.ListComp elt [⟨tg, iter, [], 0⟩] scope pos) Γ τ ((xs.map g).map f2) τ1 :=
  gn_is (gn_lcm cn own hk hz hi hel hs) (by rw [List.map_map]; rfl)
theorem gs_setLcmf {enc : α → D} {xs : List α} {g : α → β} {f2 : β → D} (cn : Cn X sc N k) (n : Sm X i x) (hl : lkL sc x = true) (own : List (Str × Nat)) (hk : blkC N sc scope own = true) (hz : xs.length < sizeLine) (hi : GI X m w tg iter Γ τ (xs.map enc) τ1)
    (hel : ∀ x ∈ xs, ∀ τ, ∃ Γ2, ∀ X', Blk X X' scope → GG X' m tg (enc x) (own.map (·.2)) (wipeG Γ (own.map (·.2))) Γ2 ∧ GTs X' m [] Γ2 τ true τ ∧ (true = true → GE X' m elt Γ2 τ (f2 (g x)) τ))
    (hln : (p2.line == p1.line) = true) (hnm : (scope.names.any fun (n, k) => n == x && (k == .local || k == .cell)) = false)
    (h : P (.nx (Γ.set i (.own ((xs.map g).map f2))) τ1)) (hs : ∀ x, foldedSetIterable iter X.env x = pure x := by intro _; rfl) : GS X m (.Assign [.Name x p2] (.ListComp elt [⟨tg, iter, [], 0⟩] scope p1) pos) Γ τ P :=
  gs_setLcm cn n hl own hk hz hi hel hln hnm (by rw [List.map_map] at h; exact h) hs
theorem zipD_map {α β : Type} {f : α → D} {g : β → D} {xs : List α} {ys : List β} : zipD (xs.map f) (ys.map g) = (List.zip xs ys).map fun p => .tup [f p.1, g p.2] := by
  unfold zipD
  rw [List.zipWith_map, List.zip, List.map_zipWith]
theorem zipD_cons_inv {α β : Type} {f : α → D} {g : β → D} {d : D} {rest : List D} {xs : List α} {ys : List β} (e : d :: rest = zipD (xs.map f) (ys.map g)) : ∃ x xs' y ys', xs = x :: xs' ∧ ys = y :: ys' ∧ d = .tup [f x, g y] ∧ rest = zipD (xs'.map f) (ys'.map g) := by
  cases xs with
  | nil => cases e
  | cons x xs =>
    cases ys with
    | nil => cases e
    | cons y ys =>
      obtain ⟨e1, e2⟩ := List.cons.inj e
      exact ⟨x, xs, y, ys, rfl, rfl, e1, e2⟩
theorem zipD_nil_inv {α β γ : Type} {f : α → D} {g : β → D} {h : α → β → γ} {xs : List α} {ys : List β} (e : [] = zipD (xs.map f) (ys.map g)) : List.zipWith h xs ys = [] := by
  cases xs with
  | nil => rfl
  | cons x xs =>
    cases ys with
    | nil => rfl
    | cons y ys => cases e
theorem atI_last {pre : List D} {x : D} : atI (pre ++ [x]) (-1) = some x := by
  have h1 : ixN (pre ++ [x]).length (-1) = some pre.length := by
    unfold ixN
    rw [if_neg (by decide), if_pos (by simp; omega)]
    congr 1
    simp
    omega
  unfold atI
  rw [h1]
  simp
theorem atI_ints {xs : List Int} {z : Int} (h0 : 0 ≤ z) (h1 : z < xs.length) : atI (xs.map D.int) z = some (.int (xs.getD z.toNat 0)) := by
  rw [atI_map (atI_get2 h0 h1), List.getD_eq_getElem?_getD, List.getElem?_eq_getElem (by omega)]
  rfl
theorem cutD_map {α : Type} {f : α → D} {xs : List α} {lo hi : Option Int} : cutD (xs.map f) lo hi = ((xs.drop (HT.sIx xs.length 0 lo)).take (HT.sIx xs.length xs.length hi - HT.sIx xs.length 0 lo)).map f := by
  unfold cutD
  rw [List.length_map, List.map_take, List.map_drop]
theorem gn_lctm {enc : α → D} {xs : List α} {f2 : β → D} {g : α → Tape → β} {gt : α → Tape → Tape} (cn : Cn X sc N k) (own : List (Str × Nat)) (hk : blkC N sc scope own = true) (hz : xs.length < sizeLine) (hi : GI X m w tg iter Γ τ (xs.map enc) τ1)
    (hel : ∀ x ∈ xs, ∀ τ, ∃ Γ2, ∀ X', Blk X X' scope → GG X' m tg (enc x) (own.map (·.2)) (wipeG Γ (own.map (·.2))) Γ2 ∧ GTs X' m [] Γ2 τ true τ ∧ (true = true → ∀ τ2, GE X' m elt Γ2 τ2 (f2 (g x τ2)) (gt x τ2)))
    (hs : ∀ x, foldedSetIterable iter X.env x = pure x := by intro _; rfl) : GN X m (.ListComp elt [⟨tg, iter, [], 0⟩] scope pos) Γ τ ((mapT g gt xs τ1).1.map f2) (mapT g gt xs τ1).2 := by
  have h := gn_lct (pos := pos) (cp := fun _ _ => true) (ct := fun _ τ => τ) (fd := fun x τ => f2 (g x τ)) (ft := gt) cn own hk hz hi hel hs
  rw [mapT_scan] at h
  exact h
theorem gs_setLctm {enc : α → D} {xs : List α} {f2 : β → D} {g : α → Tape → β} {gt : α → Tape → Tape} (cn : Cn X sc N k) (n : Sm X i x) (hl : lkL sc x = true) (own : List (Str × Nat)) (hk : blkC N sc scope own = true) (hz : xs.length < sizeLine) (hi : GI X m w tg iter Γ τ (xs.map enc) τ1)
    (hel : ∀ x ∈ xs, ∀ τ, ∃ Γ2, ∀ X', Blk X X' scope → GG X' m tg (enc x) (own.map (·.2)) (wipeG Γ (own.map (·.2))) Γ2 ∧ GTs X' m [] Γ2 τ true τ ∧ (true = true → ∀ τ2, GE X' m elt Γ2 τ2 (f2 (g x τ2)) (gt x τ2)))
    (hln : (p2.line == p1.line) = true) (hnm : (scope.names.any fun (n, k) => n == x && (k == .local || k == .cell)) = false)
    (h : P (.nx (Γ.set i (.own ((mapT g gt xs τ1).1.map f2))) (mapT g gt xs τ1).2)) (hs : ∀ x, foldedSetIterable iter X.env x = pure x := by intro _; rfl) : GS X m (.Assign [.Name x p2] (.ListComp elt [⟨tg, iter, [], 0⟩] scope p1) pos) Γ τ P :=
  gs_setLct (cp := fun _ _ => true) (ct := fun _ τ => τ) (fd := fun x τ => f2 (g x τ)) (ft := gt) cn n hl own hk hz hi hel hln hnm (by rw [mapT_scan]; exact h) hs
end
end PD

set_option Elab.async false
set_option linter.all false
set_option maxRecDepth 100000
set_option maxHeartbeats 2000000
namespace PD
open PySem PySem.Spec PyProof.Rows L2
/-! ### the script, and the tape made of it -/
section
variable {X : Cx} {m w : Bool} {Γ Γ' : List Sl} {τ τ' τ1 : Tape} {a b e tg : Expr} {ns : List Int} {p1 pos : Pos}
theorem Rp.scr_inv {K : PySem.W.Frag} {mg : Str → Option Value} {H : Hp} {v : V} (h : Rp K mg H v (.scr ns)) : ∃ a, v = .ref a ∧ SqL K H a (ns.map V.int) := by
  cases h with | scr h => exact ⟨_, rfl, h⟩
theorem ge_lenS (B : Bt X.mg) (hg : Gl X "len") (ha : GE X m a Γ τ (.scr ns) τ1) (hs : starEach (a :: []) X.env = (false, eval a X.env) :: starEach [] X.env := by rfl) : GE X m (.Call (.Name "len" p1) [a] [] pos) Γ τ (.int ns.length) τ1 :=
  go_callB1 call_len_seq hg B.len PySem.boot_len (fun E Hb H v Q e r q => by
    obtain ⟨p, rfl, h1⟩ := Rp.scr_inv r
    exact ⟨p, ns.map V.int, rfl, .inl (e.seq h1), q _ (by rw [List.length_map]; exact Rp.int _)⟩) ha hs
theorem gi_scr (h : GE X m e Γ τ (.scr ns) τ1) : GI X m w tg e Γ τ (ns.map .int) τ1 := fun E σ Hb H R S q => u_of_pi (pi_list pe_u) (h E σ Hb H _ S fun v Hb1 H1 g1 t1 r1 => by
  obtain ⟨p, rfl, h1⟩ := Rp.scr_inv r1
  refine ⟨p, rfl, ⟨_, g1.e.seq h1⟩, q _ Hb1 H1 [] g1 t1 ⟨fun i d Hb2 H2 hd s1 s2 _ => ?_, fun Hb2 H2 s1 s2 _ => ?_⟩ (fun _ => rfl) (fun p hp => by cases hp)⟩
  · obtain ⟨v, hv, rv⟩ := (RpA.ofInts (K := X.K) (mg := X.mg) (H := Hb1) ns).get hd
    have hl : SqL X.K H2 p (ns.map V.int) := s2.seq (s1.seq h1)
    refine ⟨⟨_, v, hl, hv⟩, fun x H3 y => ?_⟩
    obtain ⟨rfl, y⟩ := y
    have : v = x := Option.some.inj (hv.symm.trans (y _ hl))
    subst this
    exact ⟨Hb2, grow0 s2, rv.mono s1⟩
  · exact ⟨_, s2.seq (s1.seq h1), by simp⟩)
end
def tape0 (ns : List Int) : Tape := ⟨((ns.filter fun z => decide ((z.natAbs : Int) ≥ 10 ^ (18 : Int).toNat)).map fun z => (z.natAbs : Int) - 10 ^ (18 : Int).toNat), 0, 0, ns.map fun z => (z.natAbs : Int)⟩
/-- what _law_begun promises -/
def spBeg (K : PySem.W.Frag) : Sp := fun vs H Q _ => ∃ (a : Addr) (ns : List Int), vs = [.ref a] ∧ SqL K H a (ns.map V.int) ∧ ns.length ≤ 63 ∧ ∀ (tp lg cl : Addr) (H' : Hp), H' tp = some (.dK (tapeK lg cl (tape0 ns))) → H' lg = some (.lst ((tape0 ns).large.map V.int)) → H' cl = some (.lst ((tape0 ns).cells.map V.int)) →
  tp ≠ lg → tp ≠ cl → lg ≠ cl → H tp = none → H lg = none → H cl = none → Same H H' → Q (.ref tp) H'
def spLaw (K : PySem.W.Frag) : Sp := fun vs H Q _ => ∃ (a : Addr) (ns : List Int), vs = [.ref a] ∧ SqL K H a (ns.map V.int) ∧ ns.length ≤ 63 ∧ ∀ H', Q (.bl true) H'
theorem tape_merge (lg cl : Addr) (τ : Tape) (h1 : τ.rest = 0) (h2 : τ.turn = 0) : mergeK [] [(Sum.inr ("large" : Str), V.ref lg), (Sum.inr ("rest" : Str), V.int 0), (Sum.inr ("cells" : Str), V.ref cl), (Sum.inr ("turn" : Str), V.int 0)] = tapeK lg cl τ := by
  have n1 : ¬ ((Sum.inr ("large" : Str) : Key) = (Sum.inr ("rest" : Str) : Key)) := by decide +kernel
  have n2 : ¬ ((Sum.inr ("large" : Str) : Key) = (Sum.inr ("cells" : Str) : Key)) := by decide +kernel
  have n3 : ¬ ((Sum.inr ("rest" : Str) : Key) = (Sum.inr ("cells" : Str) : Key)) := by decide +kernel
  have n4 : ¬ ((Sum.inr ("large" : Str) : Key) = (Sum.inr ("turn" : Str) : Key)) := by decide +kernel
  have n5 : ¬ ((Sum.inr ("rest" : Str) : Key) = (Sum.inr ("turn" : Str) : Key)) := by decide +kernel
  have n6 : ¬ ((Sum.inr ("cells" : Str) : Key) = (Sum.inr ("turn" : Str) : Key)) := by decide +kernel
  unfold mergeK tapeK
  rw [h1, h2]
  simp only [List.foldl_cons, List.foldl_nil]
  have e0 : ∀ v, putK [] (Sum.inr ("large" : Str) : Key) v = [(Sum.inr ("large" : Str), v)] := fun v => by unfold putK; simp
  rw [e0]
  have e1 : ∀ v w, putK [((Sum.inr ("large" : Str) : Key), v)] (Sum.inr ("rest" : Str)) w = [(Sum.inr ("large" : Str), v), (Sum.inr ("rest" : Str), w)] := fun v w => by unfold putK; simp [n1]
  rw [e1]
  have e2 : ∀ v w u, putK [((Sum.inr ("large" : Str) : Key), v), (Sum.inr ("rest" : Str), w)] (Sum.inr ("cells" : Str)) u = [(Sum.inr ("large" : Str), v), (Sum.inr ("rest" : Str), w), (Sum.inr ("cells" : Str), u)] := fun v w u => by unfold putK; simp [n2, n3]
  rw [e2]
  have e3 : ∀ v w u x, putK [((Sum.inr ("large" : Str) : Key), v), (Sum.inr ("rest" : Str), w), (Sum.inr ("cells" : Str), u)] (Sum.inr ("turn" : Str)) x = [(Sum.inr ("large" : Str), v), (Sum.inr ("rest" : Str), w), (Sum.inr ("cells" : Str), u), (Sum.inr ("turn" : Str), x)] := fun v w u x => by unfold putK; simp [n4, n5, n6]
  rw [e3]
/-- the state behind tape = _law_begun(script) -/
theorem start_law {K : PySem.W.Frag} {mg : Str → Option Value} {H H' : Hp} {a tp lg cl : Addr} {ns : List Int} {n : Nat} {σ : L2.St} (hS : SqL K H a (ns.map V.int)) (hl : ns.length ≤ 63) (e : Same H H') (h1 : H' tp = some (.dK (tapeK lg cl (tape0 ns)))) (h2 : H' lg = some (.lst ((tape0 ns).large.map V.int)))
    (h3 : H' cl = some (.lst ((tape0 ns).cells.map V.int))) (n1 : tp ≠ lg) (n2 : tp ≠ cl) (n3 : lg ≠ cl) (f1 : H tp = none) (f2 : H lg = none) (hσ : σ = some (.ref a) :: some (.ref tp) :: List.replicate n none) :
    StOk K mg true ⟨fun p => if p = tp ∨ p = lg then none else H' p, H', tp, lg⟩ (.dat (.scr ns) :: .tape :: List.replicate n .no) (tape0 ns) σ (fun p => if p = tp ∨ p = lg then none else H' p) H' := by
  have sb : Same (fun p => if p = tp ∨ p = lg then none else H' p) H' := fun p o hp => by
    by_cases z : p = tp ∨ p = lg
    · simp only [if_pos z] at hp; cases hp
    · simp only [if_neg z] at hp; exact hp
  have sh : Same H (fun p => if p = tp ∨ p = lg then none else H' p) := fun p o hp => by
    have z : ¬ (p = tp ∨ p = lg) := by
      rintro (z | z)
      · rw [z, f1] at hp; cases hp
      · rw [z, f2] at hp; cases hp
    simp only [if_neg z]
    exact e p o hp
  have ht : TpOk true ⟨fun p => if p = tp ∨ p = lg then none else H' p, H', tp, lg⟩ (tape0 ns) (fun p => if p = tp ∨ p = lg then none else H' p) H' := fun _ => by
    have z : ¬ (cl = tp ∨ cl = lg) := by
      rintro (z | z)
      · exact n2 z.symm
      · exact n3 z.symm
    refine ⟨cl, h1, h2, ⟨?_, ?_⟩, ?_, ?_, ?_, n1, fun q => ?_, fun q => ?_⟩
    · rw [sizeLine_val]
      have : (tape0 ns).large.length ≤ ns.length := by simp only [tape0, List.length_map]; exact List.length_filter_le ..
      omega
    · rw [sizeLine_val]
      have : (tape0 ns).cells.length = ns.length := by simp [tape0]
      omega
    · simp only [if_neg z]; exact h3
    · simp
    · simp
    · have q : H' tp = none := q
      rw [h1] at q
      cases q
    · have q : H' lg = none := q
      rw [h2] at q
      cases q
  have get : ∀ (i : Nat) (sl : Sl), (Sl.dat (.scr ns) :: .tape :: List.replicate n .no)[i]? = some sl → (i = 0 ∧ sl = .dat (.scr ns)) ∨ (i = 1 ∧ sl = .tape) ∨ sl = .no := fun i sl h => by
    match i, h with
    | 0, h => simp at h; exact .inl ⟨rfl, h.symm⟩
    | 1, h => simp at h; exact .inr (.inl ⟨rfl, h.symm⟩)
    | i + 2, h =>
      simp only [List.getElem?_cons_succ, List.getElem?_replicate] at h
      split at h
      · cases h; exact .inr (.inr rfl)
      · cases h
  refine ⟨Grow.refl sb, ht, by rw [hσ]; simp, fun i d h => ?_, fun i es h => ?_, fun i j es fs p _ h => ?_, fun i h => ?_⟩
  · rcases get i _ h with ⟨rfl, z⟩ | ⟨_, z⟩ | z
    · cases z
      exact ⟨.ref a, by rw [hσ]; rfl, .scr (sh.seq hS)⟩
    · cases z
    · cases z
  · rcases get i _ h with ⟨_, z⟩ | ⟨_, z⟩ | z <;> cases z
  · rcases get i _ h with ⟨_, z⟩ | ⟨_, z⟩ | z <;> cases z
  · rcases get i _ h with ⟨_, z⟩ | ⟨rfl, z⟩ | z
    · cases z
    · exact ⟨rfl, by rw [hσ]; rfl⟩
    · cases z
theorem gss_any {X : Cx} {m : Bool} {sts : List Stmt} {Γ : List Sl} {P : Out → Prop} (h : ∀ τ, GSs X m sts Γ τ P) {τ : Tape} : GSs X m sts Γ τ P := h τ
def BegOk (W : Wd) (k : Nat) : Prop := ∃ (f : Addr) (fd : FuncData), FnOk W.P W.w W.K W.mg W.base CX0 k f fd ["script"] (spBeg W.K) ∧ W.mg "_law_begun" = some (.ref f) ∧ PySem.W.keepIn W.K (.ref f) = true ∧ Binds W.K fd ["script"] []
end PD

set_option Elab.async false
set_option linter.all false
set_option maxRecDepth 100000
set_option maxHeartbeats 1000000
namespace PD
open PySem PySem.Spec PyProof.Rows L2
/-! ### what the queues compute -/
def ledQ (s r : Int) : Int → Int → List Int → List (Int × Int × Int)
  | _, _, [] => []
  | t, w, a :: as => (min s (t + r) - min (min s (t + r)) (w + a), w + a - min (min s (t + r)) (w + a), min (min s (t + r)) (w + a)) :: ledQ s r (min s (t + r) - min (min s (t + r)) (w + a)) (w + a - min (min s (t + r)) (w + a)) as
def tri (q : Int × Int × Int) : D := .tup [.int q.1, .int q.2.1, .int q.2.2]
def outQ (s r : Int) (as : List Int) : List Int := (ledQ s r s 0 as).map (·.2.2)
def psum : Int → List Int → List Int
  | _, [] => []
  | t, a :: as => (t + a) :: psum (t + a) as
def sums (as : List Int) : List Int := 0 :: psum 0 as
structure AOk (as : List Int) : Prop where
  len : as.length ≤ 400
  rng : ∀ a ∈ as, 0 ≤ a ∧ a ≤ 1000000
structure QOk (as : List Int) (s r : Int) : Prop where
  a : AOk as
  hs : 1 ≤ s ∧ s ≤ 1000000
  hr : 1 ≤ r ∧ r ≤ s
def winD : Option (Int × Int) → D
  | none => .non
  | some (b, e) => .tup [.int b, .int e]
def gwRun (s r : Int) : Nat → Int → Option (Int × Int) → Int → Int → List Int → Int × Option (Int × Int)
  | _, best, win, _, _, [] => (best, win)
  | i, best, win, total, begin, c :: cs =>
    let t := if i = 0 ∨ total - r ≤ 0 then 0 else total - r
    let b := if i = 0 ∨ total - r ≤ 0 then (i : Int) else begin
    if t + c - s > best then gwRun s r (i + 1) (t + c - s) (some (b, i)) (t + c) b cs else gwRun s r (i + 1) best win (t + c) b cs
def gwAll (s r : Int) (as : List Int) : Int × Option (Int × Int) := gwRun s r 0 0 none 0 0 as
/-- how a pair (most, window) is shown -/
def BkOk (as : List Int) (s r : Int) (m : Int) (w : Option (Int × Int)) : Prop :=
  (∀ q ∈ ledQ s r s 0 as, q.2.1 ≤ m) ∧ (m = 0 ∨ ∃ q ∈ ledQ s r s 0 as, q.2.1 = m) ∧
  ((m = 0 ∧ w = none) ∨ (0 < m ∧ ∃ b e : Nat, w = some ((b : Int), (e : Int)) ∧ b ≤ e ∧ e < as.length ∧ ((as.drop b).take (e + 1 - b)).sum - r * ((e : Int) - b) - s = m))
def waitQ (r : Int) (a : Int) (q : Int × Int × Int) : Option Int := if a = 0 then none else some ((q.2.1 + r - 1) / r)
def waitsQ (s r : Int) (as : List Int) : List (Option Int) := List.zipWith (waitQ r) as (ledQ s r s 0 as)
/-- the windows of sums are kept -/
def WinOk (sm : List Int) (s r : Int) : Prop := ∀ j i : Nat, j < i → i < sm.length → sm.getD i 0 - sm.getD j 0 ≤ s + r * ((i : Int) - j - 1)
structure OutOk (as : List Int) (s r : Int) (os : List Int) : Prop where
  len : os.length = as.length
  pos : ∀ o ∈ os, 0 ≤ o
  le : ∀ i : Nat, i < (sums os).length → (sums os).getD i 0 ≤ (sums as).getD i 0
  win : WinOk (sums os) s r
def bndAt (s r : Int) (as : List Int) (t : Int) : Int :=
  (((irange 0 (t + 1).toNat).filter fun b => decide ((sums (outQ s r as)).getD (t + 1).toNat 0 = (sums as).getD b.toNat 0 + s + r * (t - b))).head?).getD (t + 1)
def bndsQ (s r : Int) (as : List Int) : List Int := (irange 0 as.length).map (bndAt s r as)
def lineQ (as : List Int) (st : List (Int × Int)) : List Int := st.foldl (fun as p => outQ p.1 p.2 as) as
def stD (p : Int × Int) : D := .tup [.int p.1, .int p.2]
def SOk (p : Int × Int) : Prop := 1 ≤ p.1 ∧ p.1 ≤ 1000000 ∧ 1 ≤ p.2 ∧ p.2 ≤ p.1
theorem ledQ_len {s r : Int} : ∀ {as : List Int} {t w : Int}, (ledQ s r t w as).length = as.length
  | [], _, _ => rfl
  | a :: as, t, w => by simp [ledQ, ledQ_len]
theorem outQ_len {s r : Int} {as : List Int} : (outQ s r as).length = as.length := by simp [outQ, ledQ_len]
theorem psum_len : ∀ {as : List Int} {t : Int}, (psum t as).length = as.length
  | [], _ => rfl
  | a :: as, t => by simp [psum, psum_len]
theorem sums_len {as : List Int} : (sums as).length = as.length + 1 := by simp [sums, psum_len]
def CInt (W : Wd) (x : Str) (z : Int) : Prop := ∃ t, W.mg x = some (.int z t)
theorem ge_globC {X : Cx} {W : Wd} {m : Bool} {Γ : List Sl} {τ : Tape} {x : Str} {pos : Pos} {z : Int} (hX : wd X = W) (hg : Gl X x) (hm : CInt W x z) (hd : (x == ("__debug__" : Str)) = false := by decide) : GE X m (.Name x pos) Γ τ (.int z) τ := by
  obtain ⟨t, ht⟩ := hm
  exact ge_glob hg (mg_of hX ht) hd
theorem enumD_cons_inv {k : Nat} {d : D} {rest : List D} {ds : List D} (e : d :: rest = enumD k ds) : ∃ x xs, ds = x :: xs ∧ d = .tup [.int k, x] ∧ rest = enumD (k + 1) xs := by
  cases ds with
  | nil => cases e
  | cons x xs =>
    obtain ⟨e1, e2⟩ := List.cons.inj e
    exact ⟨x, xs, rfl, e1, e2⟩
theorem enumD_nil_inv {k : Nat} {ds : List D} (e : [] = enumD k ds) : ds = [] := by
  cases ds with
  | nil => rfl
  | cons _ _ => cases e
end PD

set_option Elab.async false
set_option linter.all false
set_option maxRecDepth 100000
set_option maxHeartbeats 1000000
namespace PD
open PySem PySem.Spec PyProof.Rows L2
def bkD (p : Int × Option (Int × Int)) : D := .tup [.int p.1, winD p.2]
/-- what is asked of a pair (most, window) -/
structure BkP (as : List Int) (s r m : Int) (w : Option (Int × Int)) : Prop where
  mx : (as = [] ∧ m = 0) ∨ (m ∈ (ledQ s r s 0 as).map (·.2.1) ∧ ∀ y ∈ (ledQ s r s 0 as).map (·.2.1), y ≤ m)
  win : (m = 0 ∧ w = none) ∨ (m ≠ 0 ∧ ∃ b e : Nat, w = some ((b : Int), (e : Int)) ∧ b ≤ e ∧ e < as.length ∧ ((as.drop b).take (e + 1 - b)).sum - r * ((e : Int) - b) - s = m)
theorem cut_mid {as : List Int} {b e : Nat} (h1 : b ≤ e) (h2 : e < as.length) : cutD (as.map D.int) (some (b : Int)) (some ((e : Int) + 1)) = ((as.drop b).take (e + 1 - b)).map D.int := by
  rw [cutD_map]
  have e1 : ((e : Int) + 1) = ((e + 1 : Nat) : Int) := by omega
  rw [e1, HT.sIx_nat, HT.sIx_nat, Nat.min_eq_left (by omega), Nat.min_eq_left (by omega)]
theorem headD_at {f : List Int} {z : Int} (h : f ≠ []) : atI (f.map D.int) 0 = some (.int (f.head?.getD z)) := by
  cases f with
  | nil => exact absurd rfl h
  | cons x xs => simp [atI, ixN]
theorem irange_mem {lo : Int} {n : Nat} {x : Int} : x ∈ irange lo n ↔ lo ≤ x ∧ x < lo + n := by
  unfold irange
  simp only [List.mem_map, List.mem_range]
  constructor
  · rintro ⟨a, ha, rfl⟩; omega
  · intro h; exact ⟨(x - lo).toNat, by omega, by omega⟩
theorem irange_len {lo : Int} {n : Nat} : (irange lo n).length = n := by simp [irange]
theorem ite_head {f : List Int} {z : Int} : (if (!eqb (D.lst (f.map D.int)) (D.lst [])) = true then f.head?.getD z else z) = f.head?.getD z := by
  cases f with
  | nil => simp [eqb_iff]
  | cons x xs => rw [if_pos (by simp [eqb_ne])]
theorem ne_nil_of {f : List Int} (h : (!eqb (D.lst (f.map D.int)) (D.lst [])) = true) : f ≠ [] := by
  rintro rfl
  simp [eqb_self] at h
theorem zip_get {a b : List Int} {o k : Int} (h : (o, k) ∈ List.zip a b) : ∃ i : Nat, i < a.length ∧ a.getD i 0 = o ∧ b.getD i 0 = k := by
  obtain ⟨i, hi, e⟩ := List.mem_iff_getElem.mp h
  rw [List.getElem_zip] at e
  rw [List.length_zip] at hi
  cases e
  exact ⟨i, by omega, by rw [List.getD_eq_getElem?_getD, List.getElem?_eq_getElem (by omega)]; rfl, by rw [List.getD_eq_getElem?_getD, List.getElem?_eq_getElem (by omega)]; rfl⟩
end PD

set_option Elab.async false
set_option linter.all false
set_option maxRecDepth 100000
set_option maxHeartbeats 1000000
namespace PD
/-! ### the plain law of queues: what leaves is the least of the windows -/
def bt (s r : Int) : Nat → Int
  | 0 => 0
  | 1 => s
  | m + 2 => bt s r (m + 1) + r
theorem bt_succ {s r : Int} {m : Nat} (h : 0 < m) : bt s r (m + 1) = bt s r m + r := by
  cases m with
  | zero => omega
  | succ m => rfl
theorem bt_eq {s r : Int} : ∀ m : Nat, bt s r (m + 1) = s + r * (m : Int)
  | 0 => by simp [bt]
  | m + 1 => by
    rw [bt_succ (by omega), bt_eq m, Int.natCast_succ, Int.mul_add]
    omega
theorem bt_sub {s r : Int} (h0 : 0 ≤ r) (h : r ≤ s) : ∀ m n : Nat, bt s r (m + n) ≤ bt s r m + bt s r n
  | m, 0 => by simp [bt]
  | 0, n + 1 => by simp [bt]
  | m + 1, n + 1 => by
    have ih := bt_sub h0 h (m + 1) n
    have e1 : bt s r (m + 1 + (n + 1)) = bt s r (m + 1 + n) + r := bt_succ (m := m + 1 + n) (by omega)
    cases n with
    | zero =>
      simp only [bt] at *
      omega
    | succ n =>
      have e2 := bt_succ (s := s) (r := r) (m := n + 1) (by omega)
      omega
theorem bt_mono {s r s' r' : Int} (hs : s ≤ s') (hr : r ≤ r') : ∀ m : Nat, bt s r m ≤ bt s' r' m
  | 0 => by simp [bt]
  | 1 => by simpa [bt] using hs
  | m + 2 => by
    have := bt_mono hs hr (m + 1)
    show bt s r (m + 1) + r ≤ bt s' r' (m + 1) + r'
    omega
theorem bt_add {s r s' r' : Int} : ∀ m : Nat, bt (s + s') (r + r') m = bt s r m + bt s' r' m
  | 0 => by simp [bt]
  | 1 => by simp [bt]
  | m + 2 => by
    have := bt_add (s := s) (r := r) (s' := s') (r' := r') (m + 1)
    show bt (s + s') (r + r') (m + 1) + (r + r') = bt s r (m + 1) + r + (bt s' r' (m + 1) + r')
    omega
/-- O is what a queue lets out of A, up to N -/
structure Cv (s r : Int) (A O : Nat → Int) (N : Nat) : Prop where
  ub : ∀ n, n ≤ N → ∀ j, j ≤ n → O n ≤ A j + bt s r (n - j)
  ex : ∀ n, n ≤ N → ∃ j, j ≤ n ∧ O n = A j + bt s r (n - j)
/-- within (s, r) -/
def Wn (s r : Int) (O : Nat → Int) (N : Nat) : Prop := ∀ n, n ≤ N → ∀ j, j ≤ n → O n ≤ O j + bt s r (n - j)
section
variable {s r s' r' : Int} {A B O O' P : Nat → Int} {N : Nat}
theorem Cv.uniq (h : Cv s r A O N) (h' : Cv s r A O' N) {n : Nat} (hn : n ≤ N) : O n = O' n := by
  obtain ⟨j, hj, e⟩ := h.ex n hn
  obtain ⟨k, hk, e'⟩ := h'.ex n hn
  have h1 := h'.ub n hn j hj
  have h2 := h.ub n hn k hk
  omega
theorem Cv.le (h : Cv s r A O N) {n : Nat} (hn : n ≤ N) : O n ≤ A n := by
  have := h.ub n hn n (Nat.le_refl _)
  simpa [bt] using this
theorem Cv.wn (h : Cv s r A O N) (h0 : 0 ≤ r) (hr : r ≤ s) : Wn s r O N := fun n hn k hk => by
  obtain ⟨j, hj, e⟩ := h.ex k (by omega)
  have h1 := h.ub n hn j (by omega)
  have h2 := bt_sub (s := s) h0 hr (n - k) (k - j)
  have e2 : n - k + (k - j) = n - j := by omega
  rw [e2] at h2
  omega
/-- a later queue keeps what is within -/
theorem Cv.wn' (h : Cv s r A O N) (w : Wn s' r' A N) : Wn s' r' O N := fun n hn k hk => by
  obtain ⟨j, hj, e⟩ := h.ex k (by omega)
  have h1 := h.ub n hn (j + (n - k)) (by omega)
  have h2 := w (j + (n - k)) (by omega) j (by omega)
  have e1 : j + (n - k) - j = n - k := by omega
  have e2 : n - (j + (n - k)) = k - j := by omega
  rw [e1] at h2
  rw [e2] at h1
  omega
/-- what is within passes -/
theorem Wn.cv (w : Wn s r A N) (hs : s ≤ s') (hr : r ≤ r') : Cv s' r' A A N :=
  ⟨fun n hn j hj => by have := w n hn j hj; have := bt_mono hs hr (n - j); omega, fun n hn => ⟨n, Nat.le_refl _, by simp [bt]⟩⟩
theorem Cv.swap {O1 O2 O12 O21 : Nat → Int} (h1 : Cv s r A O1 N) (h12 : Cv s' r' O1 O12 N) (h2 : Cv s' r' A O2 N) (h21 : Cv s r O2 O21 N) {n : Nat} (hn : n ≤ N) : O12 n = O21 n := by
  have key : ∀ {s r s' r' : Int} {O1 O2 O12 O21 : Nat → Int}, Cv s r A O1 N → Cv s' r' O1 O12 N → Cv s' r' A O2 N → Cv s r O2 O21 N → O12 n ≤ O21 n := by
    intro s r s' r' O1 O2 O12 O21 h1 h12 h2 h21
    obtain ⟨k, hk, e⟩ := h21.ex n hn
    obtain ⟨j, hj, e'⟩ := h2.ex k (by omega)
    have a1 := h12.ub n hn (n - k + j) (by omega)
    have a2 := h1.ub (n - k + j) (by omega) j (by omega)
    have e1 : n - (n - k + j) = k - j := by omega
    have e2 : n - k + j - j = n - k := by omega
    rw [e1] at a1
    rw [e2] at a2
    omega
  have b1 := key h1 h12 h2 h21
  have b2 := key h2 h21 h1 h12
  omega
theorem Cv.congr (h : Cv s r A O N) (ha : ∀ n, n ≤ N → A n = B n) (ho : ∀ n, n ≤ N → O n = P n) : Cv s r B P N :=
  ⟨fun n hn j hj => by rw [← ho n hn, ← ha j (by omega)]; exact h.ub n hn j hj, fun n hn => by
    obtain ⟨j, hj, e⟩ := h.ex n hn
    exact ⟨j, hj, by rw [← ho n hn, ← ha j (by omega)]; exact e⟩⟩
theorem Cv.mono (h : Cv s r A O N) (h' : Cv s' r' A P N) (hs : s ≤ s') (hr : r ≤ r') {n : Nat} (hn : n ≤ N) : O n ≤ P n := by
  obtain ⟨j, hj, e⟩ := h'.ex n hn
  have h1 := h.ub n hn j hj
  have h2 := bt_mono hs hr (n - j)
  omega
theorem Cv.both (h : Cv s r A O N) (h' : Cv s' r' B P N) {R : Nat → Int} (hb : Cv (s + s') (r + r') (fun n => A n + B n) R N) {n : Nat} (hn : n ≤ N) : O n + P n ≤ R n := by
  obtain ⟨j, hj, e⟩ := hb.ex n hn
  have h1 := h.ub n hn j hj
  have h2 := h'.ub n hn j hj
  rw [bt_add] at e
  have e : R n = A j + B j + (bt s r (n - j) + bt s' r' (n - j)) := e
  omega
end
/-! ### the machine -/
def stp (s r : Int) (p : Int × Int) (a : Int) : Int × Int := (min s (p.1 + r) - min (min s (p.1 + r)) (p.2 + a), p.2 + a - min (min s (p.1 + r)) (p.2 + a))
def stN (s r : Int) (p : Int × Int) (as : List Int) : Nat → Int × Int
  | 0 => p
  | n + 1 => stp s r (stN s r p as n) (as.getD n 0)
theorem stN_cons {s r a : Int} {as : List Int} : ∀ {n : Nat} {p : Int × Int}, stN s r p (a :: as) (n + 1) = stN s r (stp s r p a) as n
  | 0, p => rfl
  | n + 1, p => by
    show stp s r (stN s r p (a :: as) (n + 1)) ((a :: as).getD (n + 1) 0) = stp s r (stN s r (stp s r p a) as n) (as.getD n 0)
    rw [stN_cons]
    rfl
theorem ledQ_get {s r : Int} : ∀ {as : List Int} {t w : Int} {n : Nat}, n < as.length → ∃ o, (ledQ s r t w as)[n]? = some ((stN s r (t, w) as (n + 1)).1, (stN s r (t, w) as (n + 1)).2, o) ∧ o = (stN s r (t, w) as n).2 + as.getD n 0 - (stN s r (t, w) as (n + 1)).2
  | [], _, _, n, h => by simp at h
  | a :: as, t, w, 0, _ => by
    refine ⟨_, rfl, ?_⟩
    show min (min s (t + r)) (w + a) = w + a - (w + a - min (min s (t + r)) (w + a))
    omega
  | a :: as, t, w, n + 1, h => by
    obtain ⟨o, e, e2⟩ := ledQ_get (s := s) (r := r) (as := as) (t := (stp s r (t, w) a).1) (w := (stp s r (t, w) a).2) (n := n) (by simpa using h)
    refine ⟨o, ?_, ?_⟩
    · rw [stN_cons]
      exact e
    · rw [stN_cons, stN_cons]
      exact e2
def cu (as : List Int) (n : Nat) : Int := (as.take n).sum
theorem cu_zero {as : List Int} : cu as 0 = 0 := by simp [cu]
theorem cu_succ : ∀ {as : List Int} {n : Nat}, cu as (n + 1) = cu as n + as.getD n 0
  | [], n => by simp [cu]
  | a :: as, 0 => by simp [cu]
  | a :: as, n + 1 => by
    have := cu_succ (as := as) (n := n)
    simp only [cu, List.take_succ_cons, List.sum_cons, List.getD_cons_succ] at *
    omega
theorem sums_cu : ∀ {as : List Int} {n : Nat} {t : Int}, n ≤ as.length → (t :: psum t as).getD n 0 = t + cu as n
  | as, 0, t, _ => by simp [cu]
  | [], n + 1, t, h => by simp at h
  | a :: as, n + 1, t, h => by
    have := sums_cu (as := as) (n := n) (t := t + a) (by simpa using h)
    simp only [psum, cu, List.take_succ_cons, List.sum_cons, List.getD_cons_succ] at *
    rw [this]
    omega
theorem sums_get {as : List Int} {n : Nat} (h : n ≤ as.length) : (sums as).getD n 0 = cu as n := by
  unfold sums
  rw [sums_cu h]
  omega
theorem cu_full {as : List Int} {n : Nat} (h : as.length ≤ n) : cu as n = as.sum := by unfold cu; rw [List.take_of_length_le h]
theorem cu_ext : ∀ {as bs : List Int}, as.length = bs.length → (∀ n, n ≤ as.length → cu as n = cu bs n) → as = bs
  | [], [], _, _ => rfl
  | [], b :: bs, h, _ => by simp at h
  | a :: as, [], h, _ => by simp at h
  | a :: as, b :: bs, h, e => by
    have e1 := e 1 (by simp)
    simp [cu] at e1
    subst e1
    rw [cu_ext (as := as) (bs := bs) (by simpa using h) fun n hn => by
      have := e (n + 1) (by simpa using hn)
      simp only [cu, List.take_succ_cons, List.sum_cons] at this ⊢
      omega]
/-- the machine's numbers from the begin on -/
def Wq (s r : Int) (as : List Int) (n : Nat) : Int := (stN s r (s, 0) as n).2
def Tq (s r : Int) (as : List Int) (n : Nat) : Int := (stN s r (s, 0) as n).1
section
variable {s r : Int} {as : List Int}
theorem Wq_zero : Wq s r as 0 = 0 := rfl
theorem Tq_zero : Tq s r as 0 = s := rfl
theorem Wq_succ {n : Nat} : Wq s r as (n + 1) = Wq s r as n + as.getD n 0 - min (min s (Tq s r as n + r)) (Wq s r as n + as.getD n 0) := rfl
theorem Tq_succ {n : Nat} : Tq s r as (n + 1) = min s (Tq s r as n + r) - min (min s (Tq s r as n + r)) (Wq s r as n + as.getD n 0) := rfl
theorem getD_nn (h : ∀ a ∈ as, 0 ≤ a) (n : Nat) : 0 ≤ as.getD n 0 := by
  rw [List.getD_eq_getElem?_getD]
  cases e : as[n]? with
  | none => simp
  | some a => exact h a (List.mem_of_getElem? e)
/-- tokens and waiting stay what they may be, and one of them is 0 -/
theorem st_ok (hr : 1 ≤ r ∧ r ≤ s) (h : ∀ a ∈ as, 0 ≤ a) : ∀ n : Nat, 0 ≤ Tq s r as n ∧ Tq s r as n ≤ s ∧ 0 ≤ Wq s r as n ∧ (Tq s r as n = 0 ∨ Wq s r as n = 0)
  | 0 => by rw [Tq_zero, Wq_zero]; omega
  | n + 1 => by
    have ih := st_ok hr h n
    have ha := getD_nn h n
    rw [Tq_succ, Wq_succ]
    omega
theorem outQ_get {n : Nat} (h : n < as.length) : (outQ s r as).getD n 0 = Wq s r as n + as.getD n 0 - Wq s r as (n + 1) := by
  obtain ⟨o, e, e2⟩ := ledQ_get (s := s) (r := r) (t := s) (w := 0) h
  unfold outQ
  rw [List.getD_eq_getElem?_getD, List.getElem?_map, e]
  exact e2
theorem outQ_cu : ∀ {n : Nat}, n ≤ as.length → cu (outQ s r as) n = cu as n - Wq s r as n
  | 0, _ => by rw [cu_zero, cu_zero, Wq_zero]; rfl
  | n + 1, h => by
    rw [cu_succ, cu_succ, outQ_cu (by omega), outQ_get (by omega)]
    omega
/-- the heart: what leaves -/
theorem queue_cv (hr : 1 ≤ r ∧ r ≤ s) (h : ∀ a ∈ as, 0 ≤ a) : Cv s r (cu as) (fun n => cu as n - Wq s r as n) as.length := by
  have hO : ∀ n, cu as n - Wq s r as n = min (cu as n) (cu as n - Wq s r as n + Tq s r as n) := fun n => by
    have := st_ok hr h n
    omega
  have hC : ∀ n, cu as (n + 1) - Wq s r as (n + 1) + Tq s r as (n + 1) = min (cu as n + s) (cu as n - Wq s r as n + Tq s r as n + r) := fun n => by
    have h1 := st_ok hr h n
    rw [cu_succ, Wq_succ, Tq_succ]
    omega
  have hub : ∀ n j, j < n → cu as n - Wq s r as n + Tq s r as n ≤ cu as j + bt s r (n - j) := by
    intro n
    induction n with
    | zero => intro j hj; omega
    | succ n ih =>
      intro j hj
      have hc := hC n
      by_cases e : j = n
      · subst e
        have e1 : j + 1 - j = 1 := by omega
        rw [e1]
        show _ ≤ cu as j + s
        omega
      · have h1 := ih j (by omega)
        have e1 : n + 1 - j = (n - j) + 1 := by omega
        rw [e1, bt_succ (by omega)]
        omega
  have hex : ∀ n, 0 < n → ∃ j, j < n ∧ cu as n - Wq s r as n + Tq s r as n = cu as j + bt s r (n - j) := by
    intro n
    induction n with
    | zero => intro hn; omega
    | succ n ih =>
      intro _
      have hc := hC n
      by_cases e : n = 0
      · subst e
        refine ⟨0, by omega, ?_⟩
        show _ = cu as 0 + s
        rw [hc, cu_zero, Wq_zero, Tq_zero]
        omega
      · obtain ⟨j, hj, e1⟩ := ih (by omega)
        by_cases le : cu as n + s ≤ cu as n - Wq s r as n + Tq s r as n + r
        · refine ⟨n, by omega, ?_⟩
          have e2 : n + 1 - n = 1 := by omega
          rw [e2]
          show _ = cu as n + s
          omega
        · refine ⟨j, by omega, ?_⟩
          have e2 : n + 1 - j = (n - j) + 1 := by omega
          rw [e2, bt_succ (by omega)]
          omega
  refine ⟨fun n _ j hj => ?_, fun n _ => ?_⟩
  · have h1 := hO n
    by_cases e : j = n
    · subst e
      simp only [Nat.sub_self, bt]
      have := st_ok hr h j
      omega
    · have := hub n j (by omega)
      show cu as n - Wq s r as n ≤ _
      omega
  · by_cases e : n = 0
    · subst e
      exact ⟨0, Nat.le_refl _, by simp [bt, Wq_zero]⟩
    · obtain ⟨j, hj, e1⟩ := hex n (by omega)
      have h1 := hO n
      by_cases le : cu as n ≤ cu as n - Wq s r as n + Tq s r as n
      · exact ⟨n, Nat.le_refl _, by simp only [Nat.sub_self, bt]; omega⟩
      · exact ⟨j, by omega, by show cu as n - Wq s r as n = _; omega⟩
theorem outQ_cv (hr : 1 ≤ r ∧ r ≤ s) (h : ∀ a ∈ as, 0 ≤ a) : Cv s r (cu as) (cu (outQ s r as)) as.length :=
  (queue_cv hr h).congr (fun _ _ => rfl) fun n hn => (outQ_cu hn).symm
theorem outQ_rng (hr : 1 ≤ r ∧ r ≤ s) (h : ∀ a ∈ as, 0 ≤ a) : ∀ o ∈ outQ s r as, 0 ≤ o ∧ o ≤ s := by
  intro o ho
  obtain ⟨i, hi, e⟩ := List.mem_iff_getElem.mp ho
  rw [outQ_len] at hi
  have h1 := outQ_get (s := s) (r := r) hi
  rw [List.getD_eq_getElem?_getD, List.getElem?_eq_getElem (by rw [outQ_len]; exact hi), Option.getD_some, e] at h1
  have h2 := st_ok hr h i
  have h3 := getD_nn h i
  rw [Wq_succ] at h1
  omega
end
end PD

set_option Elab.async false
set_option linter.all false
set_option maxRecDepth 100000
set_option maxHeartbeats 1000000
namespace PD
/-! ### queue behind queue -/
def NN (as : List Int) : Prop := ∀ a ∈ as, 0 ≤ a
def VS (p : Int × Int) : Prop := 1 ≤ p.2 ∧ p.2 ≤ p.1
def WL (p : Int × Int) (as : List Int) : Prop := Wn p.1 p.2 (cu as) as.length
section
variable {s r s' r' : Int} {as bs os : List Int} {p q : Int × Int} {st st' : List (Int × Int)}
theorem outQ_nn (v : VS p) (h : NN as) : NN (outQ p.1 p.2 as) := fun o ho => (outQ_rng v h o ho).1
theorem outQ_wl (v : VS p) (h : NN as) : WL p (outQ p.1 p.2 as) := by
  unfold WL
  rw [outQ_len]
  exact (outQ_cv v h).wn (by have := v.1; omega) v.2
theorem outQ_wl' (v : VS p) (h : NN as) (w : WL q as) : WL q (outQ p.1 p.2 as) := by
  unfold WL
  rw [outQ_len]
  exact (outQ_cv v h).wn' w
theorem outQ_fix (v : VS p) (h : NN as) (w : WL q as) (h1 : q.1 ≤ p.1) (h2 : q.2 ≤ p.2) : outQ p.1 p.2 as = as := by
  refine cu_ext outQ_len fun n hn => ?_
  rw [outQ_len] at hn
  exact (outQ_cv v h).uniq (w.cv h1 h2) hn
theorem outQ_swap (v : VS p) (u : VS q) (h : NN as) : outQ q.1 q.2 (outQ p.1 p.2 as) = outQ p.1 p.2 (outQ q.1 q.2 as) := by
  refine cu_ext (by rw [outQ_len, outQ_len, outQ_len, outQ_len]) fun n hn => ?_
  rw [outQ_len, outQ_len] at hn
  have a1 := outQ_cv v h
  have a2 := outQ_cv u (outQ_nn v h)
  have a3 := outQ_cv u h
  have a4 := outQ_cv v (outQ_nn u h)
  rw [outQ_len] at a2 a4
  exact a1.swap a2 a3 a4 hn
theorem lineQ_nn : ∀ {st : List (Int × Int)} {as : List Int}, (∀ p ∈ st, VS p) → NN as → NN (lineQ as st)
  | [], _, _, h => h
  | p :: st, _, v, h => lineQ_nn (st := st) (fun q hq => v q (List.mem_cons_of_mem _ hq)) (outQ_nn (v p List.mem_cons_self) h)
theorem lineQ_len : ∀ {st : List (Int × Int)} {as : List Int}, (lineQ as st).length = as.length
  | [], _ => rfl
  | p :: st, as => (lineQ_len (st := st) (as := outQ p.1 p.2 as)).trans outQ_len
theorem lineQ_app : lineQ as (st ++ st') = lineQ (lineQ as st) st' := by unfold lineQ; rw [List.foldl_append]
theorem lineQ_wl' : ∀ {st : List (Int × Int)} {as : List Int}, (∀ p ∈ st, VS p) → NN as → WL q as → WL q (lineQ as st)
  | [], _, _, _, w => w
  | p :: st, _, v, h, w => lineQ_wl' (st := st) (fun q hq => v q (List.mem_cons_of_mem _ hq)) (outQ_nn (v p List.mem_cons_self) h) (outQ_wl' (v p List.mem_cons_self) h w)
theorem lineQ_wl : ∀ {st : List (Int × Int)} {as : List Int}, (∀ p ∈ st, VS p) → NN as → ∀ p ∈ st, WL p (lineQ as st)
  | [], _, _, _, p, hp => by cases hp
  | q :: st, _, v, h, p, hp => by
    have hv : ∀ p ∈ st, VS p := fun q hq => v q (List.mem_cons_of_mem _ hq)
    have hq := v q List.mem_cons_self
    rcases List.mem_cons.mp hp with rfl | hp
    · exact lineQ_wl' (st := st) hv (outQ_nn hq h) (outQ_wl hq h)
    · exact lineQ_wl (st := st) hv (outQ_nn hq h) p hp
theorem lineQ_fix : ∀ {st : List (Int × Int)}, (∀ p ∈ st, VS p) → NN as → (∀ p ∈ st, WL p as) → lineQ as st = as
  | [], _, _, _ => rfl
  | p :: st, v, h, w => by
    show lineQ (outQ p.1 p.2 as) st = as
    rw [outQ_fix (v p List.mem_cons_self) h (w p List.mem_cons_self) (Int.le_refl _) (Int.le_refl _)]
    exact lineQ_fix (fun q hq => v q (List.mem_cons_of_mem _ hq)) h fun q hq => w q (List.mem_cons_of_mem _ hq)
theorem lineQ_perm (hp : st.Perm st') : ∀ {as : List Int}, (∀ p ∈ st, VS p) → NN as → lineQ as st = lineQ as st' := by
  induction hp with
  | nil => intro as _ _; rfl
  | cons p _ ih => intro as v h; exact ih (fun q hq => v q (List.mem_cons_of_mem _ hq)) (outQ_nn (v p List.mem_cons_self) h)
  | swap p q l =>
    intro as v h
    show lineQ (outQ p.1 p.2 (outQ q.1 q.2 as)) l = lineQ (outQ q.1 q.2 (outQ p.1 p.2 as)) l
    rw [outQ_swap (v q (by simp)) (v p (by simp)) h]
  | trans a _ ih1 ih2 => intro as v h; exact (ih1 v h).trans (ih2 (fun q hq => v q (a.mem_iff.mpr hq)) h)
theorem lineQ_le : ∀ {st : List (Int × Int)} {as : List Int}, (∀ p ∈ st, VS p) → NN as → ∀ n, n ≤ as.length → cu (lineQ as st) n ≤ cu as n
  | [], _, _, _, n, _ => Int.le_refl _
  | p :: st, as, v, h, n, hn => by
    have h1 := lineQ_le (st := st) (fun q hq => v q (List.mem_cons_of_mem _ hq)) (outQ_nn (v p List.mem_cons_self) h) n (by rw [outQ_len]; exact hn)
    have h2 := (outQ_cv (v p List.mem_cons_self) h).le hn
    exact Int.le_trans h1 h2
theorem outQ_ok_of (v : VS p) (h : NN as) (hl : os.length = as.length) (hn : NN os) (hle : ∀ n, n ≤ as.length → cu os n ≤ cu as n) (w : WL p os) : OutOk as p.1 p.2 os := by
  refine ⟨hl, hn, fun i hi => ?_, fun j i hj hi => ?_⟩
  · rw [sums_len] at hi
    rw [sums_get (by omega), sums_get (by omega)]
    exact hle i (by omega)
  · rw [sums_len] at hi
    rw [sums_get (by omega), sums_get (by omega)]
    have h1 := w i (by omega) j (by omega)
    obtain ⟨m, hm⟩ : ∃ m, i - j = m + 1 := ⟨i - j - 1, by omega⟩
    rw [hm, bt_eq] at h1
    have e : ((i : Int) - j - 1) = (m : Int) := by omega
    rw [e]
    omega
theorem outQ_ok (v : VS p) (h : NN as) : OutOk as p.1 p.2 (outQ p.1 p.2 as) :=
  outQ_ok_of v h outQ_len (outQ_nn v h) (fun n hn => (outQ_cv v h).le hn) (outQ_wl v h)
theorem line_ok (v : ∀ p ∈ st, VS p) (h : NN as) (hp : p ∈ st) : OutOk as p.1 p.2 (lineQ as st) :=
  outQ_ok_of (v p hp) h lineQ_len (lineQ_nn v h) (lineQ_le v h) (lineQ_wl v h p hp)
/-- a stage twice, a greater one behind or ahead -/
theorem line_more (v : ∀ p ∈ st, VS p) (h : NN as) (hp : p ∈ st) {g : Int} (hg : 0 ≤ g) : lineQ as (st ++ [p]) = lineQ as st ∧ lineQ as (st ++ [(p.1 + g, p.2), p]) = lineQ as st ∧ lineQ as ([(p.1 + g, p.2)] ++ st) = lineQ as st := by
  have vp := v p hp
  have vg : VS (p.1 + g, p.2) := ⟨vp.1, by have := vp.2; show p.2 ≤ p.1 + g; omega⟩
  have hn := lineQ_nn v h
  have w := lineQ_wl v h p hp
  have f1 : outQ p.1 p.2 (lineQ as st) = lineQ as st := outQ_fix vp hn w (Int.le_refl _) (Int.le_refl _)
  have f2 : outQ (p.1 + g) p.2 (lineQ as st) = lineQ as st := outQ_fix (p := (p.1 + g, p.2)) vg hn w (by show p.1 ≤ p.1 + g; omega) (Int.le_refl _)
  refine ⟨?_, ?_, ?_⟩
  · rw [lineQ_app]; exact f1
  · rw [lineQ_app]
    show outQ p.1 p.2 (outQ (p.1 + g) p.2 (lineQ as st)) = _
    rw [f2, f1]
  · rw [lineQ_perm (List.perm_append_comm (l₁ := [(p.1 + g, p.2)]) (l₂ := st)) (fun q hq => by
      rcases List.mem_append.mp hq with hq | hq
      · rw [List.mem_singleton.mp hq]; exact vg
      · exact v q hq) h, lineQ_app]
    exact f2
/-! ### the greatest waiting -/
def IsMost (s r : Int) (as : List Int) (m : Int) : Prop := 0 ≤ m ∧ (∀ n, n ≤ as.length → Wq s r as n ≤ m) ∧ (m = 0 ∨ ∃ n, n ≤ as.length ∧ Wq s r as n = m)
theorem IsMost.uniq {m m' : Int} (h : IsMost s r as m) (h' : IsMost s r as m') : m = m' := by
  obtain ⟨a1, a2, a3⟩ := h
  obtain ⟨b1, b2, b3⟩ := h'
  have x1 : m ≤ m' := by
    rcases a3 with z | ⟨n, hn, z⟩
    · omega
    · have := b2 n hn; omega
  have x2 : m' ≤ m := by
    rcases b3 with z | ⟨n, hn, z⟩
    · omega
    · have := a2 n hn; omega
  omega
theorem win_sum {b e : Nat} (h : b ≤ e) : ((as.drop b).take (e - b)).sum = cu as e - cu as b := by
  have h1 : as.take e = as.take b ++ (as.drop b).take (e - b) := by
    conv => lhs; rw [show e = b + (e - b) by omega]
    rw [List.take_add]
  unfold cu
  rw [h1, List.sum_append]
  omega
def WinS (s r : Int) (as : List Int) (i : Nat) (m : Int) (w : Option (Int × Int)) : Prop :=
  (m = 0 ∧ w = none) ∨ (m ≠ 0 ∧ ∃ b e : Nat, w = some ((b : Int), (e : Int)) ∧ b ≤ e ∧ e < i ∧ cu as (e + 1) - cu as b - r * ((e : Int) - b) - s = m)
theorem gw_run (hr : 1 ≤ r ∧ r ≤ s) (h : NN as) : ∀ (xs : List Int) (i : Nat) (best : Int) (win : Option (Int × Int)) (total begin : Int), as.drop i = xs → i ≤ as.length →
    total = Wq s r as i - Tq s r as i + s → (i = 0 ∨ ∃ b : Nat, begin = (b : Int) ∧ b < i ∧ total = cu as i - cu as b - r * ((i : Int) - 1 - b)) →
    0 ≤ best → WinS s r as i best win → (∀ n, n ≤ i → Wq s r as n ≤ best) → (best = 0 ∨ ∃ n, n ≤ i ∧ Wq s r as n = best) →
    IsMost s r as (gwRun s r i best win total begin xs).1 ∧ WinS s r as as.length (gwRun s r i best win total begin xs).1 (gwRun s r i best win total begin xs).2
  | [], i, best, win, total, begin, hx, hi, ht, hb, h0, hw, hm, he => by
    have : as.length ≤ i := by
      have := congrArg List.length hx
      simp at this
      omega
    have e : i = as.length := by omega
    subst e
    exact ⟨⟨h0, hm, he⟩, hw⟩
  | c :: cs, i, best, win, total, begin, hx, hi, ht, hb, h0, hw, hm, he => by
    have hlt : i < as.length := by
      have := congrArg List.length hx
      simp at this
      omega
    have hc : as.getD i 0 = c := by
      have := congrArg (fun l => l[0]?) hx
      simp only [List.getElem?_drop, Nat.add_zero, List.getElem?_cons_zero] at this
      rw [List.getD_eq_getElem?_getD, this]
      rfl
    have hd : as.drop (i + 1) = cs := by
      have := congrArg List.tail hx
      simpa [List.tail_drop] using this
    have s1 := st_ok hr h i
    have s2 := st_ok hr h (i + 1)
    have cn := getD_nn h i
    have w1 := Wq_succ (s := s) (r := r) (as := as) (n := i)
    have t1 := Tq_succ (s := s) (r := r) (as := as) (n := i)
    have c1 := cu_succ (as := as) (n := i)
    rw [hc] at w1 t1 c1 cn
    have ht0 : i = 0 → total = 0 := fun z => by subst z; rw [ht, Wq_zero, Tq_zero]; omega
    have key : ∀ (tt bb : Int), tt = (if i = 0 ∨ total - r ≤ 0 then 0 else total - r) → bb = (if i = 0 ∨ total - r ≤ 0 then (i : Int) else begin) →
        tt + c = Wq s r as (i + 1) - Tq s r as (i + 1) + s ∧ ∃ b : Nat, bb = (b : Int) ∧ b < i + 1 ∧ tt + c = cu as (i + 1) - cu as b - r * (((i + 1 : Nat) : Int) - 1 - b) := by
      intro tt bb e1 e2
      by_cases hcase : i = 0 ∨ total - r ≤ 0
      · rw [if_pos hcase] at e1 e2
        have hle : total - r ≤ 0 := by
          rcases hcase with z | z
          · have := ht0 z; omega
          · exact z
        refine ⟨by omega, i, e2, by omega, ?_⟩
        have e3 : ((i + 1 : Nat) : Int) - 1 - i = 0 := by omega
        rw [e3, Int.mul_zero]
        omega
      · rw [if_neg hcase] at e1 e2
        have hgt : ¬ (total - r ≤ 0) := fun z => hcase (.inr z)
        refine ⟨by omega, ?_⟩
        rcases hb with z | ⟨b, hb1, hb2, hb3⟩
        · exact absurd (.inl z) hcase
        · refine ⟨b, by omega, by omega, ?_⟩
          have e3 : ((i + 1 : Nat) : Int) - 1 - b = ((i : Int) - 1 - b) + 1 := by omega
          rw [e3, Int.mul_add, Int.mul_one]
          omega
    obtain ⟨k1, b, k2, k3, k4⟩ := key _ _ rfl rfl
    unfold gwRun
    simp only
    generalize (if i = 0 ∨ total - r ≤ 0 then (0 : Int) else total - r) = tt at *
    generalize (if i = 0 ∨ total - r ≤ 0 then (i : Int) else begin) = bb at *
    by_cases hgt : tt + c - s > best
    · rw [if_pos hgt]
      refine gw_run hr h cs (i + 1) _ _ _ _ hd (by omega) k1 (.inr ⟨b, k2, k3, k4⟩) (by omega) (.inr ⟨by omega, b, i, by rw [k2], by omega, by omega, ?_⟩) (fun n hn => ?_) (.inr ⟨i + 1, Nat.le_refl _, ?_⟩)
      · have e3 : ((i + 1 : Nat) : Int) - 1 - b = (i : Int) - b := by omega
        rw [e3] at k4
        omega
      · rcases Nat.lt_or_ge n (i + 1) with z | z
        · have := hm n (by omega); omega
        · have e : n = i + 1 := by omega
          subst e
          omega
      · omega
    · rw [if_neg hgt]
      refine gw_run hr h cs (i + 1) _ _ _ _ hd (by omega) k1 (.inr ⟨b, k2, k3, k4⟩) h0 ?_ (fun n hn => ?_) ?_
      · rcases hw with z | ⟨z, b', e', a1, a2, a3, a4⟩
        · exact .inl z
        · exact .inr ⟨z, b', e', a1, a2, by omega, a4⟩
      · rcases Nat.lt_or_ge n (i + 1) with z | z
        · exact hm n (by omega)
        · have e : n = i + 1 := by omega
          subst e
          omega
      · rcases he with z | ⟨n, hn, z⟩
        · exact .inl z
        · exact .inr ⟨n, by omega, z⟩
theorem gw_all (hr : 1 ≤ r ∧ r ≤ s) (h : NN as) : IsMost s r as (gwAll s r as).1 ∧ WinS s r as as.length (gwAll s r as).1 (gwAll s r as).2 :=
  gw_run hr h as 0 0 none 0 0 rfl (by omega) (by rw [Wq_zero, Tq_zero]; omega) (.inl rfl) (by omega) (.inl ⟨rfl, rfl⟩) (fun n hn => by
    have e : n = 0 := by omega
    subst e
    rw [Wq_zero]; omega) (.inl rfl)
theorem waits_mem {y : Int} : y ∈ (ledQ s r s 0 as).map (·.2.1) ↔ ∃ i, i < as.length ∧ y = Wq s r as (i + 1) := by
  constructor
  · intro hy
    obtain ⟨q, hq, e⟩ := List.mem_map.mp hy
    obtain ⟨i, hi, e2⟩ := List.mem_iff_getElem.mp hq
    rw [ledQ_len] at hi
    obtain ⟨o, e3, _⟩ := ledQ_get (s := s) (r := r) (t := s) (w := 0) hi
    rw [List.getElem?_eq_getElem (by rw [ledQ_len]; exact hi), e2] at e3
    refine ⟨i, hi, ?_⟩
    rw [← e, Option.some.inj e3]
    rfl
  · rintro ⟨i, hi, rfl⟩
    obtain ⟨o, e3, _⟩ := ledQ_get (s := s) (r := r) (t := s) (w := 0) hi
    exact List.mem_map.mpr ⟨_, List.mem_of_getElem? e3, rfl⟩
theorem IsMost.mem {m : Int} (h : IsMost s r as m) : m ∈ (0 : Int) :: (ledQ s r s 0 as).map (·.2.1) ∧ ∀ y ∈ (0 : Int) :: (ledQ s r s 0 as).map (·.2.1), y ≤ m := by
  obtain ⟨a1, a2, a3⟩ := h
  constructor
  · rcases a3 with z | ⟨n, hn, z⟩
    · rw [z]; exact List.mem_cons_self
    · cases n with
      | zero => rw [← z, Wq_zero]; exact List.mem_cons_self
      | succ n => exact List.mem_cons_of_mem _ (waits_mem.mpr ⟨n, hn, z.symm⟩)
  · intro y hy
    rcases List.mem_cons.mp hy with rfl | hy
    · exact a1
    · obtain ⟨i, hi, rfl⟩ := waits_mem.mp hy
      exact a2 _ (by omega)
theorem gw_bk (hr : 1 ≤ r ∧ r ≤ s) (h : NN as) : BkP as s r (gwAll s r as).1 (gwAll s r as).2 := by
  obtain ⟨hm, hw⟩ := gw_all hr h
  obtain ⟨h1, h2⟩ := hm.mem
  refine ⟨?_, ?_⟩
  · by_cases e : as = []
    · subst e
      refine .inl ⟨rfl, ?_⟩
      simpa [ledQ] using h1
    · refine .inr ⟨?_, fun y hy => h2 y (List.mem_cons_of_mem _ hy)⟩
      rcases List.mem_cons.mp h1 with z | z
      · have hl : 0 < as.length := List.length_pos_iff.mpr e
        have hq := (waits_mem (s := s) (r := r) (as := as)).mpr ⟨0, hl, rfl⟩
        have h3 := h2 _ (List.mem_cons_of_mem _ hq)
        have h4 := st_ok hr h (0 + 1)
        rw [z] at h3
        have e2 : Wq s r as (0 + 1) = 0 := by omega
        rw [e2] at hq
        rw [z]
        exact hq
      · exact z
  · rcases hw with z | ⟨z, b, e, a1, a2, a3, a4⟩
    · exact .inl z
    · exact .inr ⟨z, b, e, a1, a2, a3, by rw [win_sum (by omega)]; exact a4⟩
/-! ### ticks without arrivals behind -/
theorem st_app {n : Nat} (h : n ≤ as.length) : stN s r (s, 0) (as ++ bs) n = stN s r (s, 0) as n := by
  induction n with
  | zero => rfl
  | succ n ih =>
    show stp s r (stN s r (s, 0) (as ++ bs) n) ((as ++ bs).getD n 0) = stp s r (stN s r (s, 0) as n) (as.getD n 0)
    rw [ih (by omega), List.getD_eq_getElem?_getD, List.getD_eq_getElem?_getD, List.getElem?_append_left (by omega)]
theorem zero_get {k n : Nat} (h : as.length ≤ n) : (as ++ List.replicate k (0 : Int)).getD n 0 = 0 := by
  rw [List.getD_eq_getElem?_getD, List.getElem?_append_right h, List.getElem?_replicate]
  split <;> rfl
theorem app_nn (h : NN as) (k : Nat) : NN (as ++ List.replicate k 0) := fun a ha => by
  rcases List.mem_append.mp ha with z | z
  · exact h a z
  · have := List.eq_of_mem_replicate z; omega
theorem most_zeros (hr : 1 ≤ r ∧ r ≤ s) (h : NN as) {m : Int} (hm : IsMost s r as m) (k : Nat) : IsMost s r (as ++ List.replicate k 0) m := by
  obtain ⟨a1, a2, a3⟩ := hm
  refine ⟨a1, fun n hn => ?_, ?_⟩
  · have key : ∀ j, Wq s r (as ++ List.replicate k 0) (as.length + j) ≤ m := by
      intro j
      induction j with
      | zero => rw [Nat.add_zero]; unfold Wq; rw [st_app (Nat.le_refl _)]; exact a2 _ (Nat.le_refl _)
      | succ j ih =>
        have h1 := Wq_succ (s := s) (r := r) (as := as ++ List.replicate k 0) (n := as.length + j)
        rw [zero_get (by omega)] at h1
        have h2 := st_ok hr (app_nn h k) (as.length + j)
        have e : as.length + (j + 1) = as.length + j + 1 := by omega
        rw [e]
        omega
    rcases Nat.lt_or_ge n as.length with z | z
    · unfold Wq; rw [st_app (by omega)]; exact a2 n (by omega)
    · obtain ⟨j, rfl⟩ : ∃ j, n = as.length + j := ⟨n - as.length, by omega⟩
      exact key j
  · rcases a3 with z | ⟨n, hn, z⟩
    · exact .inl z
    · exact .inr ⟨n, by simp; omega, by unfold Wq at z ⊢; rw [st_app hn]; exact z⟩
theorem quiet_end (hr : 1 ≤ r ∧ r ≤ s) (h : NN as) (k : Nat) : ∀ j, Wq s r (as ++ List.replicate k 0) (as.length + j) ≤ max 0 (Wq s r as as.length - r * (j : Int)) := by
  intro j
  induction j with
  | zero => rw [Nat.add_zero]; unfold Wq; rw [st_app (Nat.le_refl _)]; simp; omega
  | succ j ih =>
    have h1 := Wq_succ (s := s) (r := r) (as := as ++ List.replicate k 0) (n := as.length + j)
    rw [zero_get (by omega)] at h1
    have h2 := st_ok hr (app_nn h k) (as.length + j)
    have e : as.length + (j + 1) = as.length + j + 1 := by omega
    have e2 : r * ((j + 1 : Nat) : Int) = r * (j : Int) + r := by rw [Int.natCast_succ, Int.mul_add, Int.mul_one]
    rw [e, e2]
    omega
theorem quiet_sum (hr : 1 ≤ r ∧ r ≤ s) (h : NN as) {k : Nat} (hk : (k : Int) = Wq s r as as.length / r + 1) : (outQ s r (as ++ List.replicate k 0)).sum = as.sum := by
  have h1 := quiet_end hr h k k
  have hl : (as ++ List.replicate k (0 : Int)).length = as.length + k := by simp
  have h2 := outQ_cu (s := s) (r := r) (as := as ++ List.replicate k 0) (n := as.length + k) (by omega)
  rw [cu_full (by rw [outQ_len]; omega), cu_full (by omega)] at h2
  have h3 := st_ok hr (app_nn h k) (as.length + k)
  have h4 : Wq s r as as.length < r * (k : Int) := by
    rw [hk, Int.mul_add, Int.mul_one]
    have := Int.emod_add_mul_ediv (Wq s r as as.length) r
    have := Int.emod_lt_of_pos (Wq s r as as.length) (show 0 < r by omega)
    omega
  have h5 : (as ++ List.replicate k (0 : Int)).sum = as.sum := by
    rw [List.sum_append]
    have : ∀ k : Nat, (List.replicate k (0 : Int)).sum = 0 := by
      intro k
      induction k with
      | zero => rfl
      | succ k ih => rw [List.replicate_succ, List.sum_cons, ih]; rfl
    rw [this]
    omega
  rw [h5] at h2
  omega
theorem ledQ_take : ∀ {as : List Int} {t w : Int} {n : Nat}, ledQ s r t w (as.take n) = (ledQ s r t w as).take n
  | [], _, _, n => by simp [ledQ]
  | a :: as, _, _, 0 => by simp [ledQ]
  | a :: as, _, _, n + 1 => by simp [ledQ, ledQ_take]
/-! ### bounds -/
theorem bnd_ok (hr : 1 ≤ r ∧ r ≤ s) (h : NN as) {t : Nat} (ht : t < as.length) : ∃ a : Nat, bndAt s r as (t : Int) = (a : Int) ∧ a ≤ t + 1 ∧ cu (outQ s r as) (t + 1) = cu as a + (if (a : Int) ≤ (t : Int) then s + r * ((t : Int) - a) else 0) := by
  have e0 : ((t : Int) + 1).toNat = t + 1 := by omega
  unfold bndAt
  rw [e0, sums_get (by rw [outQ_len]; omega)]
  cases e : ((irange 0 (t + 1)).filter fun b => decide (cu (outQ s r as) (t + 1) = (sums as).getD b.toNat 0 + s + r * ((t : Int) - b))) with
  | nil =>
    refine ⟨t + 1, by simp, Nat.le_refl _, ?_⟩
    rw [if_neg (by omega)]
    obtain ⟨j, hj, hj2⟩ := (outQ_cv hr h).ex (t + 1) (by omega)
    by_cases z : j = t + 1
    · subst z
      rw [hj2]
      simp [bt]
    · exfalso
      have hmem : (j : Int) ∈ ((irange 0 (t + 1)).filter fun b => decide (cu (outQ s r as) (t + 1) = (sums as).getD b.toNat 0 + s + r * ((t : Int) - b))) := by
        rw [List.mem_filter]
        refine ⟨by rw [irange_mem]; omega, ?_⟩
        obtain ⟨m, hm⟩ : ∃ m, t + 1 - j = m + 1 := ⟨t - j, by omega⟩
        rw [hm, bt_eq] at hj2
        have e1 : (t : Int) - j = (m : Int) := by omega
        rw [decide_eq_true_iff, Int.toNat_natCast, sums_get (by omega), hj2, e1]
        omega
      rw [e] at hmem
      cases hmem
  | cons b rest =>
    have hb : b ∈ ((irange 0 (t + 1)).filter fun b => decide (cu (outQ s r as) (t + 1) = (sums as).getD b.toNat 0 + s + r * ((t : Int) - b))) := by rw [e]; exact List.mem_cons_self
    rw [List.mem_filter, irange_mem, decide_eq_true_iff] at hb
    obtain ⟨hb1, hb2⟩ := hb
    rw [sums_get (by omega)] at hb2
    refine ⟨b.toNat, by simp; omega, by omega, ?_⟩
    have e1 : ((b.toNat : Nat) : Int) = b := by omega
    rw [e1, if_pos (by omega), hb2]
    omega
/-! ### beside one another -/
theorem cu_both : ∀ {as bs : List Int}, as.length = bs.length → ∀ n, cu (List.zipWith (· + ·) as bs) n = cu as n + cu bs n
  | [], [], _, n => by simp [cu]
  | [], b :: bs, h, n => by simp at h
  | a :: as, [], h, n => by simp at h
  | a :: as, b :: bs, h, 0 => by simp [cu]
  | a :: as, b :: bs, h, n + 1 => by
    have := cu_both (as := as) (bs := bs) (by simpa using h) n
    simp only [cu, List.zipWith_cons_cons, List.take_succ_cons, List.sum_cons] at this ⊢
    omega
theorem most_both (v : 1 ≤ r ∧ r ≤ s) (v' : 1 ≤ r' ∧ r' ≤ s') (h : NN as) (h' : NN bs) (hl : as.length = bs.length) {m m1 m2 : Int} (hm : IsMost (s + s') (r + r') (List.zipWith (· + ·) as bs) m) (h1 : IsMost s r as m1) (h2 : IsMost s' r' bs m2) : m ≤ m1 + m2 := by
  obtain ⟨_, _, a3⟩ := hm
  rcases a3 with z | ⟨n, hn, z⟩
  · have := h1.1; have := h2.1; omega
  · have hln : (List.zipWith (· + ·) as bs).length = as.length := by simp [hl]
    have hnn : NN (List.zipWith (· + ·) as bs) := fun a ha => by
      obtain ⟨i, hi, e⟩ := List.mem_iff_getElem.mp ha
      rw [List.getElem_zipWith] at e
      have x1 := h _ (List.getElem_mem (l := as) (n := i) (by omega))
      have x2 := h' _ (List.getElem_mem (l := bs) (n := i) (by omega))
      omega
    have c3 := queue_cv (s := s + s') (r := r + r') (by omega) hnn
    rw [hln] at hn c3
    have c1 := queue_cv v h
    have c2 := queue_cv v' h'
    rw [← hl] at c2
    have c4 := Cv.both c1 c2 (c3.congr (fun n _ => cu_both hl n) fun _ _ => rfl) hn
    have e := cu_both hl n
    have x1 := h1.2.1 n hn
    have x2 := h2.2.1 n (by omega)
    omega
theorem wide_le (v : 1 ≤ r ∧ r ≤ s) (v' : 1 ≤ r' ∧ r' ≤ s') (hs : s ≤ s') (hr : r ≤ r') (h : NN as) {n : Nat} (hn : n ≤ as.length) : cu (outQ s r as) n ≤ cu (outQ s' r' as) n :=
  (outQ_cv v h).mono (outQ_cv v' h) hs hr hn
end
end PD

set_option Elab.async false
set_option linter.all false
set_option maxRecDepth 100000
set_option maxHeartbeats 1000000
namespace PD
open PySem PySem.Spec PyProof.Rows L2
instance {q : Int × Int × Int} {k : Nat} : ShC true (k + 1) (tri q) := inferInstanceAs (ShC true (k + 1) (.tup [.int q.1, .int q.2.1, .int q.2.2]))
instance {q : Int × Int} {k : Nat} : ShC true (k + 1) (stD q) := inferInstanceAs (ShC true (k + 1) (.tup [.int q.1, .int q.2]))
instance {b : Bool} {k : Nat} {c : Prop} [Decidable c] {d1 d2 : D} [i : ShC b k d1] [j : ShC b k d2] : ShC b k (if c then d1 else d2) := by
  by_cases h : c
  · rw [if_pos h]; exact i
  · rw [if_neg h]; exact j
theorem cut_pre {α : Type} {f : α → D} {xs : List α} {z : Int} (h : 0 ≤ z) : cutD (xs.map f) none (some z) = (xs.take z.toNat).map f := by
  rw [cutD_map]
  obtain ⟨n, rfl⟩ : ∃ n : Nat, z = (n : Int) := ⟨z.toNat, by omega⟩
  rw [HT.sIx_nat, HT.sIx_none, Nat.sub_zero, List.drop_zero, Int.toNat_natCast]
  congr 1
  rcases Nat.le_total n xs.length with h | h
  · rw [Nat.min_eq_left h]
  · rw [Nat.min_eq_right h, List.take_of_length_le h, List.take_of_length_le (Nat.le_refl _)]
theorem rep_ints {as : List Int} {k : Nat} {z : Int} : as.map D.int ++ (List.replicate k [D.int z]).flatten = (as ++ List.replicate k z).map D.int := by
  rw [List.map_append]
  congr 1
  induction k with
  | zero => rfl
  | succ k ih => rw [List.replicate_succ, List.replicate_succ, List.flatten_cons, ih]; rfl
def dueL (s r : Int) (as : List Int) : Int × Int × Int := (ledQ s r s 0 as).getD (as.length - 1) (0, 0, 0)
theorem due_last {s r : Int} {as : List Int} (h : as ≠ []) : atI ((ledQ s r s 0 as).map tri) (-1) = some (tri (dueL s r as)) := by
  have hl : 0 < as.length := List.length_pos_iff.mpr h
  have e : ixN ((ledQ s r s 0 as).map tri).length (-1) = some (as.length - 1) := by
    unfold ixN
    rw [List.length_map, ledQ_len, if_neg (by decide), if_pos (by omega)]
    congr 1
    omega
  unfold atI
  rw [e]
  show ((ledQ s r s 0 as).map tri)[as.length - 1]? = _
  unfold dueL
  rw [List.getElem?_map, List.getD_eq_getElem?_getD, List.getElem?_eq_getElem (by rw [ledQ_len]; omega)]
  rfl
theorem due_left {s r : Int} {as : List Int} : (if (!eqb (D.lst ((ledQ s r s 0 as).map tri)) (D.lst [])) = true then (dueL s r as).2.1 else 0) = Wq s r as as.length := by
  cases as with
  | nil => simp [ledQ, eqb_self]; rfl
  | cons a as =>
    rw [if_pos (by rw [eqb_ne (by simp [ledQ])]; rfl)]
    obtain ⟨o, e, _⟩ := ledQ_get (s := s) (r := r) (t := s) (w := 0) (as := a :: as) (n := as.length) (by simp)
    unfold dueL
    rw [List.getD_eq_getElem?_getD]
    have e2 : (a :: as).length - 1 = as.length := by simp
    rw [e2, e]
    rfl
theorem ne_of_due {s r : Int} {as : List Int} (h : (!eqb (D.lst ((ledQ s r s 0 as).map tri)) (D.lst [])) = true) : as ≠ [] := by
  rintro rfl
  simp [ledQ, eqb_self] at h
theorem bnds_drop {s r a : Int} {as xs : List Int} {k : Nat} (h : (bndsQ s r as).drop k = a :: xs) : k < as.length ∧ a = bndAt s r as (k : Int) ∧ xs = (bndsQ s r as).drop (k + 1) := by
  have hlen : (bndsQ s r as).length = as.length := by simp [bndsQ, irange_len]
  have hk : k < as.length := by
    have := congrArg List.length h
    simp [hlen] at this
    omega
  have h0 := congrArg (fun l => l[0]?) h
  simp only [List.getElem?_drop, Nat.add_zero, List.getElem?_cons_zero] at h0
  refine ⟨hk, ?_, ?_⟩
  · unfold bndsQ irange at h0
    rw [List.map_map, List.getElem?_map, List.getElem?_range hk] at h0
    have := Option.some.inj h0
    simpa using this.symm
  · have := congrArg List.tail h
    simpa [List.tail_drop] using this.symm
theorem times_eq {s r : Int} {as : List Int} : (List.zip as (ledQ s r s 0 as)).map (fun x => if decide (x.1 = 0) = true then D.non else D.int ((x.2.2.1 + r - 1) / r)) = (waitsQ s r as).map (optD .int) := by
  unfold waitsQ
  rw [List.zip, List.map_zipWith, List.map_zipWith]
  congr 1
  funext a q
  unfold waitQ
  by_cases h : a = 0 <;> simp [h, optD]
theorem st_getD {st : List (Int × Int)} {i : Nat} (h : i < st.length) : (st.map stD).getD i .non = stD (st.getD i (0, 0)) := by
  rw [List.getD_eq_getElem?_getD, List.getD_eq_getElem?_getD, List.getElem?_map, List.getElem?_eq_getElem h]
  rfl
theorem mem_getD {α : Type} {st : List α} {i : Nat} {z : α} (h : i < st.length) : st.getD i z ∈ st := by
  rw [List.getD_eq_getElem?_getD, List.getElem?_eq_getElem h]
  exact List.getElem_mem h
theorem int_getD {xs : List Int} {i : Nat} (h : i < xs.length) : (xs.map D.int).getD i .non = .int (xs.getD i 0) := by
  rw [List.getD_eq_getElem?_getD, List.getD_eq_getElem?_getD, List.getElem?_map, List.getElem?_eq_getElem h]
  rfl
theorem SOk.vs {p : Int × Int} (h : SOk p) : VS p := h.2.2
theorem QOk.vs {as : List Int} {s r : Int} (h : QOk as s r) : VS (s, r) := h.hr
theorem AOk.nn {as : List Int} (h : AOk as) : NN as := fun a ha => (h.rng a ha).1
theorem QOk.take {as : List Int} {s r : Int} (h : QOk as s r) (k : Nat) : QOk (as.take k) s r :=
  ⟨⟨by have := h.a.len; rw [List.length_take]; omega, fun a ha => h.a.rng a (List.mem_of_mem_take ha)⟩, h.hs, h.hr⟩
theorem QOk.zeros {as : List Int} {s r : Int} (h : QOk as s r) (hl : as.length ≤ 100) : QOk (as ++ List.replicate 5 0) s r :=
  ⟨⟨by simp; omega, fun a ha => by
    rcases List.mem_append.mp ha with z | z
    · exact h.a.rng a z
    · have := List.eq_of_mem_replicate z; omega⟩, h.hs, h.hr⟩
theorem line_aok {as : List Int} {st : List (Int × Int)} (h : AOk as) (v : ∀ p ∈ st, SOk p) : AOk (lineQ as st) := by
  refine ⟨by rw [lineQ_len]; exact h.len, ?_⟩
  have key : ∀ (st : List (Int × Int)) (as : List Int), (∀ p ∈ st, SOk p) → (∀ a ∈ as, 0 ≤ a ∧ a ≤ 1000000) → ∀ a ∈ lineQ as st, 0 ≤ a ∧ a ≤ 1000000 := by
    intro st
    induction st with
    | nil => intro as _ h; exact h
    | cons p st ih =>
      intro as v h
      have vp := v p List.mem_cons_self
      refine ih (outQ p.1 p.2 as) (fun q hq => v q (List.mem_cons_of_mem _ hq)) fun a ha => ?_
      have := outQ_rng vp.vs (fun a ha => (h a ha).1) a ha
      have := vp.2.1
      omega
  exact key st as v h.rng
theorem cu_le {as : List Int} (h : ∀ a ∈ as, a ≤ 1000) : ∀ n, n ≤ as.length → cu as n ≤ 1000 * (n : Int)
  | 0, _ => by rw [cu_zero]; omega
  | n + 1, hn => by
    have ih := cu_le h n (by omega)
    rw [cu_succ]
    have := h _ (mem_getD (z := 0) (show n < as.length by omega))
    omega
theorem Wq_le {s r : Int} {as : List Int} (hr : 1 ≤ r ∧ r ≤ s) (hn : NN as) (h : ∀ a ∈ as, a ≤ 1000) : Wq s r as as.length ≤ 1000 * (as.length : Int) := by
  have h1 := cu_le h as.length (Nat.le_refl _)
  have h2 := outQ_cu (s := s) (r := r) (as := as) (Nat.le_refl _)
  have h3 : 0 ≤ cu (outQ s r as) as.length := by
    have key : ∀ (l : List Int), (∀ a ∈ l, 0 ≤ a) → 0 ≤ l.sum := by
      intro l
      induction l with
      | nil => intro _; simp
      | cons a l ih =>
        intro hl
        have x1 := hl a List.mem_cons_self
        have x2 := ih fun b hb => hl b (List.mem_cons_of_mem _ hb)
        simp; omega
    exact key _ fun a ha => (outQ_rng hr hn a (List.mem_of_mem_take ha)).1
  omega
theorem psum_get {as : List Int} {n : Nat} (h : n < as.length) : (psum 0 as).getD n 0 = cu as (n + 1) := by
  have := sums_get (as := as) (n := n + 1) (by omega)
  simpa [sums] using this
/-- the tape behind the line's draws -/
def linT (st : List (Int × Int)) (τ : Tape) : Tape := nx (nx (shufT (st.map stD).length (st.map stD) τ) (st.map stD).length) 5
/-- the draws beside one another -/
def besO (as : List Int) (τ : Tape) : List Int := (mapT (fun (_ : Int) τ => dr τ 6) (fun _ τ => nx τ 6) as τ).1
def besU (as : List Int) (τ : Tape) : Tape := (mapT (fun (_ : Int) τ => dr τ 6) (fun _ τ => nx τ 6) as τ).2
def besT (as : List Int) (τ : Tape) : Tape := nx (nx (nx (besU as τ) 5) (1 + dr (besU as τ) 5)) 2
theorem zip_add {as bs : List Int} : (List.zip as bs).map (fun x => x.1 + x.2) = List.zipWith (· + ·) as bs := by
  rw [List.zip, List.map_zipWith]
theorem wide_nil {as : List Int} {s r s' r' : Int} (h : ∀ n, n ≤ as.length → cu (outQ s r as) n ≤ cu (outQ s' r' as) n) :
    (List.zip (psum 0 (outQ s r as)) (psum 0 (outQ s' r' as))).filter (fun x => decide (x.1 > x.2)) = [] := by
  rw [List.filter_eq_nil_iff]
  rintro ⟨a, b⟩ hm
  obtain ⟨i, hi, e1, e2⟩ := zip_get hm
  rw [psum_len, outQ_len] at hi
  rw [psum_get (by rw [outQ_len]; exact hi)] at e1
  rw [psum_get (by rw [outQ_len]; exact hi)] at e2
  have := h (i + 1) (by omega)
  simp
  omega
def arrL : List Int := [0, 0, 1, 2, 5, 9, 1000]
def arrG (_ : Int) (τ : Tape) : Int := arrL.getD (dr τ 7).toNat 0
def arrT (_ : Int) (τ : Tape) : Tape := nx τ 7
def szL : List Int := [0, 1, 3, 9, 50]
theorem arr_rng {i : Nat} (h : i < 7) : 0 ≤ arrL.getD i 0 ∧ arrL.getD i 0 ≤ 1000 := by
  have : ∀ i : Fin 7, 0 ≤ arrL.getD i.1 0 ∧ arrL.getD i.1 0 ≤ 1000 := by decide
  exact this ⟨i, h⟩
theorem sz_rng {i : Nat} (h : i < 5) : 0 ≤ szL.getD i 0 ∧ szL.getD i 0 ≤ 50 := by
  have : ∀ i : Fin 5, 0 ≤ szL.getD i.1 0 ∧ szL.getD i.1 0 ≤ 50 := by decide
  exact this ⟨i, h⟩
end PD

set_option Elab.async false
set_option linter.all false
set_option maxRecDepth 100000
set_option maxHeartbeats 2000000
namespace PD
open PySem PySem.Spec PyProof.Rows L2
def topS (i : Nat) : Stmt := PySem.Challenge.pw_tenantsure_k26_across_queues_one_behind.main.body.getD i (.Pass ⟨0, 0, 0, 0⟩)
abbrev s__law_blend : Stmt := topS 36
theorem sc__law_blend : FnScope ["tape", "turn", "found", "great", "blended", "grain"] ["tape"] (defScope s__law_blend) := ⟨rfl, rfl, rfl, by decide +kernel, rfl, by decide +kernel, by decide +kernel⟩
abbrev C__law_blend : List D → Tape → D → Tape → Prop := fun ds τ d τ' => ds = [] ∧ d = .int (mixAll τ) ∧ τ' = { τ with turn := τ.turn + 1 }
theorem b__law_blend {W : Wd} (B : Bt W.mg) : ∀ X : Cx, wd X = W → Cn X (defScope s__law_blend) ["tape", "turn", "found", "great", "blended", "grain"] 0 → ∀ ds τ d τ', C__law_blend ds τ d τ' → GSs X true (defBody s__law_blend) (entry ["tape", "turn", "found", "great", "blended", "grain"] (.tape :: ds.map .dat)) τ (Ret d τ') := by
  intro X hX c ds τ d τ' hC
  obtain ⟨rfl, rfl, rfl⟩ := hC
  have n_tape : Nm X 0 "tape" := c.nm rfl (by decide +kernel) (by decide +kernel) (by decide +kernel)
  have n_turn : Nm X 1 "turn" := c.nm rfl (by decide +kernel) (by decide +kernel) (by decide +kernel)
  have n_found : Nm X 2 "found" := c.nm rfl (by decide +kernel) (by decide +kernel) (by decide +kernel)
  have n_great : Nm X 3 "great" := c.nm rfl (by decide +kernel) (by decide +kernel) (by decide +kernel)
  have n_blended : Nm X 4 "blended" := c.nm rfl (by decide +kernel) (by decide +kernel) (by decide +kernel)
  have n_grain : Nm X 5 "grain" := c.nm rfl (by decide +kernel) (by decide +kernel) (by decide +kernel)
  refine gss_is ?_ (by simp only [entry, List.map, List.length, List.cons_append, List.nil_append, List.replicate, Nat.reduceSub, Nat.reduceAdd] <;> exact rfl)
  refine gss_cons (gs_turn c.r n_tape rfl (ge_add (gt_turn c.r n_tape rfl) ge_int) ?_)
  refine gss_norm rfl ?_
  refine gss_cons (gs_par2 (c).calm (c).ndX (by rw [(c).hN]; rfl) (by rw [(c).hN]; rfl) (by decide) ((c).l (by decide +kernel)) ((c).l (by decide +kernel)) (i := 1) (j := 2) (gvs_cons (gv_e (ge_intI (bt_of hX B) ((c).g (by decide +kernel)) (gt_turn c.r n_tape rfl))) (gvs_cons (gv_e ge_int) gvs_nil)) (swap2 c (by decide +kernel) (by decide +kernel) (by decide +kernel) (by decide +kernel)) ?_)
  refine gss_norm (by simp only [setSls, List.zip, List.zipWith, List.set_cons_zero, List.set_cons_succ] <;> exact rfl) ?_
  refine gss_cons (gs_for (c).xe (c).calm (gi_list (ge_new (gn_lst (ga_cons ge_int (ga_cons ge_int (ga_cons ge_int ga_nil)))))) (fun rest Γ' τ' => ∃ (gs : List Int) (f : Int) (s3 s4 s5 : Sl), rest = gs.map .int ∧ gs.foldl (mixOne (τ.turn + 1) τ.cells) f = mixAll τ ∧ (∀ g ∈ gs, 0 < g ∧ g < 2147483648) ∧ Γ' = [.tape, .dat (.int (τ.turn + 1)), .dat (.int f), s3, s4, s5] ∧ τ' = { τ with turn := τ.turn + 1 }) ?_ ?_ ?_)
  · exact ⟨[2147483629, 2147483587, 2147483579], 0, _, _, _, rfl, rfl, by decide, rfl, rfl⟩
  · intro d rest Γ' τ' hI
    obtain ⟨gs, f, s3, s4, s5, e, hf, hg, rfl, rfl⟩ := hI
    obtain ⟨g, gs, rfl, rfl, rfl⟩ := map_cons_inv e
    obtain ⟨hg1, hg2⟩ := hg g List.mem_cons_self
    refine ⟨_, [3], (gg_name (c).ndX (c.sm (i := 3) rfl (by decide +kernel)) (by simp)), ?_⟩
    refine gss_is ?_ (by simp only [List.set_cons_zero, List.set_cons_succ] <;> exact rfl)
    refine gss_cons (gs_set (c).ndX (c.sm (i := 4) rfl (by decide +kernel)) (gv_e (ge_mod (by omega) (ge_add (ge_mul (.inr (by decide)) (ge_var n_turn rfl) ge_int) (ge_fdiv ⟨by decide, by decide⟩ (ge_var n_great rfl) ge_int)) (ge_var n_great rfl))) ?_)
    refine gss_norm (by simp only [setSls, List.zip, List.zipWith, List.set_cons_zero, List.set_cons_succ] <;> exact rfl) ?_
    refine gss_cons (gs_for (c).xe (c).calm (gi_list (gt_cells c.r n_tape rfl)) (fun rest Γ' τ' => ∃ (cs : List Int) (b : Int) (s5 : Sl), rest = cs.map .int ∧ mixCells g cs b = mixCells g τ.cells (((τ.turn + 1) * 69621 + g / 7) % g) ∧ 0 ≤ b ∧ b < g ∧ Γ' = [.tape, .dat (.int (τ.turn + 1)), .dat (.int f), .dat (.int g), .dat (.int b), s5] ∧ τ' = { τ with turn := τ.turn + 1 }) ?_ ?_ ?_)
    · exact ⟨τ.cells, _, _, rfl, rfl, Int.emod_nonneg _ (by omega), Int.emod_lt_of_pos _ hg1, rfl, rfl⟩
    · intro d rest Γ' τ' hI
      obtain ⟨cs, b, s5, e, hb, hb1, hb2, rfl, rfl⟩ := hI
      obtain ⟨x, cs, rfl, rfl, rfl⟩ := map_cons_inv e
      refine ⟨_, [5], (gg_name (c).ndX (c.sm (i := 5) rfl (by decide +kernel)) (by simp)), ?_⟩
      refine gss_is ?_ (by simp only [List.set_cons_zero, List.set_cons_succ] <;> exact rfl)
      refine gss_cons (gs_set (c).ndX (c.sm (i := 4) rfl (by decide +kernel)) (gv_e (ge_mod (by omega) (ge_add (ge_mul (.inr (by decide)) (ge_var n_blended rfl) ge_int) (ge_intI (bt_of hX B) ((c).g (by decide +kernel)) (ge_var n_grain rfl))) (ge_var n_great rfl))) ?_)
      refine gss_norm (by simp only [setSls, List.zip, List.zipWith, List.set_cons_zero, List.set_cons_succ] <;> exact rfl) ?_
      refine gss_nil ?_
      exact ⟨cs, _, _, rfl, hb, Int.emod_nonneg _ (by omega), Int.emod_lt_of_pos _ hg1, rfl, rfl⟩
    · intro Γ' τ' hI
      obtain ⟨cs, b, s5, e, hb, hb1, hb2, rfl, rfl⟩ := hI
      obtain rfl := map_nil_inv e
      have hb : b = mixCells g τ.cells _ := hb
      refine gss_norm rfl ?_
      refine gss_cons (gs_set (c).ndX (c.sm (i := 2) rfl (by decide +kernel)) (gv_e (ge_add (ge_mul (.inr (by decide)) (ge_var n_found rfl) ge_int) (ge_mod (by omega) (ge_pow ⟨by decide, by decide, by omega⟩ (ge_var n_blended rfl) ge_int) (ge_var n_great rfl)))) ?_)
      refine gss_norm (by simp only [setSls, List.zip, List.zipWith, List.set_cons_zero, List.set_cons_succ] <;> exact rfl) ?_
      refine gss_nil ?_
      exact ⟨gs, _, _, _, _, rfl, by rw [← hf]; exact congrArg (fun z => gs.foldl (mixOne (τ.turn + 1) τ.cells) (f * 2147483647 + z ^ 5 % g)) hb, fun x hx => hg x (List.mem_cons_of_mem _ hx), rfl, rfl⟩
  · intro Γ' τ' hI
    obtain ⟨gs, f, s3, s4, s5, e, hf, hg, rfl, rfl⟩ := hI
    obtain rfl := map_nil_inv e
    have hf : f = mixAll τ := hf
    refine gss_norm rfl ?_
    refine gss_cons (gs_ret (ge_var n_found rfl) ?_)
    exact ⟨by rw [hf], rfl⟩
theorem p__law_blend {W : Wd} {f : Addr} {fd : FuncData} (B : Bt W.mg) (F : Fun W.K "_law_blend" "_law_blend" s__law_blend f fd) (hb : Binds W.K fd ["tape"] []) (hm : W.mg "_law_blend" = some (.ref f)) : FnT W 1 "_law_blend" C__law_blend :=
  fnT_of F sc__law_blend hb hm (fun ds τ d τ' h => by obtain ⟨rfl, rfl, rfl⟩ := h; rfl) fun X hX c => b__law_blend B X hX c

abbrev s__law_draw : Stmt := topS 37
theorem sc__law_draw : FnScope ["tape", "size", "found"] ["tape", "size"] (defScope s__law_draw) := ⟨rfl, rfl, rfl, by decide +kernel, rfl, by decide +kernel, by decide +kernel⟩
abbrev C__law_draw : List D → Tape → D → Tape → Prop := fun ds τ d τ' => ∃ n : Int, ds = [.int n] ∧ (0 < n ∧ n < 1073741824) ∧ d = .int (dr τ n) ∧ τ' = nx τ n
theorem b__law_draw {W : Wd} (B : Bt W.mg) (F__law_blend : FnT W 1 "_law_blend" C__law_blend) : ∀ X : Cx, wd X = W → Cn X (defScope s__law_draw) ["tape", "size", "found"] 1 → ∀ ds τ d τ', C__law_draw ds τ d τ' → GSs X true (defBody s__law_draw) (entry ["tape", "size", "found"] (.tape :: ds.map .dat)) τ (Ret d τ') := by
  intro X hX c ds τ d τ' hC
  obtain ⟨n, rfl, hn, rfl, rfl⟩ := hC
  have n_tape : Nm X 0 "tape" := c.nm rfl (by decide +kernel) (by decide +kernel) (by decide +kernel)
  have n_size : Nm X 1 "size" := c.nm rfl (by decide +kernel) (by decide +kernel) (by decide +kernel)
  have n_found : Nm X 2 "found" := c.nm rfl (by decide +kernel) (by decide +kernel) (by decide +kernel)
  refine gss_is ?_ (by simp only [entry, List.map, List.length, List.cons_append, List.nil_append, List.replicate, Nat.reduceSub, Nat.reduceAdd] <;> exact rfl)
  refine gss_cut (fun Γ' τ' => Γ' = [.tape, .dat (.int n), .no] ∧ τ' = refill τ) (gs_if (gt_eqI (c).r (gt_get c.r n_tape rfl) ge_int) (fun hi0 => ?_) (fun hi0 => ?_)) ?_
  ·
    refine gss_cons ?_
    rcases hl : τ.large with _ | ⟨g, r⟩
    · exact gs_rest c.r n_tape rfl (ge_if (s := false) (o := .e (.int (mixAll τ))) (gt_is (gt_large c.r n_tape rfl) (by rw [hl]; rfl)) (fun z => by cases z) (fun _ => ge_callT (ft_of hX F__law_blend) (c.low (by decide)) ((c).g (by decide +kernel)) n_tape rfl ga_nil ⟨rfl, rfl, rfl⟩)) (gss_norm rfl (gss_nil ⟨rfl, by unfold refill; rw [if_pos (by simpa using hi0), hl]⟩))
    · exact gs_rest c.r n_tape rfl (ge_if (s := true) (o := .e (.int g)) (gt_is (gt_large c.r n_tape rfl) (by rw [hl]; rfl)) (fun _ => ge_popLarge c.r n_tape rfl hl) (fun z => by cases z)) (gss_norm rfl (gss_nil ⟨rfl, by unfold refill; rw [if_pos (by simpa using hi0), hl]⟩))
  ·
    refine gss_nil ?_
    exact ⟨rfl, by unfold refill; rw [if_neg (by simpa using hi0)]⟩
  intro Γ' τ' hM
  obtain ⟨rfl, rfl⟩ := hM
  refine gss_cons (gs_set (c).ndX (c.sm (i := 2) rfl (by decide +kernel)) (gv_e (ge_mod hn.1 (ge_intI (bt_of hX B) ((c).g (by decide +kernel)) (gt_get c.r n_tape rfl)) (ge_var n_size rfl))) ?_)
  refine gss_norm (by simp only [setSls, List.zip, List.zipWith, List.set_cons_zero, List.set_cons_succ] <;> exact rfl) ?_
  refine gss_cons (gs_rest c.r n_tape rfl (ge_fdiv hn (ge_intI (bt_of hX B) ((c).g (by decide +kernel)) (gt_get c.r n_tape rfl)) (ge_var n_size rfl)) ?_)
  refine gss_norm rfl ?_
  refine gss_cons (gs_ret (ge_var n_found rfl) ?_)
  exact ⟨rfl, rfl⟩
theorem p__law_draw {W : Wd} {f : Addr} {fd : FuncData} (B : Bt W.mg) (F__law_blend : FnT W 1 "_law_blend" C__law_blend) (F : Fun W.K "_law_draw" "_law_draw" s__law_draw f fd) (hb : Binds W.K fd ["tape", "size"] []) (hm : W.mg "_law_draw" = some (.ref f)) : FnT W 2 "_law_draw" C__law_draw :=
  fnT_of F sc__law_draw hb hm (fun ds τ d τ' h => by obtain ⟨n, rfl, hn, rfl, rfl⟩ := h; rfl) fun X hX c => b__law_draw B F__law_blend X hX c

abbrev s__law_pick : Stmt := topS 38
theorem sc__law_pick : FnScope ["tape", "several"] ["tape", "several"] (defScope s__law_pick) := ⟨rfl, rfl, rfl, by decide +kernel, rfl, by decide +kernel, by decide +kernel⟩
abbrev C__law_pick : List D → Tape → D → Tape → Prop := fun ds τ d τ' => ∃ xs : List D, ds = [.lst xs] ∧ xs ≠ [] ∧ xs.length < 1073741824 ∧ d = xs.getD (dr τ xs.length).toNat .non ∧ τ' = nx τ xs.length
theorem b__law_pick {W : Wd} (B : Bt W.mg) (F__law_draw : FnT W 2 "_law_draw" C__law_draw) : ∀ X : Cx, wd X = W → Cn X (defScope s__law_pick) ["tape", "several"] 2 → ∀ ds τ d τ', C__law_pick ds τ d τ' → GSs X true (defBody s__law_pick) (entry ["tape", "several"] (.tape :: ds.map .dat)) τ (Ret d τ') := by
  intro X hX c ds τ d τ' hC
  obtain ⟨xs, rfl, hne, hl, rfl, rfl⟩ := hC
  have hp : 0 < xs.length := List.length_pos_iff.mpr hne
  have n_tape : Nm X 0 "tape" := c.nm rfl (by decide +kernel) (by decide +kernel) (by decide +kernel)
  have n_several : Nm X 1 "several" := c.nm rfl (by decide +kernel) (by decide +kernel) (by decide +kernel)
  refine gss_is ?_ (by simp only [entry, List.map, List.length, List.cons_append, List.nil_append, List.replicate, Nat.reduceSub, Nat.reduceAdd] <;> exact rfl)
  refine gss_cons (gs_ret (ge_ixL (zs := []) (atI_getD (dr_lo (by omega)) (dr_hi (by omega))) (gl_of (ge_var n_several rfl)) (ge_callT (ft_of hX F__law_draw) ((c).low (by decide)) ((c).g (by decide +kernel)) n_tape rfl (ga_cons (ge_len (bt_of hX B) ((c).g (by decide +kernel)) (gl_of (ge_var n_several rfl))) ga_nil) ⟨_, rfl, (by omega), rfl, rfl⟩)) ?_)
  exact ⟨rfl, rfl⟩
theorem p__law_pick {W : Wd} {f : Addr} {fd : FuncData} (B : Bt W.mg) (F__law_draw : FnT W 2 "_law_draw" C__law_draw) (F : Fun W.K "_law_pick" "_law_pick" s__law_pick f fd) (hb : Binds W.K fd ["tape", "several"] []) (hm : W.mg "_law_pick" = some (.ref f)) : FnT W 3 "_law_pick" C__law_pick :=
  fnT_of F sc__law_pick hb hm (fun ds τ d τ' h => by obtain ⟨xs, rfl, hne, hl, rfl, rfl⟩ := h; rfl) fun X hX c => b__law_pick B F__law_draw X hX c

abbrev s__law_shuffled : Stmt := topS 39
theorem sc__law_shuffled : FnScope ["tape", "several", "left", "found"] ["tape", "several"] (defScope s__law_shuffled) := ⟨rfl, rfl, rfl, by decide +kernel, rfl, by decide +kernel, by decide +kernel⟩
abbrev C__law_shuffled : List D → Tape → D → Tape → Prop := fun ds τ d τ' => ∃ xs : List D, ds = [.lst xs] ∧ xs.length ≤ 1000 ∧ (∀ x ∈ xs, Sh true 11 x) ∧ d = .lst (shuf xs.length xs τ) ∧ τ' = shufT xs.length xs τ
theorem b__law_shuffled {W : Wd} (B : Bt W.mg) (F__law_draw : FnT W 2 "_law_draw" C__law_draw) : ∀ X : Cx, wd X = W → Cn X (defScope s__law_shuffled) ["tape", "several", "left", "found"] 2 → ∀ ds τ d τ', C__law_shuffled ds τ d τ' → GSs X true (defBody s__law_shuffled) (entry ["tape", "several", "left", "found"] (.tape :: ds.map .dat)) τ (Ret d τ') := by
  intro X hX c ds τ d τ' hC
  obtain ⟨xs, rfl, hl, hs, rfl, rfl⟩ := hC
  have n_tape : Nm X 0 "tape" := c.nm rfl (by decide +kernel) (by decide +kernel) (by decide +kernel)
  have n_several : Nm X 1 "several" := c.nm rfl (by decide +kernel) (by decide +kernel) (by decide +kernel)
  have n_left : Nm X 2 "left" := c.nm rfl (by decide +kernel) (by decide +kernel) (by decide +kernel)
  have n_found : Nm X 3 "found" := c.nm rfl (by decide +kernel) (by decide +kernel) (by decide +kernel)
  refine gss_is ?_ (by simp only [entry, List.map, List.length, List.cons_append, List.nil_append, List.replicate, Nat.reduceSub, Nat.reduceAdd] <;> exact rfl)
  refine gss_cons (gs_par2 (c).calm (c).ndX (by rw [(c).hN]; rfl) (by rw [(c).hN]; rfl) (by decide) ((c).l (by decide +kernel)) ((c).l (by decide +kernel)) (i := 2) (j := 3) (gvs_cons (gv_n (gn_list (bt_of hX B) ((c).g (by decide +kernel)) (gl_of (ge_var n_several rfl)))) (gvs_cons (gv_n (gn_lst ga_nil)) gvs_nil)) (swap2 c (by decide +kernel) (by decide +kernel) (by decide +kernel) (by decide +kernel)) ?_)
  refine gss_norm (by simp only [setSls, List.zip, List.zipWith, List.set_cons_zero, List.set_cons_succ] <;> exact rfl) ?_
  refine gss_cons (gs_while (c).xe (fun n Γ' τ' => ∃ ys zs : List D, ys.length = n ∧ zs.length + n = xs.length ∧ (∀ y ∈ ys, y ∈ xs) ∧ zs ++ shuf n ys τ' = shuf xs.length xs τ ∧ shufT n ys τ' = shufT xs.length xs τ ∧ Γ' = [.tape, .dat (.lst xs), .own ys, .own zs]) xs.length ?_ ?_)
  · exact ⟨xs, [], rfl, by simp, fun y h => h, rfl, rfl, rfl⟩
  · intro n Γ' τ' hI
    obtain ⟨ys, zs, e1, e2, hsub, e3, e4, rfl⟩ := hI
    subst e1
    refine ⟨_, _, (gt_neC (s := true) (n := 12) (c).r (by exact fun x hx => hs x (hsub x hx)) (by dsimp only [Opd.d]; exact shc) (by decide) (gl_own n_left rfl) (gl_new (gn_lst ga_nil))), fun hw => ?_, fun hw => ?_⟩
    · have hp : 0 < ys.length := by
            cases ys with
            | nil => simp [eqb_self, Opd.d] at hw
            | cons _ _ => simp
      refine gss_cons (gs_appendX n_found rfl (gx_popAt n_left rfl (ge_callT (ft_of hX F__law_draw) ((c).low (by decide)) ((c).g (by decide +kernel)) n_tape rfl (ga_cons (ge_len (bt_of hX B) ((c).g (by decide +kernel)) (gl_own n_left rfl)) ga_nil) ⟨_, rfl, (by omega), rfl, rfl⟩) (dr_lo (by omega)) rfl (List.getElem?_eq_getElem (dr_idx (by omega)))) rfl (by rw [sizeLine_val]; omega) ?_)
      refine gss_norm (by simp only [setSls, List.zip, List.zipWith, List.set_cons_zero, List.set_cons_succ] <;> exact rfl) ?_
      refine gss_nil ?_
      exact ⟨ys.length - 1, by omega, ys.eraseIdx _, zs ++ [_], by rw [List.length_eraseIdx, if_pos (dr_idx hp)], by simp; omega, fun y hy => hsub y (List.mem_of_mem_eraseIdx hy), by rw [← e3, shuf_step hp]; simp, by rw [← e4, shufT_step hp], rfl⟩
    ·
      have hy : ys = [] := by
                simpa [eqb_iff, Opd.d] using hw
      subst hy
      have e3 : zs = shuf xs.length xs τ := by simpa [shuf] using e3
      have e4 : τ' = shufT xs.length xs τ := e4
      subst e3 e4
      refine gss_norm rfl ?_
      refine gss_freeze 3 rfl ?_
      refine gss_is ?_ (by simp only [List.set_cons_zero, List.set_cons_succ] <;> exact rfl)
      refine gss_cons (gs_ret (ge_var n_found rfl) ?_)
      exact ⟨rfl, rfl⟩
theorem p__law_shuffled {W : Wd} {f : Addr} {fd : FuncData} (B : Bt W.mg) (F__law_draw : FnT W 2 "_law_draw" C__law_draw) (F : Fun W.K "_law_shuffled" "_law_shuffled" s__law_shuffled f fd) (hb : Binds W.K fd ["tape", "several"] []) (hm : W.mg "_law_shuffled" = some (.ref f)) : FnT W 3 "_law_shuffled" C__law_shuffled :=
  fnT_of F sc__law_shuffled hb hm (fun ds τ d τ' h => by obtain ⟨xs, rfl, hl, hs, rfl, rfl⟩ := h; rfl) fun X hX c => b__law_shuffled B F__law_draw X hX c
end PD

set_option Elab.async false
set_option linter.all false
set_option maxRecDepth 100000
set_option maxHeartbeats 2000000
namespace PD
open PySem PySem.Spec PyProof.Rows L2
abbrev s_is_number : Stmt := topS 8
theorem sc_is_number : FnScope ["thing"] ["thing"] (defScope s_is_number) := ⟨rfl, rfl, rfl, by decide +kernel, rfl, by decide +kernel, by decide +kernel⟩
abbrev C_is_number : List D → D → Prop := fun ds d => ∃ z : Int, ds = [.int z] ∧ d = .bl true
theorem b_is_number {W : Wd} (B : Bt W.mg) : ∀ X : Cx, wd X = W → Cn X (defScope s_is_number) ["thing"] 0 → ∀ ds d τ, C_is_number ds d → GSs X false (defBody s_is_number) (entry ["thing"] (ds.map .dat)) τ (Ret d τ) := by
  intro X hX c ds d τ hC
  obtain ⟨z, rfl, rfl⟩ := hC
  have n_thing : Nm X 0 "thing" := c.nm rfl (by decide +kernel) (by decide +kernel) (by decide +kernel)
  refine gss_is ?_ (by simp only [entry, List.map, List.length, List.cons_append, List.nil_append, List.replicate, Nat.reduceSub, Nat.reduceAdd] <;> exact rfl)
  refine gss_cons (gs_ret (ge_and (ge_isinst (T := "int") (q := true) (bt_of hX B) ((c).g (by decide +kernel)) ((c).g (by decide +kernel)) (bt_of hX B).int (by decide +kernel) rfl (by exact (show kitB "int" "int" = some true from by decide +kernel)) (ge_var n_thing rfl)) (fun hb1_0 => (ge_one (ge_not (ge_isinst (T := "bool") (q := false) (bt_of hX B) ((c).g (by decide +kernel)) ((c).g (by decide +kernel)) (bt_of hX B).bool (by decide +kernel) rfl (by exact (show kitB "int" "bool" = some false from by decide +kernel)) (ge_var n_thing rfl))))) (fun _ => rfl)) ?_)
  exact ⟨rfl, rfl⟩
theorem p_is_number {W : Wd} {f : Addr} {fd : FuncData} (B : Bt W.mg) (F : Fun W.K "is_number" "is_number" s_is_number f fd) (hb : Binds W.K fd ["thing"] []) (hm : W.mg "is_number" = some (.ref f)) : FnP W 1 "is_number" C_is_number :=
  fnP_of F sc_is_number hb hm (fun ds d h => by obtain ⟨z, rfl, rfl⟩ := h; rfl) fun X hX c => b_is_number B X hX c

abbrev s_is_between : Stmt := topS 9
theorem sc_is_between : FnScope ["thing", "low", "high"] ["thing", "low", "high"] (defScope s_is_between) := ⟨rfl, rfl, rfl, by decide +kernel, rfl, by decide +kernel, by decide +kernel⟩
abbrev C_is_between : List D → D → Prop := fun ds d => ∃ z lo hi : Int, ds = [.int z, .int lo, .int hi] ∧ d = .bl (decide (lo ≤ z) && decide (z ≤ hi))
theorem b_is_between {W : Wd} (B : Bt W.mg) (F_is_number : FnP W 1 "is_number" C_is_number) : ∀ X : Cx, wd X = W → Cn X (defScope s_is_between) ["thing", "low", "high"] 1 → ∀ ds d τ, C_is_between ds d → GSs X false (defBody s_is_between) (entry ["thing", "low", "high"] (ds.map .dat)) τ (Ret d τ) := by
  intro X hX c ds d τ hC
  obtain ⟨z, lo, hi, rfl, rfl⟩ := hC
  have n_thing : Nm X 0 "thing" := c.nm rfl (by decide +kernel) (by decide +kernel) (by decide +kernel)
  have n_low : Nm X 1 "low" := c.nm rfl (by decide +kernel) (by decide +kernel) (by decide +kernel)
  have n_high : Nm X 2 "high" := c.nm rfl (by decide +kernel) (by decide +kernel) (by decide +kernel)
  refine gss_is ?_ (by simp only [entry, List.map, List.length, List.cons_append, List.nil_append, List.replicate, Nat.reduceSub, Nat.reduceAdd] <;> exact rfl)
  refine gss_cons (gs_ret (ge_and (ge_call (fp_of hX F_is_number) ((c).low (by decide)) ((c).g (by decide +kernel)) ⟨_, rfl, rfl⟩ (ga_cons (ge_var n_thing rfl) ga_nil)) (fun hb1_0 => (ge_one (ge_chain op_le op_le rg_le (fun _ => rg_le) (by with_unfolding_all rfl) (ge_var n_low rfl) (ge_var n_thing rfl) (fun _ => (ge_var n_high rfl)) (fun _ => rfl)))) (fun _ => rfl)) ?_)
  exact ⟨by simp, rfl⟩
theorem p_is_between {W : Wd} {f : Addr} {fd : FuncData} (B : Bt W.mg) (F_is_number : FnP W 1 "is_number" C_is_number) (F : Fun W.K "is_between" "is_between" s_is_between f fd) (hb : Binds W.K fd ["thing", "low", "high"] []) (hm : W.mg "is_between" = some (.ref f)) : FnP W 2 "is_between" C_is_between :=
  fnP_of F sc_is_between hb hm (fun ds d h => by obtain ⟨z, lo, hi, rfl, rfl⟩ := h; rfl) fun X hX c => b_is_between B F_is_number X hX c

abbrev s_is_list : Stmt := topS 10
theorem sc_is_list : FnScope ["thing"] ["thing"] (defScope s_is_list) := ⟨rfl, rfl, rfl, by decide +kernel, rfl, by decide +kernel, by decide +kernel⟩
abbrev C_is_list : List D → D → Prop := fun ds d => ∃ b xs, ds = [sq b xs] ∧ d = .bl true
theorem b_is_list {W : Wd} (B : Bt W.mg) : ∀ X : Cx, wd X = W → Cn X (defScope s_is_list) ["thing"] 0 → ∀ ds d τ, C_is_list ds d → GSs X false (defBody s_is_list) (entry ["thing"] (ds.map .dat)) τ (Ret d τ) := by
  intro X hX c ds d τ hC
  obtain ⟨b, xs, rfl, rfl⟩ := hC
  have n_thing : Nm X 0 "thing" := c.nm rfl (by decide +kernel) (by decide +kernel) (by decide +kernel)
  refine gss_is ?_ (by simp only [entry, List.map, List.length, List.cons_append, List.nil_append, List.replicate, Nat.reduceSub, Nat.reduceAdd] <;> exact rfl)
  refine gss_cons (gs_ret (ge_isLT (bt_of hX B) ((c).g (by decide +kernel)) ((c).g (by decide +kernel)) ((c).g (by decide +kernel)) (ge_var n_thing rfl)) ?_)
  exact ⟨rfl, rfl⟩
theorem p_is_list {W : Wd} {f : Addr} {fd : FuncData} (B : Bt W.mg) (F : Fun W.K "is_list" "is_list" s_is_list f fd) (hb : Binds W.K fd ["thing"] []) (hm : W.mg "is_list" = some (.ref f)) : FnP W 1 "is_list" C_is_list :=
  fnP_of F sc_is_list hb hm (fun ds d h => by obtain ⟨b, xs, rfl, rfl⟩ := h; rfl) fun X hX c => b_is_list B X hX c

abbrev s_need_between : Stmt := topS 12
theorem sc_need_between : FnScope ["thing", "low", "high", "part"] ["thing", "low", "high", "part"] (defScope s_need_between) := ⟨rfl, rfl, rfl, by decide +kernel, rfl, by decide +kernel, by decide +kernel⟩
abbrev C_need_between : List D → D → Prop := fun ds d => ∃ (z lo hi : Int) (p : Str), ds = [.int z, .int lo, .int hi, .str p] ∧ lo ≤ z ∧ z ≤ hi ∧ d = .non
theorem b_need_between {W : Wd} (B : Bt W.mg) (F_is_between : FnP W 2 "is_between" C_is_between) : ∀ X : Cx, wd X = W → Cn X (defScope s_need_between) ["thing", "low", "high", "part"] 2 → ∀ ds d τ, C_need_between ds d → GSs X false (defBody s_need_between) (entry ["thing", "low", "high", "part"] (ds.map .dat)) τ (Ret d τ) := by
  intro X hX c ds d τ hC
  obtain ⟨z, lo, hi, p, rfl, h1, h2, rfl⟩ := hC
  have n_thing : Nm X 0 "thing" := c.nm rfl (by decide +kernel) (by decide +kernel) (by decide +kernel)
  have n_low : Nm X 1 "low" := c.nm rfl (by decide +kernel) (by decide +kernel) (by decide +kernel)
  have n_high : Nm X 2 "high" := c.nm rfl (by decide +kernel) (by decide +kernel) (by decide +kernel)
  have n_part : Nm X 3 "part" := c.nm rfl (by decide +kernel) (by decide +kernel) (by decide +kernel)
  refine gss_is ?_ (by simp only [entry, List.map, List.length, List.cons_append, List.nil_append, List.replicate, Nat.reduceSub, Nat.reduceAdd] <;> exact rfl)
  refine gss_cons (gs_ifF (gt_not (gt_val (ge_call (fp_of hX F_is_between) ((c).low (by decide)) ((c).g (by decide +kernel)) ⟨_, _, _, rfl, rfl⟩ (ga_cons (ge_var n_thing rfl) (ga_cons (ge_var n_low rfl) (ga_cons (ge_var n_high rfl) ga_nil)))))) ?_ ?_)
  · simp [h1, h2]
  refine gss_nil ?_
  refine gss_norm rfl ?_
  refine gss_nil ?_
  exact ⟨rfl, rfl⟩
theorem p_need_between {W : Wd} {f : Addr} {fd : FuncData} (B : Bt W.mg) (F_is_between : FnP W 2 "is_between" C_is_between) (F : Fun W.K "need_between" "need_between" s_need_between f fd) (hb : Binds W.K fd ["thing", "low", "high", "part"] []) (hm : W.mg "need_between" = some (.ref f)) : FnP W 3 "need_between" C_need_between :=
  fnP_of F sc_need_between hb hm (fun ds d h => by obtain ⟨z, lo, hi, p, rfl, h1, h2, rfl⟩ := h; rfl) fun X hX c => b_need_between B F_is_between X hX c

abbrev s_is_short_list : Stmt := topS 13
theorem sc_is_short_list : FnScope ["thing", "most"] ["thing", "most"] (defScope s_is_short_list) := ⟨rfl, rfl, rfl, by decide +kernel, rfl, by decide +kernel, by decide +kernel⟩
abbrev C_is_short_list : List D → D → Prop := fun ds d => ∃ b xs, ∃ m : Int, ds = [sq b xs, .int m] ∧ (xs.length : Int) ≤ m ∧ d = .bl true
theorem b_is_short_list {W : Wd} (B : Bt W.mg) (F_is_list : FnP W 1 "is_list" C_is_list) : ∀ X : Cx, wd X = W → Cn X (defScope s_is_short_list) ["thing", "most"] 1 → ∀ ds d τ, C_is_short_list ds d → GSs X false (defBody s_is_short_list) (entry ["thing", "most"] (ds.map .dat)) τ (Ret d τ) := by
  intro X hX c ds d τ hC
  obtain ⟨b, xs, m, rfl, h1, rfl⟩ := hC
  have n_thing : Nm X 0 "thing" := c.nm rfl (by decide +kernel) (by decide +kernel) (by decide +kernel)
  have n_most : Nm X 1 "most" := c.nm rfl (by decide +kernel) (by decide +kernel) (by decide +kernel)
  refine gss_is ?_ (by simp only [entry, List.map, List.length, List.cons_append, List.nil_append, List.replicate, Nat.reduceSub, Nat.reduceAdd] <;> exact rfl)
  refine gss_cons (gs_ret (ge_and (ge_call (fp_of hX F_is_list) ((c).low (by decide)) ((c).g (by decide +kernel)) ⟨_, _, rfl, rfl⟩ (ga_cons (ge_var n_thing rfl) ga_nil)) (fun hb1_0 => (ge_one (ge_le (ge_lenQ (bt_of hX B) ((c).g (by decide +kernel)) (ge_var n_thing rfl)) (ge_var n_most rfl)))) (fun _ => rfl)) ?_)
  exact ⟨by simp [h1], rfl⟩
theorem p_is_short_list {W : Wd} {f : Addr} {fd : FuncData} (B : Bt W.mg) (F_is_list : FnP W 1 "is_list" C_is_list) (F : Fun W.K "is_short_list" "is_short_list" s_is_short_list f fd) (hb : Binds W.K fd ["thing", "most"] []) (hm : W.mg "is_short_list" = some (.ref f)) : FnP W 2 "is_short_list" C_is_short_list :=
  fnP_of F sc_is_short_list hb hm (fun ds d h => by obtain ⟨b, xs, m, rfl, h1, rfl⟩ := h; rfl) fun X hX c => b_is_short_list B F_is_list X hX c

abbrev s_first_wrong : Stmt := topS 14
theorem sc_first_wrong : FnScope ["several", "low", "high", "index", "item"] ["several", "low", "high"] (defScope s_first_wrong) := ⟨rfl, rfl, rfl, by decide +kernel, rfl, by decide +kernel, by decide +kernel⟩
abbrev C_first_wrong : List D → D → Prop := fun ds d => ∃ b, ∃ (as : List Int) (lo hi : Int), ds = [sq b (as.map .int), .int lo, .int hi] ∧ (∀ a ∈ as, lo ≤ a ∧ a ≤ hi) ∧ d = .non
theorem b_first_wrong {W : Wd} (B : Bt W.mg) (F_is_between : FnP W 2 "is_between" C_is_between) : ∀ X : Cx, wd X = W → Cn X (defScope s_first_wrong) ["several", "low", "high", "index", "item"] 2 → ∀ ds d τ, C_first_wrong ds d → GSs X false (defBody s_first_wrong) (entry ["several", "low", "high", "index", "item"] (ds.map .dat)) τ (Ret d τ) := by
  intro X hX c ds d τ hC
  obtain ⟨b, as, lo, hi, rfl, hr, rfl⟩ := hC
  have n_several : Nm X 0 "several" := c.nm rfl (by decide +kernel) (by decide +kernel) (by decide +kernel)
  have n_low : Nm X 1 "low" := c.nm rfl (by decide +kernel) (by decide +kernel) (by decide +kernel)
  have n_high : Nm X 2 "high" := c.nm rfl (by decide +kernel) (by decide +kernel) (by decide +kernel)
  have n_index : Nm X 3 "index" := c.nm rfl (by decide +kernel) (by decide +kernel) (by decide +kernel)
  have n_item : Nm X 4 "item" := c.nm rfl (by decide +kernel) (by decide +kernel) (by decide +kernel)
  refine gss_is ?_ (by simp only [entry, List.map, List.length, List.cons_append, List.nil_append, List.replicate, Nat.reduceSub, Nat.reduceAdd] <;> exact rfl)
  refine gss_cons (gs_for (c).xe (c).calm (gi_enumQ (bt_of hX B) ((c).g (by decide +kernel)) (ge_var n_several rfl)) (fun rest Γ' τ' => ∃ (xs : List Int) (k : Nat) (s3 s4 : Sl), rest = enumD k (xs.map .int) ∧ (∀ a ∈ xs, lo ≤ a ∧ a ≤ hi) ∧ Γ' = [.dat (sq b (as.map .int)), .dat (.int lo), .dat (.int hi), s3, s4] ∧ τ' = τ) ?_ ?_ ?_)
  · exact ⟨as, 0, _, _, rfl, hr, rfl, rfl⟩
  · intro d rest Γ' τ' hI
    obtain ⟨xs, k, s3, s4, e, hr, rfl, rfl⟩ := hI
    obtain ⟨x, xs', e1, rfl, rfl⟩ := enumD_cons_inv e
    obtain ⟨a, as', rfl, rfl, rfl⟩ := map_cons_inv e1.symm
    refine ⟨_, [3, 4], (gg_tup (c).calm (ggs_cons (gg_name (c).ndX (c.sm (i := 3) rfl (by decide +kernel)) (by simp)) (ggs_cons (gg_name (c).ndX (c.sm (i := 4) rfl (by decide +kernel)) (by simp)) ggs_nil))), ?_⟩
    refine gss_is ?_ (by simp only [List.set_cons_zero, List.set_cons_succ] <;> exact rfl)
    refine gss_cons (gs_ifF (gt_not (gt_val (ge_call (fp_of hX F_is_between) ((c).low (by decide)) ((c).g (by decide +kernel)) ⟨_, _, _, rfl, rfl⟩ (ga_cons (ge_var n_item rfl) (ga_cons (ge_var n_low rfl) (ga_cons (ge_var n_high rfl) ga_nil)))))) ?_ ?_)
    · simp [hr a List.mem_cons_self]
    refine gss_nil ?_
    refine gss_norm rfl ?_
    refine gss_nil ?_
    exact ⟨as', k + 1, _, _, rfl, fun x hx => hr x (List.mem_cons_of_mem _ hx), rfl, rfl⟩
  · intro Γ' τ' hI
    obtain ⟨xs, k, s3, s4, e, hr, rfl, rfl⟩ := hI
    refine gss_norm rfl ?_
    refine gss_cons (gs_ret ge_non ?_)
    exact ⟨rfl, rfl⟩
theorem p_first_wrong {W : Wd} {f : Addr} {fd : FuncData} (B : Bt W.mg) (F_is_between : FnP W 2 "is_between" C_is_between) (F : Fun W.K "first_wrong" "first_wrong" s_first_wrong f fd) (hb : Binds W.K fd ["several", "low", "high"] []) (hm : W.mg "first_wrong" = some (.ref f)) : FnP W 3 "first_wrong" C_first_wrong :=
  fnP_of F sc_first_wrong hb hm (fun ds d h => by obtain ⟨b, as, lo, hi, rfl, hr, rfl⟩ := h; rfl) fun X hX c => b_first_wrong B F_is_between X hX c

abbrev s_rounded_up : Stmt := topS 15
theorem sc_rounded_up : FnScope ["number", "by"] ["number", "by"] (defScope s_rounded_up) := ⟨rfl, rfl, rfl, by decide +kernel, rfl, by decide +kernel, by decide +kernel⟩
abbrev C_rounded_up : List D → D → Prop := fun ds d => ∃ z w : Int, ds = [.int z, .int w] ∧ (0 < w ∧ w < 1073741824) ∧ d = .int ((z + w - 1) / w)
theorem b_rounded_up {W : Wd} (B : Bt W.mg) : ∀ X : Cx, wd X = W → Cn X (defScope s_rounded_up) ["number", "by"] 0 → ∀ ds d τ, C_rounded_up ds d → GSs X false (defBody s_rounded_up) (entry ["number", "by"] (ds.map .dat)) τ (Ret d τ) := by
  intro X hX c ds d τ hC
  obtain ⟨z, w, rfl, hw, rfl⟩ := hC
  have n_number : Nm X 0 "number" := c.nm rfl (by decide +kernel) (by decide +kernel) (by decide +kernel)
  have n_by : Nm X 1 "by" := c.nm rfl (by decide +kernel) (by decide +kernel) (by decide +kernel)
  refine gss_is ?_ (by simp only [entry, List.map, List.length, List.cons_append, List.nil_append, List.replicate, Nat.reduceSub, Nat.reduceAdd] <;> exact rfl)
  refine gss_cons (gs_ret (ge_fdiv hw (ge_sub (ge_add (ge_var n_number rfl) (ge_var n_by rfl)) ge_int) (ge_var n_by rfl)) ?_)
  exact ⟨rfl, rfl⟩
theorem p_rounded_up {W : Wd} {f : Addr} {fd : FuncData} (B : Bt W.mg) (F : Fun W.K "rounded_up" "rounded_up" s_rounded_up f fd) (hb : Binds W.K fd ["number", "by"] []) (hm : W.mg "rounded_up" = some (.ref f)) : FnP W 1 "rounded_up" C_rounded_up :=
  fnP_of F sc_rounded_up hb hm (fun ds d h => by obtain ⟨z, w, rfl, hw, rfl⟩ := h; rfl) fun X hX c => b_rounded_up B X hX c

abbrev s_need_arrivals : Stmt := topS 20
theorem sc_need_arrivals : FnScope ["arrivals", "index"] ["arrivals"] (defScope s_need_arrivals) := ⟨rfl, rfl, rfl, by decide +kernel, rfl, by decide +kernel, by decide +kernel⟩
abbrev C_need_arrivals : List D → D → Prop := fun ds d => ∃ b as, ds = [sq b (as.map .int)] ∧ AOk as ∧ d = .non
theorem b_need_arrivals {W : Wd} (B : Bt W.mg) (mg_MOST_COMING : CInt W "MOST_COMING" 1000000) (mg_MOST_TICKS : CInt W "MOST_TICKS" 400) (F_first_wrong : FnP W 3 "first_wrong" C_first_wrong) (F_is_short_list : FnP W 2 "is_short_list" C_is_short_list) : ∀ X : Cx, wd X = W → Cn X (defScope s_need_arrivals) ["arrivals", "index"] 3 → ∀ ds d τ, C_need_arrivals ds d → GSs X false (defBody s_need_arrivals) (entry ["arrivals", "index"] (ds.map .dat)) τ (Ret d τ) := by
  intro X hX c ds d τ hC
  obtain ⟨b, as, rfl, ha, rfl⟩ := hC
  have hl : (as.length : Int) ≤ 400 := by have := ha.len; omega
  have hr := ha.rng
  have n_arrivals : Nm X 0 "arrivals" := c.nm rfl (by decide +kernel) (by decide +kernel) (by decide +kernel)
  have n_index : Nm X 1 "index" := c.nm rfl (by decide +kernel) (by decide +kernel) (by decide +kernel)
  refine gss_is ?_ (by simp only [entry, List.map, List.length, List.cons_append, List.nil_append, List.replicate, Nat.reduceSub, Nat.reduceAdd] <;> exact rfl)
  refine gss_cons (gs_ifF (gt_not (gt_val (ge_call (fp_of hX F_is_short_list) ((c).low (by decide)) ((c).g (by decide +kernel)) ⟨_, _, _, rfl, (by simpa using hl), rfl⟩ (ga_cons (ge_var n_arrivals rfl) (ga_cons (ge_globC hX ((c).g (by decide +kernel)) mg_MOST_TICKS) ga_nil))))) ?_ ?_)
  · rfl
  refine gss_nil ?_
  refine gss_norm rfl ?_
  refine gss_cons (gs_set (c).ndX (c.sm (i := 1) rfl (by decide +kernel)) (gv_e (ge_call (fp_of hX F_first_wrong) ((c).low (by decide)) ((c).g (by decide +kernel)) ⟨_, _, _, _, rfl, hr, rfl⟩ (ga_cons (ge_var n_arrivals rfl) (ga_cons ge_int (ga_cons (ge_globC hX ((c).g (by decide +kernel)) mg_MOST_COMING) ga_nil))))) ?_)
  refine gss_norm (by simp only [setSls, List.zip, List.zipWith, List.set_cons_zero, List.set_cons_succ] <;> exact rfl) ?_
  refine gss_cons (gs_ifF (gt_notN (ge_var n_index rfl)) ?_ ?_)
  · rfl
  refine gss_nil ?_
  refine gss_norm rfl ?_
  refine gss_nil ?_
  exact ⟨rfl, rfl⟩
theorem p_need_arrivals {W : Wd} {f : Addr} {fd : FuncData} (B : Bt W.mg) (mg_MOST_COMING : CInt W "MOST_COMING" 1000000) (mg_MOST_TICKS : CInt W "MOST_TICKS" 400) (F_first_wrong : FnP W 3 "first_wrong" C_first_wrong) (F_is_short_list : FnP W 2 "is_short_list" C_is_short_list) (F : Fun W.K "need_arrivals" "need_arrivals" s_need_arrivals f fd) (hb : Binds W.K fd ["arrivals"] []) (hm : W.mg "need_arrivals" = some (.ref f)) : FnP W 4 "need_arrivals" C_need_arrivals :=
  fnP_of F sc_need_arrivals hb hm (fun ds d h => by obtain ⟨b, as, rfl, ha, rfl⟩ := h; rfl) fun X hX c => b_need_arrivals B mg_MOST_COMING mg_MOST_TICKS F_first_wrong F_is_short_list X hX c

abbrev s_need_queue : Stmt := topS 21
theorem sc_need_queue : FnScope ["arrivals", "size", "rate"] ["arrivals", "size", "rate"] (defScope s_need_queue) := ⟨rfl, rfl, rfl, by decide +kernel, rfl, by decide +kernel, by decide +kernel⟩
abbrev C_need_queue : List D → D → Prop := fun ds d => ∃ b as, ∃ s r : Int, ds = [sq b (as.map .int), .int s, .int r] ∧ QOk as s r ∧ d = .non
theorem b_need_queue {W : Wd} (B : Bt W.mg) (mg_MOST_COMING : CInt W "MOST_COMING" 1000000) (F_need_arrivals : FnP W 4 "need_arrivals" C_need_arrivals) (F_need_between : FnP W 3 "need_between" C_need_between) : ∀ X : Cx, wd X = W → Cn X (defScope s_need_queue) ["arrivals", "size", "rate"] 4 → ∀ ds d τ, C_need_queue ds d → GSs X false (defBody s_need_queue) (entry ["arrivals", "size", "rate"] (ds.map .dat)) τ (Ret d τ) := by
  intro X hX c ds d τ hC
  obtain ⟨b, as, s, r, rfl, hq, rfl⟩ := hC
  have ha := hq.a
  have h3 := hq.hs
  have h4 := hq.hr
  have n_arrivals : Nm X 0 "arrivals" := c.nm rfl (by decide +kernel) (by decide +kernel) (by decide +kernel)
  have n_size : Nm X 1 "size" := c.nm rfl (by decide +kernel) (by decide +kernel) (by decide +kernel)
  have n_rate : Nm X 2 "rate" := c.nm rfl (by decide +kernel) (by decide +kernel) (by decide +kernel)
  refine gss_is ?_ (by simp only [entry, List.map, List.length, List.cons_append, List.nil_append, List.replicate, Nat.reduceSub, Nat.reduceAdd] <;> exact rfl)
  refine gss_cons (gs_expr (ge_call (fp_of hX F_need_arrivals) ((c).low (by decide)) ((c).g (by decide +kernel)) ⟨_, _, rfl, ha, rfl⟩ (ga_cons (ge_var n_arrivals rfl) ga_nil)) ?_)
  refine gss_norm rfl ?_
  refine gss_cons (gs_expr (ge_call (fp_of hX F_need_between) ((c).low (by decide)) ((c).g (by decide +kernel)) ⟨_, _, _, _, rfl, (by omega), (by omega), rfl⟩ (ga_cons (ge_var n_size rfl) (ga_cons ge_int (ga_cons (ge_globC hX ((c).g (by decide +kernel)) mg_MOST_COMING) (ga_cons ge_str ga_nil))))) ?_)
  refine gss_norm rfl ?_
  refine gss_cons (gs_expr (ge_call (fp_of hX F_need_between) ((c).low (by decide)) ((c).g (by decide +kernel)) ⟨_, _, _, _, rfl, (by omega), (by omega), rfl⟩ (ga_cons (ge_var n_rate rfl) (ga_cons ge_int (ga_cons (ge_var n_size rfl) (ga_cons ge_str ga_nil))))) ?_)
  refine gss_norm rfl ?_
  refine gss_nil ?_
  exact ⟨rfl, rfl⟩
theorem p_need_queue {W : Wd} {f : Addr} {fd : FuncData} (B : Bt W.mg) (mg_MOST_COMING : CInt W "MOST_COMING" 1000000) (F_need_arrivals : FnP W 4 "need_arrivals" C_need_arrivals) (F_need_between : FnP W 3 "need_between" C_need_between) (F : Fun W.K "need_queue" "need_queue" s_need_queue f fd) (hb : Binds W.K fd ["arrivals", "size", "rate"] []) (hm : W.mg "need_queue" = some (.ref f)) : FnP W 5 "need_queue" C_need_queue :=
  fnP_of F sc_need_queue hb hm (fun ds d h => by obtain ⟨b, as, s, r, rfl, hq, rfl⟩ := h; rfl) fun X hX c => b_need_queue B mg_MOST_COMING F_need_arrivals F_need_between X hX c

abbrev s_led_queue : Stmt := topS 22
theorem sc_led_queue : FnScope ["arrivals", "size", "rate", "tokens", "waiting", "found", "coming", "out"] ["arrivals", "size", "rate"] (defScope s_led_queue) := ⟨rfl, rfl, rfl, by decide +kernel, rfl, by decide +kernel, by decide +kernel⟩
abbrev C_led_queue : List D → D → Prop := fun ds d => ∃ b as, ∃ s r : Int, ds = [sq b (as.map .int), .int s, .int r] ∧ as.length ≤ 1000 ∧ d = .lst ((ledQ s r s 0 as).map tri)
theorem b_led_queue {W : Wd} (B : Bt W.mg) : ∀ X : Cx, wd X = W → Cn X (defScope s_led_queue) ["arrivals", "size", "rate", "tokens", "waiting", "found", "coming", "out"] 0 → ∀ ds d τ, C_led_queue ds d → GSs X false (defBody s_led_queue) (entry ["arrivals", "size", "rate", "tokens", "waiting", "found", "coming", "out"] (ds.map .dat)) τ (Ret d τ) := by
  intro X hX c ds d τ hC
  obtain ⟨b, as, s, r, rfl, hl, rfl⟩ := hC
  have n_arrivals : Nm X 0 "arrivals" := c.nm rfl (by decide +kernel) (by decide +kernel) (by decide +kernel)
  have n_size : Nm X 1 "size" := c.nm rfl (by decide +kernel) (by decide +kernel) (by decide +kernel)
  have n_rate : Nm X 2 "rate" := c.nm rfl (by decide +kernel) (by decide +kernel) (by decide +kernel)
  have n_tokens : Nm X 3 "tokens" := c.nm rfl (by decide +kernel) (by decide +kernel) (by decide +kernel)
  have n_waiting : Nm X 4 "waiting" := c.nm rfl (by decide +kernel) (by decide +kernel) (by decide +kernel)
  have n_found : Nm X 5 "found" := c.nm rfl (by decide +kernel) (by decide +kernel) (by decide +kernel)
  have n_coming : Nm X 6 "coming" := c.nm rfl (by decide +kernel) (by decide +kernel) (by decide +kernel)
  have n_out : Nm X 7 "out" := c.nm rfl (by decide +kernel) (by decide +kernel) (by decide +kernel)
  refine gss_is ?_ (by simp only [entry, List.map, List.length, List.cons_append, List.nil_append, List.replicate, Nat.reduceSub, Nat.reduceAdd] <;> exact rfl)
  refine gss_cons (gs_par3 (c).calm (c).ndX (by rw [(c).hN]; rfl) (by rw [(c).hN]; rfl) (by rw [(c).hN]; rfl) (by decide) (by decide) (by decide) ((c).l (by decide +kernel)) ((c).l (by decide +kernel)) ((c).l (by decide +kernel)) (i := 3) (j := 4) (l := 5) (gvs_cons (gv_e (ge_var n_size rfl)) (gvs_cons (gv_e ge_int) (gvs_cons (gv_n (gn_lst ga_nil)) gvs_nil))) (swap3 c (by decide +kernel) (by decide +kernel) (by decide +kernel) (by decide +kernel) (by decide +kernel)) ?_)
  refine gss_norm (by simp only [setSls, List.zip, List.zipWith, List.set_cons_zero, List.set_cons_succ] <;> exact rfl) ?_
  refine gss_cons (gs_for (c).xe (c).calm (gi_seq (ge_var n_arrivals rfl)) (fun rest Γ' τ' => ∃ (xs : List Int) (t w : Int) (zs : List D) (s6 s7 : Sl), rest = xs.map .int ∧ zs ++ (ledQ s r t w xs).map tri = (ledQ s r s 0 as).map tri ∧ zs.length + xs.length = as.length ∧ Γ' = [.dat (sq b (as.map .int)), .dat (.int s), .dat (.int r), .dat (.int t), .dat (.int w), .own zs, s6, s7] ∧ τ' = τ) ?_ ?_ ?_)
  · exact ⟨as, s, 0, [], _, _, rfl, rfl, by simp, rfl, rfl⟩
  · intro d rest Γ' τ' hI
    obtain ⟨xs, t, w, zs, s6, s7, e, e2, e3, rfl, rfl⟩ := hI
    obtain ⟨a, xs, rfl, rfl, rfl⟩ := map_cons_inv e
    simp only [List.length_cons] at e3
    refine ⟨_, [6], (gg_name (c).ndX (c.sm (i := 6) rfl (by decide +kernel)) (by simp)), ?_⟩
    refine gss_is ?_ (by simp only [List.set_cons_zero, List.set_cons_succ] <;> exact rfl)
    refine gss_cons (gs_set (c).ndX (c.sm (i := 3) rfl (by decide +kernel)) (gv_e (ge_min2 (bt_of hX B) (c).calm ((c).g (by decide +kernel)) (ge_var n_size rfl) (ge_add (ge_var n_tokens rfl) (ge_var n_rate rfl)))) ?_)
    refine gss_norm (by simp only [setSls, List.zip, List.zipWith, List.set_cons_zero, List.set_cons_succ] <;> exact rfl) ?_
    refine gss_cons (gs_set (c).ndX (c.sm (i := 4) rfl (by decide +kernel)) (gv_e (ge_add (ge_var n_waiting rfl) (ge_var n_coming rfl))) ?_)
    refine gss_norm (by simp only [setSls, List.zip, List.zipWith, List.set_cons_zero, List.set_cons_succ] <;> exact rfl) ?_
    refine gss_cons (gs_set (c).ndX (c.sm (i := 7) rfl (by decide +kernel)) (gv_e (ge_min2 (bt_of hX B) (c).calm ((c).g (by decide +kernel)) (ge_var n_tokens rfl) (ge_var n_waiting rfl))) ?_)
    refine gss_norm (by simp only [setSls, List.zip, List.zipWith, List.set_cons_zero, List.set_cons_succ] <;> exact rfl) ?_
    refine gss_cons (gs_par2 (c).calm (c).ndX (by rw [(c).hN]; rfl) (by rw [(c).hN]; rfl) (by decide) ((c).l (by decide +kernel)) ((c).l (by decide +kernel)) (i := 3) (j := 4) (gvs_cons (gv_e (ge_sub (ge_var n_tokens rfl) (ge_var n_out rfl))) (gvs_cons (gv_e (ge_sub (ge_var n_waiting rfl) (ge_var n_out rfl))) gvs_nil)) (swap2 c (by decide +kernel) (by decide +kernel) (by decide +kernel) (by decide +kernel)) ?_)
    refine gss_norm (by simp only [setSls, List.zip, List.zipWith, List.set_cons_zero, List.set_cons_succ] <;> exact rfl) ?_
    refine gss_cons (gs_append n_found rfl (ge_tup (ga_cons (ge_var n_tokens rfl) (ga_cons (ge_var n_waiting rfl) (ga_cons (ge_var n_out rfl) ga_nil)))) (by rw [sizeLine_val]; omega) ?_)
    refine gss_norm (by simp only [setSls, List.zip, List.zipWith, List.set_cons_zero, List.set_cons_succ] <;> exact rfl) ?_
    refine gss_nil ?_
    exact ⟨xs, _, _, _, _, _, rfl, by rw [← e2]; simp [ledQ, tri], by simp; omega, rfl, rfl⟩
  · intro Γ' τ' hI
    obtain ⟨xs, t, w, zs, s6, s7, e, e2, e3, rfl, rfl⟩ := hI
    obtain rfl := map_nil_inv e
    simp only [ledQ, List.map_nil, List.append_nil] at e2
    refine gss_norm rfl ?_
    refine gss_freeze 5 rfl ?_
    refine gss_is ?_ (by simp only [List.set_cons_zero, List.set_cons_succ] <;> exact rfl)
    refine gss_cons (gs_ret (ge_var n_found rfl) ?_)
    exact ⟨by rw [e2], rfl⟩
theorem p_led_queue {W : Wd} {f : Addr} {fd : FuncData} (B : Bt W.mg) (F : Fun W.K "led_queue" "led_queue" s_led_queue f fd) (hb : Binds W.K fd ["arrivals", "size", "rate"] []) (hm : W.mg "led_queue" = some (.ref f)) : FnP W 1 "led_queue" C_led_queue :=
  fnP_of F sc_led_queue hb hm (fun ds d h => by obtain ⟨b, as, s, r, rfl, hl, rfl⟩ := h; rfl) fun X hX c => b_led_queue B X hX c

abbrev s_queued : Stmt := topS 23
theorem sc_queued : FnScope ["arrivals", "size", "rate"] ["arrivals", "size", "rate"] (defScope s_queued) := ⟨rfl, rfl, rfl, by decide +kernel, rfl, by decide +kernel, by decide +kernel⟩
abbrev C_queued : List D → D → Prop := fun ds d => ∃ b as, ∃ s r : Int, ds = [sq b (as.map .int), .int s, .int r] ∧ QOk as s r ∧ d = .lst ((ledQ s r s 0 as).map tri)
theorem b_queued {W : Wd} (B : Bt W.mg) (F_need_queue : FnP W 5 "need_queue" C_need_queue) (F_led_queue : FnP W 1 "led_queue" C_led_queue) : ∀ X : Cx, wd X = W → Cn X (defScope s_queued) ["arrivals", "size", "rate"] 5 → ∀ ds d τ, C_queued ds d → GSs X false (defBody s_queued) (entry ["arrivals", "size", "rate"] (ds.map .dat)) τ (Ret d τ) := by
  intro X hX c ds d τ hC
  obtain ⟨b, as, s, r, rfl, hq, rfl⟩ := hC
  have hl : as.length ≤ 1000 := Nat.le_trans hq.a.len (by decide)
  have n_arrivals : Nm X 0 "arrivals" := c.nm rfl (by decide +kernel) (by decide +kernel) (by decide +kernel)
  have n_size : Nm X 1 "size" := c.nm rfl (by decide +kernel) (by decide +kernel) (by decide +kernel)
  have n_rate : Nm X 2 "rate" := c.nm rfl (by decide +kernel) (by decide +kernel) (by decide +kernel)
  refine gss_is ?_ (by simp only [entry, List.map, List.length, List.cons_append, List.nil_append, List.replicate, Nat.reduceSub, Nat.reduceAdd] <;> exact rfl)
  refine gss_cons (gs_expr (ge_call (fp_of hX F_need_queue) ((c).low (by decide)) ((c).g (by decide +kernel)) ⟨_, _, _, _, rfl, hq, rfl⟩ (ga_cons (ge_var n_arrivals rfl) (ga_cons (ge_var n_size rfl) (ga_cons (ge_var n_rate rfl) ga_nil)))) ?_)
  refine gss_norm rfl ?_
  refine gss_cons (gs_ret (ge_call (fp_of hX F_led_queue) ((c).low (by decide)) ((c).g (by decide +kernel)) ⟨_, _, _, _, rfl, hl, rfl⟩ (ga_cons (ge_var n_arrivals rfl) (ga_cons (ge_var n_size rfl) (ga_cons (ge_var n_rate rfl) ga_nil)))) ?_)
  exact ⟨rfl, rfl⟩
theorem p_queued {W : Wd} {f : Addr} {fd : FuncData} (B : Bt W.mg) (F_need_queue : FnP W 5 "need_queue" C_need_queue) (F_led_queue : FnP W 1 "led_queue" C_led_queue) (F : Fun W.K "queued" "queued" s_queued f fd) (hb : Binds W.K fd ["arrivals", "size", "rate"] []) (hm : W.mg "queued" = some (.ref f)) : FnP W 6 "queued" C_queued :=
  fnP_of F sc_queued hb hm (fun ds d h => by obtain ⟨b, as, s, r, rfl, hq, rfl⟩ := h; rfl) fun X hX c => b_queued B F_need_queue F_led_queue X hX c
theorem pk_queued {W : Wd} {f : Addr} {fd : FuncData} (B : Bt W.mg) (F_need_queue : FnP W 5 "need_queue" C_need_queue) (F_led_queue : FnP W 1 "led_queue" C_led_queue) (F : Fun W.K "queued" "queued" s_queued f fd) (hm : W.mg "queued" = some (.ref f)) : FnK W 6 "queued" ["size", "rate"] 1 C_queued :=
  fnK_of F sc_queued (kb_of F 1 (by decide) fun _ _ _ _ _ _ us ws h1 h2 => match us, ws, h1, h2 with | [_], [_, _], _, _ => rfl) hm (fun ds d h => by obtain ⟨b, as, s, r, rfl, hq, rfl⟩ := h; rfl) fun X hX c => b_queued B F_need_queue F_led_queue X hX c
end PD

set_option Elab.async false
set_option linter.all false
set_option maxRecDepth 100000
set_option maxHeartbeats 2000000
namespace PD
open PySem PySem.Spec PyProof.Rows L2
abbrev s_greatest_window : Stmt := topS 24
theorem sc_greatest_window : FnScope ["arrivals", "size", "rate", "best", "window", "total", "begin", "index", "coming"] ["arrivals", "size", "rate"] (defScope s_greatest_window) := ⟨rfl, rfl, rfl, by decide +kernel, rfl, by decide +kernel, by decide +kernel⟩
abbrev C_greatest_window : List D → D → Prop := fun ds d => ∃ (as : List Int) (s r : Int), ds = [.lst (as.map .int), .int s, .int r] ∧ d = bkD (gwAll s r as)
theorem b_greatest_window {W : Wd} (B : Bt W.mg) : ∀ X : Cx, wd X = W → Cn X (defScope s_greatest_window) ["arrivals", "size", "rate", "best", "window", "total", "begin", "index", "coming"] 0 → ∀ ds d τ, C_greatest_window ds d → GSs X false (defBody s_greatest_window) (entry ["arrivals", "size", "rate", "best", "window", "total", "begin", "index", "coming"] (ds.map .dat)) τ (Ret d τ) := by
  intro X hX c ds d τ hC
  obtain ⟨as, s, r, rfl, rfl⟩ := hC
  have n_arrivals : Nm X 0 "arrivals" := c.nm rfl (by decide +kernel) (by decide +kernel) (by decide +kernel)
  have n_size : Nm X 1 "size" := c.nm rfl (by decide +kernel) (by decide +kernel) (by decide +kernel)
  have n_rate : Nm X 2 "rate" := c.nm rfl (by decide +kernel) (by decide +kernel) (by decide +kernel)
  have n_best : Nm X 3 "best" := c.nm rfl (by decide +kernel) (by decide +kernel) (by decide +kernel)
  have n_window : Nm X 4 "window" := c.nm rfl (by decide +kernel) (by decide +kernel) (by decide +kernel)
  have n_total : Nm X 5 "total" := c.nm rfl (by decide +kernel) (by decide +kernel) (by decide +kernel)
  have n_begin : Nm X 6 "begin" := c.nm rfl (by decide +kernel) (by decide +kernel) (by decide +kernel)
  have n_index : Nm X 7 "index" := c.nm rfl (by decide +kernel) (by decide +kernel) (by decide +kernel)
  have n_coming : Nm X 8 "coming" := c.nm rfl (by decide +kernel) (by decide +kernel) (by decide +kernel)
  refine gss_is ?_ (by simp only [entry, List.map, List.length, List.cons_append, List.nil_append, List.replicate, Nat.reduceSub, Nat.reduceAdd] <;> exact rfl)
  refine gss_cons (gs_tup (is := [3, 4, 5, 6]) (c).calm (c).ndX (.cons (c.sm (i := 3) rfl (by decide +kernel)) (.cons (c.sm (i := 4) rfl (by decide +kernel)) (.cons (c.sm (i := 5) rfl (by decide +kernel)) (.cons (c.sm (i := 6) rfl (by decide +kernel)) .nil rfl) rfl) rfl) rfl) (gvs_cons (gv_e ge_int) (gvs_cons (gv_e ge_non) (gvs_cons (gv_e ge_int) (gvs_cons (gv_e ge_int) gvs_nil)))) rfl (by decide) ?_ (by rfl))
  refine gss_norm (by simp only [setSls, List.zip, List.zipWith, List.set_cons_zero, List.set_cons_succ] <;> exact rfl) ?_
  refine gss_cons (gs_for (c).xe (c).calm (gi_enum (bt_of hX B) ((c).g (by decide +kernel)) (ge_var n_arrivals rfl)) (fun rest Γ' τ' => ∃ (xs : List Int) (i : Nat) (best : Int) (win : Option (Int × Int)) (total begin : Int) (s7 s8 : Sl), rest = enumD i (xs.map .int) ∧ gwRun s r i best win total begin xs = gwAll s r as ∧ Γ' = [.dat (.lst (as.map .int)), .dat (.int s), .dat (.int r), .dat (.int best), .dat (winD win), .dat (.int total), .dat (.int begin), s7, s8] ∧ τ' = τ) ?_ ?_ ?_)
  · exact ⟨as, 0, 0, none, 0, 0, _, _, rfl, rfl, rfl, rfl⟩
  · intro d rest Γ' τ' hI
    obtain ⟨xs0, i, best, win, total, begin, s7, s8, e, hg, rfl, rfl⟩ := hI
    obtain ⟨x, xs1, e1, rfl, rfl⟩ := enumD_cons_inv e
    obtain ⟨a, xs, rfl, rfl, rfl⟩ := map_cons_inv e1.symm
    refine ⟨_, [7, 8], (gg_tup (c).calm (ggs_cons (gg_name (c).ndX (c.sm (i := 7) rfl (by decide +kernel)) (by simp)) (ggs_cons (gg_name (c).ndX (c.sm (i := 8) rfl (by decide +kernel)) (by simp)) ggs_nil))), ?_⟩
    refine gss_is ?_ (by simp only [List.set_cons_zero, List.set_cons_succ] <;> exact rfl)
    refine gss_cons (gs_if (GW.t (gw_or (gt_eqI (c).r (ge_var n_index rfl) ge_int) (fun ht1_0 => (gw_or1 (gt_le (ge_sub (ge_var n_total rfl) (ge_var n_rate rfl)) ge_int))) (fun _ => rfl))) (fun hi0 => ?_) (fun hi0 => ?_))
    ·
      refine gss_cons (gs_par2 (c).calm (c).ndX (by rw [(c).hN]; rfl) (by rw [(c).hN]; rfl) (by decide) ((c).l (by decide +kernel)) ((c).l (by decide +kernel)) (i := 5) (j := 6) (gvs_cons (gv_e ge_int) (gvs_cons (gv_e (ge_var n_index rfl)) gvs_nil)) (swap2 c (by decide +kernel) (by decide +kernel) (by decide +kernel) (by decide +kernel)) ?_)
      refine gss_norm (by simp only [setSls, List.zip, List.zipWith, List.set_cons_zero, List.set_cons_succ] <;> exact rfl) ?_
      refine gss_nil ?_
      refine gss_norm rfl ?_
      refine gss_cons (gs_set (c).ndX (c.sm (i := 5) rfl (by decide +kernel)) (gv_e (ge_add (ge_var n_total rfl) (ge_var n_coming rfl))) ?_)
      refine gss_norm (by simp only [setSls, List.zip, List.zipWith, List.set_cons_zero, List.set_cons_succ] <;> exact rfl) ?_
      refine gss_cons (gs_if (gt_gt (ge_sub (ge_var n_total rfl) (ge_var n_size rfl)) (ge_var n_best rfl)) (fun hi1 => ?_) (fun hi1 => ?_))
      ·
        refine gss_cons (gs_par2 (c).calm (c).ndX (by rw [(c).hN]; rfl) (by rw [(c).hN]; rfl) (by decide) ((c).l (by decide +kernel)) ((c).l (by decide +kernel)) (i := 3) (j := 4) (gvs_cons (gv_e (ge_sub (ge_var n_total rfl) (ge_var n_size rfl))) (gvs_cons (gv_e (ge_tup (ga_cons (ge_var n_begin rfl) (ga_cons (ge_var n_index rfl) ga_nil)))) gvs_nil)) (swap2 c (by decide +kernel) (by decide +kernel) (by decide +kernel) (by decide +kernel)) ?_)
        refine gss_norm (by simp only [setSls, List.zip, List.zipWith, List.set_cons_zero, List.set_cons_succ] <;> exact rfl) ?_
        refine gss_nil ?_
        refine gss_norm rfl ?_
        refine gss_nil ?_
        have c1 : i = 0 ∨ total - r ≤ 0 := by simpa using hi0
        have c2 : 0 + a - s > best := by simpa using hi1
        exact ⟨xs, i + 1, _, some ((i : Int), (i : Int)), _, (i : Int), _, _, rfl, by rw [← hg]; simp only [gwRun, if_pos c1, if_pos c2], rfl, rfl⟩
      ·
        refine gss_nil ?_
        refine gss_norm rfl ?_
        refine gss_nil ?_
        have c1 : i = 0 ∨ total - r ≤ 0 := by simpa using hi0
        have c2 : ¬ (0 + a - s > best) := by simpa using hi1
        exact ⟨xs, i + 1, _, win, _, (i : Int), _, _, rfl, by rw [← hg]; simp only [gwRun, if_pos c1, if_neg c2], rfl, rfl⟩
    ·
      refine gss_cons (gs_set (c).ndX (c.sm (i := 5) rfl (by decide +kernel)) (gv_e (ge_sub (ge_var n_total rfl) (ge_var n_rate rfl))) ?_)
      refine gss_norm (by simp only [setSls, List.zip, List.zipWith, List.set_cons_zero, List.set_cons_succ] <;> exact rfl) ?_
      refine gss_nil ?_
      refine gss_norm rfl ?_
      refine gss_cons (gs_set (c).ndX (c.sm (i := 5) rfl (by decide +kernel)) (gv_e (ge_add (ge_var n_total rfl) (ge_var n_coming rfl))) ?_)
      refine gss_norm (by simp only [setSls, List.zip, List.zipWith, List.set_cons_zero, List.set_cons_succ] <;> exact rfl) ?_
      refine gss_cons (gs_if (gt_gt (ge_sub (ge_var n_total rfl) (ge_var n_size rfl)) (ge_var n_best rfl)) (fun hi2 => ?_) (fun hi2 => ?_))
      ·
        refine gss_cons (gs_par2 (c).calm (c).ndX (by rw [(c).hN]; rfl) (by rw [(c).hN]; rfl) (by decide) ((c).l (by decide +kernel)) ((c).l (by decide +kernel)) (i := 3) (j := 4) (gvs_cons (gv_e (ge_sub (ge_var n_total rfl) (ge_var n_size rfl))) (gvs_cons (gv_e (ge_tup (ga_cons (ge_var n_begin rfl) (ga_cons (ge_var n_index rfl) ga_nil)))) gvs_nil)) (swap2 c (by decide +kernel) (by decide +kernel) (by decide +kernel) (by decide +kernel)) ?_)
        refine gss_norm (by simp only [setSls, List.zip, List.zipWith, List.set_cons_zero, List.set_cons_succ] <;> exact rfl) ?_
        refine gss_nil ?_
        refine gss_norm rfl ?_
        refine gss_nil ?_
        have c1 : ¬ (i = 0 ∨ total - r ≤ 0) := by simpa using hi0
        have c2 : total - r + a - s > best := by simpa using hi2
        exact ⟨xs, i + 1, _, some (begin, (i : Int)), _, begin, _, _, rfl, by rw [← hg]; simp only [gwRun, if_neg c1, if_pos c2], rfl, rfl⟩
      ·
        refine gss_nil ?_
        refine gss_norm rfl ?_
        refine gss_nil ?_
        have c1 : ¬ (i = 0 ∨ total - r ≤ 0) := by simpa using hi0
        have c2 : ¬ (total - r + a - s > best) := by simpa using hi2
        exact ⟨xs, i + 1, _, win, _, begin, _, _, rfl, by rw [← hg]; simp only [gwRun, if_neg c1, if_neg c2], rfl, rfl⟩
  · intro Γ' τ' hI
    obtain ⟨xs0, i, best, win, total, begin, s7, s8, e, hg, rfl, rfl⟩ := hI
    have e0 := enumD_nil_inv e
    obtain rfl := map_nil_inv e0.symm
    have hg : (best, win) = gwAll s r as := hg
    refine gss_norm rfl ?_
    refine gss_cons (gs_ret (ge_tup (ga_cons (ge_var n_best rfl) (ga_cons (ge_var n_window rfl) ga_nil))) ?_)
    exact ⟨by rw [← hg]; rfl, rfl⟩
theorem p_greatest_window {W : Wd} {f : Addr} {fd : FuncData} (B : Bt W.mg) (F : Fun W.K "greatest_window" "greatest_window" s_greatest_window f fd) (hb : Binds W.K fd ["arrivals", "size", "rate"] []) (hm : W.mg "greatest_window" = some (.ref f)) : FnP W 1 "greatest_window" C_greatest_window :=
  fnP_of F sc_greatest_window hb hm (fun ds d h => by obtain ⟨as, s, r, rfl, rfl⟩ := h; rfl) fun X hX c => b_greatest_window B X hX c

abbrev s_backlog : Stmt := topS 25
theorem sc_backlog : FnScope ["arrivals", "size", "rate"] ["arrivals", "size", "rate"] (defScope s_backlog) := ⟨rfl, rfl, rfl, by decide +kernel, rfl, by decide +kernel, by decide +kernel⟩
abbrev C_backlog : List D → D → Prop := fun ds d => ∃ (as : List Int) (s r : Int), ds = [.lst (as.map .int), .int s, .int r] ∧ QOk as s r ∧ d = bkD (gwAll s r as)
theorem b_backlog {W : Wd} (B : Bt W.mg) (F_need_queue : FnP W 5 "need_queue" C_need_queue) (F_greatest_window : FnP W 1 "greatest_window" C_greatest_window) : ∀ X : Cx, wd X = W → Cn X (defScope s_backlog) ["arrivals", "size", "rate"] 5 → ∀ ds d τ, C_backlog ds d → GSs X false (defBody s_backlog) (entry ["arrivals", "size", "rate"] (ds.map .dat)) τ (Ret d τ) := by
  intro X hX c ds d τ hC
  obtain ⟨as, s, r, rfl, hq, rfl⟩ := hC
  have n_arrivals : Nm X 0 "arrivals" := c.nm rfl (by decide +kernel) (by decide +kernel) (by decide +kernel)
  have n_size : Nm X 1 "size" := c.nm rfl (by decide +kernel) (by decide +kernel) (by decide +kernel)
  have n_rate : Nm X 2 "rate" := c.nm rfl (by decide +kernel) (by decide +kernel) (by decide +kernel)
  refine gss_is ?_ (by simp only [entry, List.map, List.length, List.cons_append, List.nil_append, List.replicate, Nat.reduceSub, Nat.reduceAdd] <;> exact rfl)
  refine gss_cons (gs_expr (ge_call (fp_of hX F_need_queue) ((c).low (by decide)) ((c).g (by decide +kernel)) ⟨false, _, _, _, rfl, hq, rfl⟩ (ga_cons (ge_var n_arrivals rfl) (ga_cons (ge_var n_size rfl) (ga_cons (ge_var n_rate rfl) ga_nil)))) ?_)
  refine gss_norm rfl ?_
  refine gss_cons (gs_ret (ge_call (fp_of hX F_greatest_window) ((c).low (by decide)) ((c).g (by decide +kernel)) ⟨_, _, _, rfl, rfl⟩ (ga_cons (ge_var n_arrivals rfl) (ga_cons (ge_var n_size rfl) (ga_cons (ge_var n_rate rfl) ga_nil)))) ?_)
  exact ⟨rfl, rfl⟩
theorem p_backlog {W : Wd} {f : Addr} {fd : FuncData} (B : Bt W.mg) (F_need_queue : FnP W 5 "need_queue" C_need_queue) (F_greatest_window : FnP W 1 "greatest_window" C_greatest_window) (F : Fun W.K "backlog" "backlog" s_backlog f fd) (hb : Binds W.K fd ["arrivals", "size", "rate"] []) (hm : W.mg "backlog" = some (.ref f)) : FnP W 6 "backlog" C_backlog :=
  fnP_of F sc_backlog hb hm (fun ds d h => by obtain ⟨as, s, r, rfl, hq, rfl⟩ := h; rfl) fun X hX c => b_backlog B F_need_queue F_greatest_window X hX c

abbrev s_is_backlog : Stmt := topS 26
theorem sc_is_backlog : FnScope ["arrivals", "size", "rate", "thing", "most", "window", "tokens", "waiting", "out", "tick"] ["arrivals", "size", "rate", "thing"] (defScope s_is_backlog) := ⟨rfl, rfl, rfl, by decide +kernel, rfl, by decide +kernel, by decide +kernel⟩
abbrev C_is_backlog : List D → D → Prop := fun ds d => ∃ (as : List Int) (s r m : Int) (w : Option (Int × Int)), ds = [.lst (as.map .int), .int s, .int r, .tup [.int m, winD w]] ∧ QOk as s r ∧ BkP as s r m w ∧ d = .bl true
theorem b_is_backlog {W : Wd} (B : Bt W.mg) (F_need_queue : FnP W 5 "need_queue" C_need_queue) (F_is_number : FnP W 1 "is_number" C_is_number) (F_led_queue : FnP W 1 "led_queue" C_led_queue) (F_is_between : FnP W 2 "is_between" C_is_between) : ∀ X : Cx, wd X = W → Cn X (defScope s_is_backlog) ["arrivals", "size", "rate", "thing", "most", "window", "tokens", "waiting", "out", "tick"] 5 → ∀ ds d τ, C_is_backlog ds d → GSs X false (defBody s_is_backlog) (entry ["arrivals", "size", "rate", "thing", "most", "window", "tokens", "waiting", "out", "tick"] (ds.map .dat)) τ (Ret d τ) := by
  intro X hX c ds d τ hC
  obtain ⟨as, s, r, m, w, rfl, hq, hb, rfl⟩ := hC
  have hl : as.length ≤ 1000 := Nat.le_trans hq.a.len (by decide)
  have hrr := hq.hr
  have hss := hq.hs
  have n_arrivals : Nm X 0 "arrivals" := c.nm rfl (by decide +kernel) (by decide +kernel) (by decide +kernel)
  have n_size : Nm X 1 "size" := c.nm rfl (by decide +kernel) (by decide +kernel) (by decide +kernel)
  have n_rate : Nm X 2 "rate" := c.nm rfl (by decide +kernel) (by decide +kernel) (by decide +kernel)
  have n_thing : Nm X 3 "thing" := c.nm rfl (by decide +kernel) (by decide +kernel) (by decide +kernel)
  have n_most : Nm X 4 "most" := c.nm rfl (by decide +kernel) (by decide +kernel) (by decide +kernel)
  have n_window : Nm X 5 "window" := c.nm rfl (by decide +kernel) (by decide +kernel) (by decide +kernel)
  refine gss_is ?_ (by simp only [entry, List.map, List.length, List.cons_append, List.nil_append, List.replicate, Nat.reduceSub, Nat.reduceAdd] <;> exact rfl)
  refine gss_cons (gs_expr (ge_call (fp_of hX F_need_queue) ((c).low (by decide)) ((c).g (by decide +kernel)) ⟨false, _, _, _, rfl, hq, rfl⟩ (ga_cons (ge_var n_arrivals rfl) (ga_cons (ge_var n_size rfl) (ga_cons (ge_var n_rate rfl) ga_nil)))) ?_)
  refine gss_norm rfl ?_
  refine gss_cons (gs_ifF (GW.t (gw_or (gt_not (gt_val (ge_isinst (T := "tuple") (q := true) (bt_of hX B) ((c).g (by decide +kernel)) ((c).g (by decide +kernel)) (bt_of hX B).tuple (by decide +kernel) rfl (by exact (show kitB "tuple" "tuple" = some true from by decide +kernel)) (ge_var n_thing rfl)))) (fun ht1_0 => (gw_or (gt_neI (c).r (ge_lenT (bt_of hX B) ((c).g (by decide +kernel)) (ge_var n_thing rfl)) ge_int) (fun ht1_1 => (gw_or1 (gt_not (gt_val (ge_call (fp_of hX F_is_number) ((c).low (by decide)) ((c).g (by decide +kernel)) ⟨_, rfl, rfl⟩ (ga_cons (ge_ixT (by rfl) (ge_var n_thing rfl) ge_int) ga_nil)))))) (fun _ => rfl))) (fun _ => rfl))) ?_ ?_)
  · rfl
  refine gss_nil ?_
  refine gss_norm rfl ?_
  refine gss_cons (gs_set (c).ndX (c.sm (i := 4) rfl (by decide +kernel)) (gv_e (ge_maxDef (bt_of hX B) (c).calm ((c).g (by decide +kernel)) (by
      rcases hb.mx with ⟨h1, h2⟩ | ⟨h1, h2⟩
      · exact .inl ⟨by rw [h1]; rfl, h2⟩
      · exact .inr ⟨h1, h2⟩) (gl_new (gn_lcmf (w := true) (enc := tri) (xs := ledQ s r s 0 as) (f2 := .int) c [("tokens", 6), ("waiting", 7), ("out", 8)] (by decide +kernel) (by rw [ledQ_len, sizeLine_val]; omega) (gi_list (ge_call (fp_of hX F_led_queue) ((c).low (by decide)) ((c).g (by decide +kernel)) ⟨false, _, _, _, rfl, hl, rfl⟩ (ga_cons (ge_var n_arrivals rfl) (ga_cons (ge_var n_size rfl) (ga_cons (ge_var n_rate rfl) ga_nil))))) (fun x1 hx1 t1 => ⟨_, fun X1 B1 => ⟨(gg_tup ((B1.cn c)).calm (ggs_cons (gg_name ((B1.cn c)).ndX (((B1.cn c)).sm (i := 6) rfl (by decide +kernel)) (by simp)) (ggs_cons (gg_name ((B1.cn c)).ndX (((B1.cn c)).sm (i := 7) rfl (by decide +kernel)) (by simp)) (ggs_cons (gg_name ((B1.cn c)).ndX (((B1.cn c)).sm (i := 8) rfl (by decide +kernel)) (by simp)) ggs_nil)))), gts_nil, fun hp1 => (ge_var (((B1.cn c)).nm (i := 7) rfl (by decide +kernel) (by decide +kernel) (by decide +kernel)) rfl)⟩⟩))) ge_int)) ?_)
  refine gss_norm (by simp only [setSls, List.zip, List.zipWith, List.set_cons_zero, List.set_cons_succ] <;> exact rfl) ?_
  refine gss_cons (gs_if (GW.t (gw_or (gt_neI (c).r (ge_ixT (by rfl) (ge_var n_thing rfl) ge_int) (ge_var n_most rfl)) (fun ht2_0 => (gw_or1 (gt_eqI (c).r (ge_var n_most rfl) ge_int))) (fun _ => rfl))) (fun hi1 => ?_) (fun hi1 => ?_))
  ·
    refine gss_cons (gs_ret (ge_and (ge_eqI (c).r (ge_ixT (by rfl) (ge_var n_thing rfl) ge_int) (ge_var n_most rfl)) (fun hb3_0 => (ge_one (ge_isN (ge_ixT (by rfl) (ge_var n_thing rfl) ge_int)))) (fun _ => rfl)) ?_)
    exact ⟨by
      rcases hb.win with ⟨h1, h2⟩ | ⟨h1, _⟩
      · subst h1 h2; rfl
      · simp [h1] at hi1, rfl⟩
  ·
    refine gss_nil ?_
    refine gss_norm rfl ?_
    refine gss_cons (gs_set (c).ndX (c.sm (i := 5) rfl (by decide +kernel)) (gv_e (ge_ixT (by rfl) (ge_var n_thing rfl) ge_int)) ?_)
    refine gss_norm (by simp only [setSls, List.zip, List.zipWith, List.set_cons_zero, List.set_cons_succ] <;> exact rfl) ?_
    rcases hb.win with ⟨h0, _⟩ | ⟨hpos, b, e, rfl, hbe, hel, hsum⟩
    · simp [h0] at hi1
    refine gss_cons (gs_ifF (GW.t (gw_or (gt_not (gt_val (ge_isinst (T := "tuple") (q := true) (bt_of hX B) ((c).g (by decide +kernel)) ((c).g (by decide +kernel)) (bt_of hX B).tuple (by decide +kernel) rfl (by exact (show kitB "tuple" "tuple" = some true from by decide +kernel)) (ge_var n_window rfl)))) (fun ht4_0 => (gw_or1 (gt_neI (c).r (ge_lenT (bt_of hX B) ((c).g (by decide +kernel)) (ge_var n_window rfl)) ge_int))) (fun _ => rfl))) ?_ ?_)
    · rfl
    refine gss_nil ?_
    refine gss_norm rfl ?_
    refine gss_cons (gs_ifF (GW.t (gw_or (gt_not (gt_val (ge_all (bt_of hX B) (c).calm ((c).g (by decide +kernel)) (gl_new (gn_lcmf (w := true) (enc := .int) (xs := [(b : Int), (e : Int)]) (f2 := .bl) c [("tick", 9)] (by decide +kernel) (by rw [sizeLine_val]; simp) (gi_tup (ge_var n_window rfl)) (fun x1 hx1 t1 => ⟨_, fun X1 B1 => ⟨(gg_name ((B1.cn c)).ndX (((B1.cn c)).sm (i := 9) rfl (by decide +kernel)) (by simp)), gts_nil, fun hp1 => (ge_call (fp_of (B1.w.trans hX) F_is_between) (((B1.cn c)).low (by decide)) (((B1.cn c)).g (by decide +kernel)) ⟨_, _, _, rfl, rfl⟩ (ga_cons (ge_var (((B1.cn c)).nm (i := 9) rfl (by decide +kernel) (by decide +kernel) (by decide +kernel)) rfl) (ga_cons ge_int (ga_cons (ge_sub (ge_len (bt_of (B1.w.trans hX) B) (((B1.cn c)).g (by decide +kernel)) (gl_of (ge_var (((B1.cn c)).nm (i := 0) rfl (by decide +kernel) (by decide +kernel) (by decide +kernel)) rfl))) ge_int) ga_nil))))⟩⟩)))))) (fun ht5_0 => (gw_or1 (gt_gt (ge_ixT (by rfl) (ge_var n_window rfl) ge_int) (ge_ixT (by rfl) (ge_var n_window rfl) ge_int)))) (fun _ => rfl))) ?_ ?_)
    · simp; omega
    refine gss_nil ?_
    refine gss_norm rfl ?_
    refine gss_cons (gs_ret (ge_eqI (c).r (ge_sub (ge_sub (ge_sum (bt_of hX B) (c).calm ((c).g (by decide +kernel)) (gl_new (gn_is (ds1 := ((as.drop b).take (e + 1 - b)).map .int) (gn_sl (gl_of (ge_var n_arrivals rfl)) (gp_some (ge_ixT (by rfl) (ge_var n_window rfl) ge_int)) (gp_some (ge_add (ge_ixT (by rfl) (ge_var n_window rfl) ge_int) ge_int))) (cut_mid hbe hel)))) (ge_mul (.inl (by constructor <;> omega)) (ge_var n_rate rfl) (ge_sub (ge_ixT (by rfl) (ge_var n_window rfl) ge_int) (ge_ixT (by rfl) (ge_var n_window rfl) ge_int)))) (ge_var n_size rfl)) (ge_var n_most rfl)) ?_)
    exact ⟨by simp [hsum], rfl⟩
theorem p_is_backlog {W : Wd} {f : Addr} {fd : FuncData} (B : Bt W.mg) (F_need_queue : FnP W 5 "need_queue" C_need_queue) (F_is_number : FnP W 1 "is_number" C_is_number) (F_led_queue : FnP W 1 "led_queue" C_led_queue) (F_is_between : FnP W 2 "is_between" C_is_between) (F : Fun W.K "is_backlog" "is_backlog" s_is_backlog f fd) (hb : Binds W.K fd ["arrivals", "size", "rate", "thing"] []) (hm : W.mg "is_backlog" = some (.ref f)) : FnP W 6 "is_backlog" C_is_backlog :=
  fnP_of F sc_is_backlog hb hm (fun ds d h => by obtain ⟨as, s, r, m, w, rfl, hq, hb, rfl⟩ := h; rfl) fun X hX c => b_is_backlog B F_need_queue F_is_number F_led_queue F_is_between X hX c

abbrev s_waits : Stmt := topS 27
theorem sc_waits : FnScope ["arrivals", "size", "rate", "found", "coming", "told"] ["arrivals", "size", "rate"] (defScope s_waits) := ⟨rfl, rfl, rfl, by decide +kernel, rfl, by decide +kernel, by decide +kernel⟩
abbrev C_waits : List D → D → Prop := fun ds d => ∃ (as : List Int) (s r : Int), ds = [.lst (as.map .int), .int s, .int r] ∧ QOk as s r ∧ d = .lst ((waitsQ s r as).map (optD .int))
theorem b_waits {W : Wd} (B : Bt W.mg) (F_need_queue : FnP W 5 "need_queue" C_need_queue) (F_led_queue : FnP W 1 "led_queue" C_led_queue) (F_rounded_up : FnP W 1 "rounded_up" C_rounded_up) : ∀ X : Cx, wd X = W → Cn X (defScope s_waits) ["arrivals", "size", "rate", "found", "coming", "told"] 5 → ∀ ds d τ, C_waits ds d → GSs X false (defBody s_waits) (entry ["arrivals", "size", "rate", "found", "coming", "told"] (ds.map .dat)) τ (Ret d τ) := by
  intro X hX c ds d τ hC
  obtain ⟨as, s, r, rfl, hq, rfl⟩ := hC
  have hl : as.length ≤ 1000 := Nat.le_trans hq.a.len (by decide)
  have hrr := hq.hr
  have hss := hq.hs
  have n_arrivals : Nm X 0 "arrivals" := c.nm rfl (by decide +kernel) (by decide +kernel) (by decide +kernel)
  have n_size : Nm X 1 "size" := c.nm rfl (by decide +kernel) (by decide +kernel) (by decide +kernel)
  have n_rate : Nm X 2 "rate" := c.nm rfl (by decide +kernel) (by decide +kernel) (by decide +kernel)
  have n_found : Nm X 3 "found" := c.nm rfl (by decide +kernel) (by decide +kernel) (by decide +kernel)
  have n_coming : Nm X 4 "coming" := c.nm rfl (by decide +kernel) (by decide +kernel) (by decide +kernel)
  have n_told : Nm X 5 "told" := c.nm rfl (by decide +kernel) (by decide +kernel) (by decide +kernel)
  refine gss_is ?_ (by simp only [entry, List.map, List.length, List.cons_append, List.nil_append, List.replicate, Nat.reduceSub, Nat.reduceAdd] <;> exact rfl)
  refine gss_cons (gs_expr (ge_call (fp_of hX F_need_queue) ((c).low (by decide)) ((c).g (by decide +kernel)) ⟨false, _, _, _, rfl, hq, rfl⟩ (ga_cons (ge_var n_arrivals rfl) (ga_cons (ge_var n_size rfl) (ga_cons (ge_var n_rate rfl) ga_nil)))) ?_)
  refine gss_norm rfl ?_
  refine gss_cons (gs_set (c).ndX (c.sm (i := 3) rfl (by decide +kernel)) (gv_n (gn_lst ga_nil)) ?_)
  refine gss_norm (by simp only [setSls, List.zip, List.zipWith, List.set_cons_zero, List.set_cons_succ] <;> exact rfl) ?_
  refine gss_cons (gs_for (c).xe (c).calm (gi_zip (bt_of hX B) ((c).g (by decide +kernel)) (ge_var n_arrivals rfl) (ge_call (fp_of hX F_led_queue) ((c).low (by decide)) ((c).g (by decide +kernel)) ⟨false, _, _, _, rfl, hl, rfl⟩ (ga_cons (ge_var n_arrivals rfl) (ga_cons (ge_var n_size rfl) (ga_cons (ge_var n_rate rfl) ga_nil))))) (fun rest Γ' τ' => ∃ (xs : List Int) (qs : List (Int × Int × Int)) (zs : List D) (s4 s5 : Sl), rest = zipD (xs.map .int) (qs.map tri) ∧ zs ++ (List.zipWith (waitQ r) xs qs).map (optD .int) = (waitsQ s r as).map (optD .int) ∧ zs.length + xs.length = as.length ∧ Γ' = [.dat (.lst (as.map .int)), .dat (.int s), .dat (.int r), .own zs, s4, s5] ∧ τ' = τ) ?_ ?_ ?_)
  · exact ⟨as, _, [], _, _, rfl, rfl, by simp, rfl, rfl⟩
  · intro d rest Γ' τ' hI
    obtain ⟨xs0, qs0, zs, s4, s5, e, e2, e3, rfl, rfl⟩ := hI
    obtain ⟨a, xs, q, qs, rfl, rfl, rfl, rfl⟩ := zipD_cons_inv e
    simp only [List.length_cons] at e3
    refine ⟨_, [4, 5], (gg_tup (c).calm (ggs_cons (gg_name (c).ndX (c.sm (i := 4) rfl (by decide +kernel)) (by simp)) (ggs_cons (gg_name (c).ndX (c.sm (i := 5) rfl (by decide +kernel)) (by simp)) ggs_nil))), ?_⟩
    refine gss_is ?_ (by simp only [List.set_cons_zero, List.set_cons_succ] <;> exact rfl)
    refine gss_cons (gs_append n_found rfl (ge_iteD (gt_eqI (c).r (ge_var n_coming rfl) ge_int) (fun hc1 => ge_non) (fun hc1 => (ge_call (fp_of hX F_rounded_up) ((c).low (by decide)) ((c).g (by decide +kernel)) ⟨_, _, rfl, (by omega), rfl⟩ (ga_cons (ge_ixT (by rfl) (ge_var n_told rfl) ge_int) (ga_cons (ge_var n_rate rfl) ga_nil))))) (by rw [sizeLine_val]; omega) ?_)
    refine gss_norm (by simp only [setSls, List.zip, List.zipWith, List.set_cons_zero, List.set_cons_succ] <;> exact rfl) ?_
    refine gss_nil ?_
    refine ⟨xs, qs, _, _, _, rfl, ?_, by simp; omega, rfl, rfl⟩
    rw [← e2]
    simp only [List.zipWith_cons_cons, List.map_cons, List.append_assoc, List.singleton_append]
    congr 2
    unfold waitQ
    by_cases ha : a = 0 <;> simp [ha, optD]
  · intro Γ' τ' hI
    obtain ⟨xs0, qs0, zs, s4, s5, e, e2, e3, rfl, rfl⟩ := hI
    rw [zipD_nil_inv e, List.map_nil, List.append_nil] at e2
    refine gss_norm rfl ?_
    refine gss_freeze 3 rfl ?_
    refine gss_is ?_ (by simp only [List.set_cons_zero, List.set_cons_succ] <;> exact rfl)
    refine gss_cons (gs_ret (ge_var n_found rfl) ?_)
    exact ⟨by rw [e2], rfl⟩
theorem p_waits {W : Wd} {f : Addr} {fd : FuncData} (B : Bt W.mg) (F_need_queue : FnP W 5 "need_queue" C_need_queue) (F_led_queue : FnP W 1 "led_queue" C_led_queue) (F_rounded_up : FnP W 1 "rounded_up" C_rounded_up) (F : Fun W.K "waits" "waits" s_waits f fd) (hb : Binds W.K fd ["arrivals", "size", "rate"] []) (hm : W.mg "waits" = some (.ref f)) : FnP W 6 "waits" C_waits :=
  fnP_of F sc_waits hb hm (fun ds d h => by obtain ⟨as, s, r, rfl, hq, rfl⟩ := h; rfl) fun X hX c => b_waits B F_need_queue F_led_queue F_rounded_up X hX c

abbrev s_sums_of : Stmt := topS 28
theorem sc_sums_of : FnScope ["several", "found", "item"] ["several"] (defScope s_sums_of) := ⟨rfl, rfl, rfl, by decide +kernel, rfl, by decide +kernel, by decide +kernel⟩
abbrev C_sums_of : List D → D → Prop := fun ds d => ∃ as : List Int, ds = [.lst (as.map .int)] ∧ as.length ≤ 1000 ∧ d = .lst ((sums as).map .int)
theorem b_sums_of {W : Wd} (B : Bt W.mg) : ∀ X : Cx, wd X = W → Cn X (defScope s_sums_of) ["several", "found", "item"] 0 → ∀ ds d τ, C_sums_of ds d → GSs X false (defBody s_sums_of) (entry ["several", "found", "item"] (ds.map .dat)) τ (Ret d τ) := by
  intro X hX c ds d τ hC
  obtain ⟨as, rfl, hl, rfl⟩ := hC
  have n_several : Nm X 0 "several" := c.nm rfl (by decide +kernel) (by decide +kernel) (by decide +kernel)
  have n_found : Nm X 1 "found" := c.nm rfl (by decide +kernel) (by decide +kernel) (by decide +kernel)
  have n_item : Nm X 2 "item" := c.nm rfl (by decide +kernel) (by decide +kernel) (by decide +kernel)
  refine gss_is ?_ (by simp only [entry, List.map, List.length, List.cons_append, List.nil_append, List.replicate, Nat.reduceSub, Nat.reduceAdd] <;> exact rfl)
  refine gss_cons (gs_set (c).ndX (c.sm (i := 1) rfl (by decide +kernel)) (gv_n (gn_lst (ga_cons ge_int ga_nil))) ?_)
  refine gss_norm (by simp only [setSls, List.zip, List.zipWith, List.set_cons_zero, List.set_cons_succ] <;> exact rfl) ?_
  refine gss_cons (gs_for (c).xe (c).calm (gi_list (ge_var n_several rfl)) (fun rest Γ' τ' => ∃ (xs : List Int) (pre : List D) (t : Int) (s2 : Sl), rest = xs.map .int ∧ pre ++ (t :: psum t xs).map .int = (sums as).map .int ∧ pre.length + xs.length = as.length ∧ Γ' = [.dat (.lst (as.map .int)), .own (pre ++ [.int t]), s2] ∧ τ' = τ) ?_ ?_ ?_)
  · exact ⟨as, [], 0, _, rfl, rfl, by simp, rfl, rfl⟩
  · intro d rest Γ' τ' hI
    obtain ⟨xs, pre, t, s2, e, e2, e3, rfl, rfl⟩ := hI
    obtain ⟨a, xs, rfl, rfl, rfl⟩ := map_cons_inv e
    simp only [List.length_cons] at e3
    refine ⟨_, [2], (gg_name (c).ndX (c.sm (i := 2) rfl (by decide +kernel)) (by simp)), ?_⟩
    refine gss_is ?_ (by simp only [List.set_cons_zero, List.set_cons_succ] <;> exact rfl)
    refine gss_cons (gs_append n_found rfl (ge_add (ge_ixL (zs := []) atI_last (gl_own n_found rfl) (ge_neg ge_int)) (ge_var n_item rfl)) (by rw [sizeLine_val]; simp; omega) ?_)
    refine gss_norm (by simp only [setSls, List.zip, List.zipWith, List.set_cons_zero, List.set_cons_succ] <;> exact rfl) ?_
    refine gss_nil ?_
    exact ⟨xs, pre ++ [.int t], t + a, _, rfl, by rw [← e2]; simp [psum], by simp; omega, rfl, rfl⟩
  · intro Γ' τ' hI
    obtain ⟨xs, pre, t, s2, e, e2, e3, rfl, rfl⟩ := hI
    obtain rfl := map_nil_inv e
    refine gss_norm rfl ?_
    refine gss_freeze 1 rfl ?_
    refine gss_is ?_ (by simp only [List.set_cons_zero, List.set_cons_succ] <;> exact rfl)
    refine gss_cons (gs_ret (ge_var n_found rfl) ?_)
    exact ⟨by rw [← e2]; simp [psum], rfl⟩
theorem p_sums_of {W : Wd} {f : Addr} {fd : FuncData} (B : Bt W.mg) (F : Fun W.K "sums_of" "sums_of" s_sums_of f fd) (hb : Binds W.K fd ["several"] []) (hm : W.mg "sums_of" = some (.ref f)) : FnP W 1 "sums_of" C_sums_of :=
  fnP_of F sc_sums_of hb hm (fun ds d h => by obtain ⟨as, rfl, hl, rfl⟩ := h; rfl) fun X hX c => b_sums_of B X hX c

abbrev s_keeps_windows : Stmt := topS 29
theorem sc_keeps_windows : FnScope ["sums", "size", "rate", "last", "first"] ["sums", "size", "rate"] (defScope s_keeps_windows) := ⟨rfl, rfl, rfl, by decide +kernel, rfl, by decide +kernel, by decide +kernel⟩
abbrev C_keeps_windows : List D → D → Prop := fun ds d => ∃ (sm : List Int) (s r : Int), ds = [.lst (sm.map .int), .int s, .int r] ∧ sm.length ≤ 2000 ∧ (0 ≤ r ∧ r ≤ 1000000) ∧ WinOk sm s r ∧ d = .bl true
theorem b_keeps_windows {W : Wd} (B : Bt W.mg) : ∀ X : Cx, wd X = W → Cn X (defScope s_keeps_windows) ["sums", "size", "rate", "last", "first"] 0 → ∀ ds d τ, C_keeps_windows ds d → GSs X false (defBody s_keeps_windows) (entry ["sums", "size", "rate", "last", "first"] (ds.map .dat)) τ (Ret d τ) := by
  intro X hX c ds d τ hC
  obtain ⟨sm, s, r, rfl, hl, hr, hw, rfl⟩ := hC
  have n_sums : Nm X 0 "sums" := c.nm rfl (by decide +kernel) (by decide +kernel) (by decide +kernel)
  have n_size : Nm X 1 "size" := c.nm rfl (by decide +kernel) (by decide +kernel) (by decide +kernel)
  have n_rate : Nm X 2 "rate" := c.nm rfl (by decide +kernel) (by decide +kernel) (by decide +kernel)
  have n_last : Nm X 3 "last" := c.nm rfl (by decide +kernel) (by decide +kernel) (by decide +kernel)
  have n_first : Nm X 4 "first" := c.nm rfl (by decide +kernel) (by decide +kernel) (by decide +kernel)
  refine gss_is ?_ (by simp only [entry, List.map, List.length, List.cons_append, List.nil_append, List.replicate, Nat.reduceSub, Nat.reduceAdd] <;> exact rfl)
  refine gss_cons (gs_for (c).xe (c).calm (gi_range2 (bt_of hX B) ((c).g (by decide +kernel)) (by simp only [List.length_map]; omega) ge_int (ge_len (bt_of hX B) ((c).g (by decide +kernel)) (gl_of (ge_var n_sums rfl)))) (fun rest Γ' τ' => ∃ (xs : List Int) (s3 s4 : Sl), rest = xs.map .int ∧ (∀ x ∈ xs, 1 ≤ x ∧ x < sm.length) ∧ Γ' = [.dat (.lst (sm.map .int)), .dat (.int s), .dat (.int r), s3, s4] ∧ τ = τ') ?_ ?_ ?_)
  · exact ⟨_, _, _, rfl, fun x hx => by rw [irange_mem] at hx; simp only [List.length_map] at hx; omega, rfl, rfl⟩
  · intro d rest Γ' τ' hI
    obtain ⟨xs, s3, s4, e, hx, rfl, rfl⟩ := hI
    obtain ⟨x, xs, rfl, rfl, rfl⟩ := map_cons_inv e
    obtain ⟨hx1, hx2⟩ := hx x List.mem_cons_self
    refine ⟨_, [3], (gg_name (c).ndX (c.sm (i := 3) rfl (by decide +kernel)) (by simp)), ?_⟩
    refine gss_is ?_ (by simp only [List.set_cons_zero, List.set_cons_succ] <;> exact rfl)
    refine gss_cons (gs_for (c).xe (c).calm (gi_range1 (bt_of hX B) ((c).g (by decide +kernel)) (by omega) (by omega) (ge_var n_last rfl)) (fun rest Γ' τ' => ∃ (ys : List Int) (s4 : Sl), rest = ys.map .int ∧ (∀ y ∈ ys, 0 ≤ y ∧ y < x) ∧ Γ' = [.dat (.lst (sm.map .int)), .dat (.int s), .dat (.int r), .dat (.int x), s4] ∧ τ = τ') ?_ ?_ ?_)
    · exact ⟨_, _, rfl, fun y hy => by rw [irange_mem] at hy; omega, rfl, rfl⟩
    · intro d rest Γ' τ' hI
      obtain ⟨ys, s4, e, hy, rfl, rfl⟩ := hI
      obtain ⟨y, ys, rfl, rfl, rfl⟩ := map_cons_inv e
      obtain ⟨hy1, hy2⟩ := hy y List.mem_cons_self
      refine ⟨_, [4], (gg_name (c).ndX (c.sm (i := 4) rfl (by decide +kernel)) (by simp)), ?_⟩
      refine gss_is ?_ (by simp only [List.set_cons_zero, List.set_cons_succ] <;> exact rfl)
      refine gss_cons (gs_ifF (gt_gt (ge_sub (ge_ixL (zs := []) (atI_ints (by omega) (by omega)) (gl_of (ge_var n_sums rfl)) (ge_var n_last rfl)) (ge_ixL (zs := []) (atI_ints (by omega) (by omega)) (gl_of (ge_var n_sums rfl)) (ge_var n_first rfl))) (ge_add (ge_var n_size rfl) (ge_mul (.inl (by constructor <;> omega)) (ge_var n_rate rfl) (ge_sub (ge_sub (ge_var n_last rfl) (ge_var n_first rfl)) ge_int)))) ?_ ?_)
      · have hwin := hw y.toNat x.toNat (by omega) (by omega)
        have ex : ((x.toNat : Nat) : Int) = x := by omega
        have ey : ((y.toNat : Nat) : Int) = y := by omega
        rw [ex, ey] at hwin
        simpa using hwin
      refine gss_nil ?_
      refine gss_norm rfl ?_
      refine gss_nil ?_
      exact ⟨ys, _, rfl, fun z hz => hy z (List.mem_cons_of_mem _ hz), rfl, rfl⟩
    · intro Γ' τ' hI
      obtain ⟨ys, s4, e, hy, rfl, rfl⟩ := hI
      refine gss_norm rfl ?_
      refine gss_nil ?_
      exact ⟨xs, _, _, rfl, fun z hz => hx z (List.mem_cons_of_mem _ hz), rfl, rfl⟩
  · intro Γ' τ' hI
    obtain ⟨xs, s3, s4, e, hx, rfl, rfl⟩ := hI
    refine gss_norm rfl ?_
    refine gss_cons (gs_ret ge_bl ?_)
    exact ⟨rfl, rfl⟩
theorem p_keeps_windows {W : Wd} {f : Addr} {fd : FuncData} (B : Bt W.mg) (F : Fun W.K "keeps_windows" "keeps_windows" s_keeps_windows f fd) (hb : Binds W.K fd ["sums", "size", "rate"] []) (hm : W.mg "keeps_windows" = some (.ref f)) : FnP W 1 "keeps_windows" C_keeps_windows :=
  fnP_of F sc_keeps_windows hb hm (fun ds d h => by obtain ⟨sm, s, r, rfl, hl, hr, hw, rfl⟩ := h; rfl) fun X hX c => b_keeps_windows B X hX c
end PD

set_option Elab.async false
set_option linter.all false
set_option maxRecDepth 100000
set_option maxHeartbeats 2000000
namespace PD
open PySem PySem.Spec PyProof.Rows L2
abbrev s_is_outlet : Stmt := topS 30
theorem sc_is_outlet : FnScope ["arrivals", "size", "rate", "thing", "sums", "out", "coming"] ["arrivals", "size", "rate", "thing"] (defScope s_is_outlet) := ⟨rfl, rfl, rfl, by decide +kernel, rfl, by decide +kernel, by decide +kernel⟩
abbrev C_is_outlet : List D → D → Prop := fun ds d => ∃ (as : List Int) (s r : Int) (os : List Int), ds = [.lst (as.map .int), .int s, .int r, .lst (os.map .int)] ∧ QOk as s r ∧ OutOk as s r os ∧ d = .bl true
theorem b_is_outlet {W : Wd} (B : Bt W.mg) (F_need_queue : FnP W 5 "need_queue" C_need_queue) (F_sums_of : FnP W 1 "sums_of" C_sums_of) (F_keeps_windows : FnP W 1 "keeps_windows" C_keeps_windows) (F_is_list : FnP W 1 "is_list" C_is_list) (F_is_number : FnP W 1 "is_number" C_is_number) : ∀ X : Cx, wd X = W → Cn X (defScope s_is_outlet) ["arrivals", "size", "rate", "thing", "sums", "out", "coming"] 5 → ∀ ds d τ, C_is_outlet ds d → GSs X false (defBody s_is_outlet) (entry ["arrivals", "size", "rate", "thing", "sums", "out", "coming"] (ds.map .dat)) τ (Ret d τ) := by
  intro X hX c ds d τ hC
  obtain ⟨as, s, r, os, rfl, hq, ho, rfl⟩ := hC
  have hl : as.length ≤ 400 := hq.a.len
  have hrr := hq.hr
  have hss := hq.hs
  have hol := ho.len
  have hw := ho.win
  have n_arrivals : Nm X 0 "arrivals" := c.nm rfl (by decide +kernel) (by decide +kernel) (by decide +kernel)
  have n_size : Nm X 1 "size" := c.nm rfl (by decide +kernel) (by decide +kernel) (by decide +kernel)
  have n_rate : Nm X 2 "rate" := c.nm rfl (by decide +kernel) (by decide +kernel) (by decide +kernel)
  have n_thing : Nm X 3 "thing" := c.nm rfl (by decide +kernel) (by decide +kernel) (by decide +kernel)
  have n_sums : Nm X 4 "sums" := c.nm rfl (by decide +kernel) (by decide +kernel) (by decide +kernel)
  refine gss_is ?_ (by simp only [entry, List.map, List.length, List.cons_append, List.nil_append, List.replicate, Nat.reduceSub, Nat.reduceAdd] <;> exact rfl)
  refine gss_cons (gs_expr (ge_call (fp_of hX F_need_queue) ((c).low (by decide)) ((c).g (by decide +kernel)) ⟨false, _, _, _, rfl, hq, rfl⟩ (ga_cons (ge_var n_arrivals rfl) (ga_cons (ge_var n_size rfl) (ga_cons (ge_var n_rate rfl) ga_nil)))) ?_)
  refine gss_norm rfl ?_
  refine gss_cons (gs_ifF (GW.t (gw_or (gt_not (gt_val (ge_call (fp_of hX F_is_list) ((c).low (by decide)) ((c).g (by decide +kernel)) ⟨false, _, rfl, rfl⟩ (ga_cons (ge_var n_thing rfl) ga_nil)))) (fun ht1_0 => (gw_or (gt_neI (c).r (ge_len (bt_of hX B) ((c).g (by decide +kernel)) (gl_of (ge_var n_thing rfl))) (ge_len (bt_of hX B) ((c).g (by decide +kernel)) (gl_of (ge_var n_arrivals rfl)))) (fun ht1_1 => (gw_or1 (gt_not (gt_val (ge_all (bt_of hX B) (c).calm ((c).g (by decide +kernel)) (gl_new (gn_lcmf (w := true) (enc := .int) (xs := os) (f2 := .bl) c [("out", 5)] (by decide +kernel) (by rw [sizeLine_val]; omega) (gi_list (ge_var n_thing rfl)) (fun x1 hx1 t1 => ⟨_, fun X1 B1 => ⟨(gg_name ((B1.cn c)).ndX (((B1.cn c)).sm (i := 5) rfl (by decide +kernel)) (by simp)), gts_nil, fun hp1 => (ge_and (ge_call (fp_of (B1.w.trans hX) F_is_number) (((B1.cn c)).low (by decide)) (((B1.cn c)).g (by decide +kernel)) ⟨_, rfl, rfl⟩ (ga_cons (ge_var (((B1.cn c)).nm (i := 5) rfl (by decide +kernel) (by decide +kernel) (by decide +kernel)) rfl) ga_nil)) (fun hb2_0 => (ge_one (ge_ge (ge_var (((B1.cn c)).nm (i := 5) rfl (by decide +kernel) (by decide +kernel) (by decide +kernel)) rfl) ge_int))) (fun _ => rfl))⟩⟩)))))))) (fun _ => rfl))) (fun _ => rfl))) ?_ ?_)
  · simp only [List.length_map, hol, decide_true, Bool.not_true, Bool.false_or, Bool.not_eq_false', List.all_map, List.all_eq_true]
    intro o h
    simp [ho.pos o h]
  refine gss_nil ?_
  refine gss_norm rfl ?_
  refine gss_cons (gs_set (c).ndX (c.sm (i := 4) rfl (by decide +kernel)) (gv_e (ge_call (fp_of hX F_sums_of) ((c).low (by decide)) ((c).g (by decide +kernel)) ⟨_, rfl, (by omega), rfl⟩ (ga_cons (ge_var n_thing rfl) ga_nil))) ?_)
  refine gss_norm (by simp only [setSls, List.zip, List.zipWith, List.set_cons_zero, List.set_cons_succ] <;> exact rfl) ?_
  refine gss_cons (gs_ifF (gt_val (ge_any (bt_of hX B) (c).calm ((c).g (by decide +kernel)) (gl_new (gn_lcmf (w := true) (xs := List.zip (sums os) (sums as)) (enc := fun p => .tup [.int p.1, .int p.2]) (f2 := .bl) c [("out", 5), ("coming", 6)] (by decide +kernel) (by rw [sizeLine_val, List.length_zip, sums_len, sums_len]; omega) (GI.is (gi_zip (bt_of hX B) ((c).g (by decide +kernel)) (ge_var n_sums rfl) (ge_call (fp_of hX F_sums_of) ((c).low (by decide)) ((c).g (by decide +kernel)) ⟨_, rfl, (by omega), rfl⟩ (ga_cons (ge_var n_arrivals rfl) ga_nil))) zipD_map) (fun x1 hx1 t1 => ⟨_, fun X1 B1 => ⟨(gg_tup ((B1.cn c)).calm (ggs_cons (gg_name ((B1.cn c)).ndX (((B1.cn c)).sm (i := 5) rfl (by decide +kernel)) (by simp)) (ggs_cons (gg_name ((B1.cn c)).ndX (((B1.cn c)).sm (i := 6) rfl (by decide +kernel)) (by simp)) ggs_nil))), gts_nil, fun hp1 => (ge_gt (ge_var (((B1.cn c)).nm (i := 5) rfl (by decide +kernel) (by decide +kernel) (by decide +kernel)) rfl) (ge_var (((B1.cn c)).nm (i := 6) rfl (by decide +kernel) (by decide +kernel) (by decide +kernel)) rfl))⟩⟩))))) ?_ ?_)
  · simp only [List.any_map, List.any_eq_false]
    rintro ⟨o, k⟩ h
    obtain ⟨i, hi, e1, e2⟩ := zip_get h
    have := ho.le i hi
    rw [e1, e2] at this
    simpa using this
  refine gss_nil ?_
  refine gss_norm rfl ?_
  refine gss_cons (gs_ret (ge_call (fp_of hX F_keeps_windows) ((c).low (by decide)) ((c).g (by decide +kernel)) ⟨_, _, _, rfl, (by simp [sums_len]; omega), (by omega), hw, rfl⟩ (ga_cons (ge_var n_sums rfl) (ga_cons (ge_var n_size rfl) (ga_cons (ge_var n_rate rfl) ga_nil)))) ?_)
  exact ⟨rfl, rfl⟩
theorem p_is_outlet {W : Wd} {f : Addr} {fd : FuncData} (B : Bt W.mg) (F_need_queue : FnP W 5 "need_queue" C_need_queue) (F_sums_of : FnP W 1 "sums_of" C_sums_of) (F_keeps_windows : FnP W 1 "keeps_windows" C_keeps_windows) (F_is_list : FnP W 1 "is_list" C_is_list) (F_is_number : FnP W 1 "is_number" C_is_number) (F : Fun W.K "is_outlet" "is_outlet" s_is_outlet f fd) (hb : Binds W.K fd ["arrivals", "size", "rate", "thing"] []) (hm : W.mg "is_outlet" = some (.ref f)) : FnP W 6 "is_outlet" C_is_outlet :=
  fnP_of F sc_is_outlet hb hm (fun ds d h => by obtain ⟨as, s, r, os, rfl, hq, ho, rfl⟩ := h; rfl) fun X hX c => b_is_outlet B F_need_queue F_sums_of F_keeps_windows F_is_list F_is_number X hX c

abbrev s_bounds : Stmt := topS 31
theorem sc_bounds : FnScope ["arrivals", "size", "rate", "coming", "out", "found", "tick", "several", "begin", "told"] ["arrivals", "size", "rate"] (defScope s_bounds) := ⟨rfl, rfl, rfl, by decide +kernel, rfl, by decide +kernel, by decide +kernel⟩
abbrev C_bounds : List D → D → Prop := fun ds d => ∃ (as : List Int) (s r : Int), ds = [.lst (as.map .int), .int s, .int r] ∧ QOk as s r ∧ d = .lst ((bndsQ s r as).map .int)
theorem b_bounds {W : Wd} (B : Bt W.mg) (F_need_queue : FnP W 5 "need_queue" C_need_queue) (F_sums_of : FnP W 1 "sums_of" C_sums_of) (F_led_queue : FnP W 1 "led_queue" C_led_queue) : ∀ X : Cx, wd X = W → Cn X (defScope s_bounds) ["arrivals", "size", "rate", "coming", "out", "found", "tick", "several", "begin", "told"] 5 → ∀ ds d τ, C_bounds ds d → GSs X false (defBody s_bounds) (entry ["arrivals", "size", "rate", "coming", "out", "found", "tick", "several", "begin", "told"] (ds.map .dat)) τ (Ret d τ) := by
  intro X hX c ds d τ hC
  obtain ⟨as, s, r, rfl, hq, rfl⟩ := hC
  have hl : as.length ≤ 400 := hq.a.len
  have hl3 : as.length ≤ 1000 := by omega
  have hrr := hq.hr
  have hss := hq.hs
  have hol : (outQ s r as).length = as.length := outQ_len
  have n_arrivals : Nm X 0 "arrivals" := c.nm rfl (by decide +kernel) (by decide +kernel) (by decide +kernel)
  have n_size : Nm X 1 "size" := c.nm rfl (by decide +kernel) (by decide +kernel) (by decide +kernel)
  have n_rate : Nm X 2 "rate" := c.nm rfl (by decide +kernel) (by decide +kernel) (by decide +kernel)
  have n_coming : Nm X 3 "coming" := c.nm rfl (by decide +kernel) (by decide +kernel) (by decide +kernel)
  have n_out : Nm X 4 "out" := c.nm rfl (by decide +kernel) (by decide +kernel) (by decide +kernel)
  have n_found : Nm X 5 "found" := c.nm rfl (by decide +kernel) (by decide +kernel) (by decide +kernel)
  have n_tick : Nm X 6 "tick" := c.nm rfl (by decide +kernel) (by decide +kernel) (by decide +kernel)
  have n_several : Nm X 7 "several" := c.nm rfl (by decide +kernel) (by decide +kernel) (by decide +kernel)
  refine gss_is ?_ (by simp only [entry, List.map, List.length, List.cons_append, List.nil_append, List.replicate, Nat.reduceSub, Nat.reduceAdd] <;> exact rfl)
  refine gss_cons (gs_expr (ge_call (fp_of hX F_need_queue) ((c).low (by decide)) ((c).g (by decide +kernel)) ⟨false, _, _, _, rfl, hq, rfl⟩ (ga_cons (ge_var n_arrivals rfl) (ga_cons (ge_var n_size rfl) (ga_cons (ge_var n_rate rfl) ga_nil)))) ?_)
  refine gss_norm rfl ?_
  refine gss_cons (gs_set (c).ndX (c.sm (i := 3) rfl (by decide +kernel)) (gv_e (ge_call (fp_of hX F_sums_of) ((c).low (by decide)) ((c).g (by decide +kernel)) ⟨_, rfl, (by omega), rfl⟩ (ga_cons (ge_var n_arrivals rfl) ga_nil))) ?_)
  refine gss_norm (by simp only [setSls, List.zip, List.zipWith, List.set_cons_zero, List.set_cons_succ] <;> exact rfl) ?_
  refine gss_cons (gs_tup (is := [4, 5]) (c).calm (c).ndX (.cons (c.sm (i := 4) rfl (by decide +kernel)) (.cons (c.sm (i := 5) rfl (by decide +kernel)) .nil rfl) rfl) (gvs_cons (gv_e (ge_call (fp_of hX F_sums_of) ((c).low (by decide)) ((c).g (by decide +kernel)) ⟨outQ s r as, rfl, (by omega), rfl⟩ (ga_cons (ge_new (gn_lcmf (w := true) (enc := tri) (xs := ledQ s r s 0 as) (f2 := .int) c [("told", 9)] (by decide +kernel) (by rw [ledQ_len, sizeLine_val]; omega) (gi_list (ge_call (fp_of hX F_led_queue) ((c).low (by decide)) ((c).g (by decide +kernel)) ⟨false, _, _, _, rfl, hl3, rfl⟩ (ga_cons (ge_var n_arrivals rfl) (ga_cons (ge_var n_size rfl) (ga_cons (ge_var n_rate rfl) ga_nil))))) (fun x1 hx1 t1 => ⟨_, fun X1 B1 => ⟨(gg_name ((B1.cn c)).ndX (((B1.cn c)).sm (i := 9) rfl (by decide +kernel)) (by simp)), gts_nil, fun hp1 => (ge_ixT (by rfl) (ge_var (((B1.cn c)).nm (i := 9) rfl (by decide +kernel) (by decide +kernel) (by decide +kernel)) rfl) ge_int)⟩⟩))) ga_nil))) (gvs_cons (gv_n (gn_lst ga_nil)) gvs_nil)) rfl (by first | decide | simp) ?_ (noswapC2 c (by first | exact .inl (by decide +kernel) | exact .inr (by decide +kernel)) (by decide +kernel)))
  refine gss_norm (by simp only [setSls, List.zip, List.zipWith, List.set_cons_zero, List.set_cons_succ] <;> exact rfl) ?_
  refine gss_cons (gs_for (c).xe (c).calm (gi_range1 (bt_of hX B) ((c).g (by decide +kernel)) (by simp only [List.length_map]; omega) (by simp only [List.length_map]; omega) (ge_len (bt_of hX B) ((c).g (by decide +kernel)) (gl_of (ge_var n_arrivals rfl)))) (fun rest Γ' τ' => ∃ (xs : List Int) (zs : List D) (s5 s7 s8 s9 : Sl), rest = xs.map .int ∧ (∀ x ∈ xs, 0 ≤ x ∧ x < as.length) ∧ zs ++ (xs.map (bndAt s r as)).map .int = (bndsQ s r as).map .int ∧ zs.length + xs.length = as.length ∧ Γ' = [.dat (.lst (as.map .int)), .dat (.int s), .dat (.int r), .dat (.lst ((sums as).map .int)), .dat (.lst ((sums (outQ s r as)).map .int)), .own zs, s5, s7, s8, s9] ∧ τ = τ') ?_ ?_ ?_)
  · exact ⟨irange 0 as.length, [], _, _, _, _, by simp, fun x hx => by rw [irange_mem] at hx; omega, rfl, by simp [irange_len], rfl, rfl⟩
  · intro d rest Γ' τ' hI
    obtain ⟨xs, zs, s5, s7, s8, s9, e, hx, e2, e3, rfl, rfl⟩ := hI
    obtain ⟨x, xs, rfl, rfl, rfl⟩ := map_cons_inv e
    obtain ⟨hx1', hx2'⟩ := hx x List.mem_cons_self
    simp only [List.length_cons] at e3
    refine ⟨_, [6], (gg_name (c).ndX (c.sm (i := 6) rfl (by decide +kernel)) (by simp)), ?_⟩
    refine gss_is ?_ (by simp only [List.set_cons_zero, List.set_cons_succ] <;> exact rfl)
    refine gss_cons (gs_setLcf (w := true) (enc := .int) (xs := irange 0 (x + 1).toNat) (f2 := .int) c (c.sm (i := 7) rfl (by decide +kernel)) (by decide +kernel) [("begin", 8)] (by decide +kernel) (by rw [irange_len, sizeLine_val]; omega) (gi_range1 (bt_of hX B) ((c).g (by decide +kernel)) (by omega) (by omega) (ge_add (ge_var n_tick rfl) ge_int)) (fun x1 hx1 t1 => ⟨_, fun X1 B1 => ⟨(gg_name ((B1.cn c)).ndX (((B1.cn c)).sm (i := 8) rfl (by decide +kernel)) (by simp)), (gts_one (gt_eqI ((B1.cn c)).r (ge_ixL (zs := []) (atI_ints (by omega) (by rw [sums_len, outQ_len]; omega)) (gl_of (ge_var (((B1.cn c)).nm (i := 4) rfl (by decide +kernel) (by decide +kernel) (by decide +kernel)) rfl)) (ge_add (ge_var (((B1.cn c)).nm (i := 6) rfl (by decide +kernel) (by decide +kernel) (by decide +kernel)) rfl) ge_int)) (ge_add (ge_add (ge_ixL (zs := []) (by rw [irange_mem] at hx1; exact atI_ints (by omega) (by rw [sums_len]; omega)) (gl_of (ge_var (((B1.cn c)).nm (i := 3) rfl (by decide +kernel) (by decide +kernel) (by decide +kernel)) rfl)) (ge_var (((B1.cn c)).nm (i := 8) rfl (by decide +kernel) (by decide +kernel) (by decide +kernel)) rfl)) (ge_var (((B1.cn c)).nm (i := 1) rfl (by decide +kernel) (by decide +kernel) (by decide +kernel)) rfl)) (ge_mul (.inl (by constructor <;> omega)) (ge_var (((B1.cn c)).nm (i := 2) rfl (by decide +kernel) (by decide +kernel) (by decide +kernel)) rfl) (ge_sub (ge_var (((B1.cn c)).nm (i := 6) rfl (by decide +kernel) (by decide +kernel) (by decide +kernel)) rfl) (ge_var (((B1.cn c)).nm (i := 8) rfl (by decide +kernel) (by decide +kernel) (by decide +kernel)) rfl)))))), fun hp1 => (ge_var (((B1.cn c)).nm (i := 8) rfl (by decide +kernel) (by decide +kernel) (by decide +kernel)) rfl)⟩⟩) rfl (by decide +kernel) ?_)
    refine gss_norm (by simp only [setSls, List.zip, List.zipWith, List.set_cons_zero, List.set_cons_succ] <;> exact rfl) ?_
    refine gss_freeze 7 rfl ?_
    refine gss_is ?_ (by simp only [List.set_cons_zero, List.set_cons_succ] <;> exact rfl)
    refine gss_cons (gs_append n_found rfl (ge_iteI (gt_neC (s := true) (n := 12) (c).r (by dsimp only [Opd.d]; exact shc) (by dsimp only [Opd.d]; exact shc) (by decide) (ge_var n_several rfl) (gl_new (gn_lst ga_nil))) (fun hc1 => (ge_ixL (zs := []) (headD_at (z := x + 1) (ne_nil_of hc1)) (gl_of (ge_var n_several rfl)) ge_int)) (fun hc1 => (ge_add (ge_var n_tick rfl) ge_int))) (by rw [sizeLine_val]; omega) ?_)
    refine gss_norm (by simp only [setSls, List.zip, List.zipWith, List.set_cons_zero, List.set_cons_succ] <;> exact rfl) ?_
    refine gss_nil ?_
    refine ⟨xs, _, _, _, _, _, rfl, fun z hz => hx z (List.mem_cons_of_mem _ hz), ?_, by simp; omega, rfl, rfl⟩
    rw [← e2]
    simp only [List.map_cons, List.append_assoc, List.singleton_append, Opd.d, ite_head, bndAt, List.map_id']
  · intro Γ' τ' hI
    obtain ⟨xs, zs, s5, s7, s8, s9, e, hx, e2, e3, rfl, rfl⟩ := hI
    obtain rfl := map_nil_inv e
    simp only [List.map_nil, List.append_nil] at e2
    refine gss_norm rfl ?_
    refine gss_freeze 5 rfl ?_
    refine gss_is ?_ (by simp only [List.set_cons_zero, List.set_cons_succ] <;> exact rfl)
    refine gss_cons (gs_ret (ge_var n_found rfl) ?_)
    exact ⟨by rw [e2], rfl⟩
theorem p_bounds {W : Wd} {f : Addr} {fd : FuncData} (B : Bt W.mg) (F_need_queue : FnP W 5 "need_queue" C_need_queue) (F_sums_of : FnP W 1 "sums_of" C_sums_of) (F_led_queue : FnP W 1 "led_queue" C_led_queue) (F : Fun W.K "bounds" "bounds" s_bounds f fd) (hb : Binds W.K fd ["arrivals", "size", "rate"] []) (hm : W.mg "bounds" = some (.ref f)) : FnP W 6 "bounds" C_bounds :=
  fnP_of F sc_bounds hb hm (fun ds d h => by obtain ⟨as, s, r, rfl, hq, rfl⟩ := h; rfl) fun X hX c => b_bounds B F_need_queue F_sums_of F_led_queue X hX c

abbrev s_stage_right : Stmt := topS 32
theorem sc_stage_right : FnScope ["thing"] ["thing"] (defScope s_stage_right) := ⟨rfl, rfl, rfl, by decide +kernel, rfl, by decide +kernel, by decide +kernel⟩
abbrev C_stage_right : List D → D → Prop := fun ds d => ∃ p, ds = [stD p] ∧ SOk p ∧ d = .bl true
theorem b_stage_right {W : Wd} (B : Bt W.mg) (mg_MOST_COMING : CInt W "MOST_COMING" 1000000) (F_is_between : FnP W 2 "is_between" C_is_between) : ∀ X : Cx, wd X = W → Cn X (defScope s_stage_right) ["thing"] 2 → ∀ ds d τ, C_stage_right ds d → GSs X false (defBody s_stage_right) (entry ["thing"] (ds.map .dat)) τ (Ret d τ) := by
  intro X hX c ds d τ hC
  obtain ⟨p, rfl, ⟨h1, h2, h3, h4⟩, rfl⟩ := hC
  have n_thing : Nm X 0 "thing" := c.nm rfl (by decide +kernel) (by decide +kernel) (by decide +kernel)
  refine gss_is ?_ (by simp only [entry, List.map, List.length, List.cons_append, List.nil_append, List.replicate, Nat.reduceSub, Nat.reduceAdd] <;> exact rfl)
  refine gss_cons (gs_ifF (GW.t (gw_or (gt_not (gt_val (ge_isinst (T := "tuple") (q := true) (bt_of hX B) ((c).g (by decide +kernel)) ((c).g (by decide +kernel)) (bt_of hX B).tuple (by decide +kernel) rfl (by exact (show kitB "tuple" "tuple" = some true from by decide +kernel)) (ge_var n_thing rfl)))) (fun ht1_0 => (gw_or (gt_neI (c).r (ge_lenT (bt_of hX B) ((c).g (by decide +kernel)) (ge_var n_thing rfl)) ge_int) (fun ht1_1 => (gw_or1 (gt_not (gt_val (ge_call (fp_of hX F_is_between) ((c).low (by decide)) ((c).g (by decide +kernel)) ⟨_, _, _, rfl, rfl⟩ (ga_cons (ge_ixT (by rfl) (ge_var n_thing rfl) ge_int) (ga_cons ge_int (ga_cons (ge_globC hX ((c).g (by decide +kernel)) mg_MOST_COMING) ga_nil)))))))) (fun _ => rfl))) (fun _ => rfl))) ?_ ?_)
  · simp [h1, h2]
  refine gss_nil ?_
  refine gss_norm rfl ?_
  refine gss_cons (gs_ret (ge_call (fp_of hX F_is_between) ((c).low (by decide)) ((c).g (by decide +kernel)) ⟨_, _, _, rfl, rfl⟩ (ga_cons (ge_ixT (by rfl) (ge_var n_thing rfl) ge_int) (ga_cons ge_int (ga_cons (ge_ixT (by rfl) (ge_var n_thing rfl) ge_int) ga_nil)))) ?_)
  exact ⟨by simp [h3, h4], rfl⟩
theorem p_stage_right {W : Wd} {f : Addr} {fd : FuncData} (B : Bt W.mg) (mg_MOST_COMING : CInt W "MOST_COMING" 1000000) (F_is_between : FnP W 2 "is_between" C_is_between) (F : Fun W.K "stage_right" "stage_right" s_stage_right f fd) (hb : Binds W.K fd ["thing"] []) (hm : W.mg "stage_right" = some (.ref f)) : FnP W 3 "stage_right" C_stage_right :=
  fnP_of F sc_stage_right hb hm (fun ds d h => by obtain ⟨p, rfl, hp, rfl⟩ := h; rfl) fun X hX c => b_stage_right B mg_MOST_COMING F_is_between X hX c

abbrev s_in_line : Stmt := topS 33
theorem sc_in_line : FnScope ["arrivals", "stages", "index", "stage", "several", "size", "rate", "told"] ["arrivals", "stages"] (defScope s_in_line) := ⟨rfl, rfl, rfl, by decide +kernel, rfl, by decide +kernel, by decide +kernel⟩
abbrev C_in_line : List D → D → Prop := fun ds d => ∃ (as : List Int) (st : List (Int × Int)), ds = [.lst (as.map .int), .lst (st.map stD)] ∧ AOk as ∧ (1 ≤ st.length ∧ st.length ≤ 6) ∧ (∀ p ∈ st, SOk p) ∧ d = .lst ((lineQ as st).map .int)
theorem b_in_line {W : Wd} (B : Bt W.mg) (mg_MOST_STAGES : CInt W "MOST_STAGES" 6) (F_need_arrivals : FnP W 4 "need_arrivals" C_need_arrivals) (F_is_list : FnP W 1 "is_list" C_is_list) (F_stage_right : FnP W 3 "stage_right" C_stage_right) (F_led_queue : FnP W 1 "led_queue" C_led_queue) : ∀ X : Cx, wd X = W → Cn X (defScope s_in_line) ["arrivals", "stages", "index", "stage", "several", "size", "rate", "told"] 4 → ∀ ds d τ, C_in_line ds d → GSs X false (defBody s_in_line) (entry ["arrivals", "stages", "index", "stage", "several", "size", "rate", "told"] (ds.map .dat)) τ (Ret d τ) := by
  intro X hX c ds d τ hC
  obtain ⟨as, st, rfl, ha, hst, hs, rfl⟩ := hC
  have hl := ha.len
  have n_arrivals : Nm X 0 "arrivals" := c.nm rfl (by decide +kernel) (by decide +kernel) (by decide +kernel)
  have n_stages : Nm X 1 "stages" := c.nm rfl (by decide +kernel) (by decide +kernel) (by decide +kernel)
  have n_index : Nm X 2 "index" := c.nm rfl (by decide +kernel) (by decide +kernel) (by decide +kernel)
  have n_stage : Nm X 3 "stage" := c.nm rfl (by decide +kernel) (by decide +kernel) (by decide +kernel)
  have n_several : Nm X 4 "several" := c.nm rfl (by decide +kernel) (by decide +kernel) (by decide +kernel)
  have n_size : Nm X 5 "size" := c.nm rfl (by decide +kernel) (by decide +kernel) (by decide +kernel)
  have n_rate : Nm X 6 "rate" := c.nm rfl (by decide +kernel) (by decide +kernel) (by decide +kernel)
  refine gss_is ?_ (by simp only [entry, List.map, List.length, List.cons_append, List.nil_append, List.replicate, Nat.reduceSub, Nat.reduceAdd] <;> exact rfl)
  refine gss_cons (gs_expr (ge_call (fp_of hX F_need_arrivals) ((c).low (by decide)) ((c).g (by decide +kernel)) ⟨false, _, rfl, ha, rfl⟩ (ga_cons (ge_var n_arrivals rfl) ga_nil)) ?_)
  refine gss_norm rfl ?_
  refine gss_cons (gs_ifF (GW.t (gw_or (gt_not (gt_val (ge_call (fp_of hX F_is_list) ((c).low (by decide)) ((c).g (by decide +kernel)) ⟨false, _, rfl, rfl⟩ (ga_cons (ge_var n_stages rfl) ga_nil)))) (fun ht1_0 => (gw_or1 (gt_not (gt_chain op_le op_le rg_le (fun _ => rg_le) (by with_unfolding_all rfl) ge_int (ge_len (bt_of hX B) ((c).g (by decide +kernel)) (gl_of (ge_var n_stages rfl))) (fun _ => (ge_globC hX ((c).g (by decide +kernel)) mg_MOST_STAGES)) (fun _ => rfl))))) (fun _ => rfl))) ?_ ?_)
  · simp; omega
  refine gss_nil ?_
  refine gss_norm rfl ?_
  refine gss_cons (gs_for (c).xe (c).calm (gi_enum (bt_of hX B) ((c).g (by decide +kernel)) (ge_var n_stages rfl)) (fun rest Γ' τ' => ∃ (ps : List (Int × Int)) (k : Nat) (s2 s3 : Sl), rest = enumD k (ps.map stD) ∧ (∀ p ∈ ps, SOk p) ∧ Γ' = [.dat (.lst (as.map .int)), .dat (.lst (st.map stD)), s2, s3, .no, .no, .no, .no] ∧ τ = τ') ?_ ?_ ?_)
  · exact ⟨st, 0, _, _, rfl, hs, rfl, rfl⟩
  · intro d rest Γ' τ' hI
    obtain ⟨ps, k, s2, s3, e, hps, rfl, rfl⟩ := hI
    obtain ⟨x, xs, e1, rfl, rfl⟩ := enumD_cons_inv e
    obtain ⟨p, ps, rfl, rfl, rfl⟩ := map_cons_inv e1.symm
    have hp := hps p List.mem_cons_self
    refine ⟨_, [2, 3], (gg_tup (c).calm (ggs_cons (gg_name (c).ndX (c.sm (i := 2) rfl (by decide +kernel)) (by simp)) (ggs_cons (gg_name (c).ndX (c.sm (i := 3) rfl (by decide +kernel)) (by simp)) ggs_nil))), ?_⟩
    refine gss_is ?_ (by simp only [List.set_cons_zero, List.set_cons_succ] <;> exact rfl)
    refine gss_cons (gs_ifF (gt_not (gt_val (ge_call (fp_of hX F_stage_right) ((c).low (by decide)) ((c).g (by decide +kernel)) ⟨_, rfl, hp, rfl⟩ (ga_cons (ge_var n_stage rfl) ga_nil)))) ?_ ?_)
    · rfl
    refine gss_nil ?_
    refine gss_norm rfl ?_
    refine gss_nil ?_
    exact ⟨ps, k + 1, _, _, rfl, fun x hx => hps x (List.mem_cons_of_mem _ hx), rfl, rfl⟩
  · intro Γ' τ' hI
    obtain ⟨ps, k, s2, s3, e, hps, rfl, rfl⟩ := hI
    refine gss_norm rfl ?_
    refine gss_cons (gs_set (c).ndX (c.sm (i := 4) rfl (by decide +kernel)) (gv_e (ge_new (gn_list (bt_of hX B) ((c).g (by decide +kernel)) (gl_of (ge_var n_arrivals rfl))))) ?_)
    refine gss_norm (by simp only [setSls, List.zip, List.zipWith, List.set_cons_zero, List.set_cons_succ] <;> exact rfl) ?_
    refine gss_cons (gs_for (c).xe (c).calm (gi_list (ge_var n_stages rfl)) (fun rest Γ' τ' => ∃ (xs : List Int) (ps : List (Int × Int)) (s5 s6 : Sl), rest = ps.map stD ∧ lineQ xs ps = lineQ as st ∧ xs.length ≤ 1000 ∧ Γ' = [.dat (.lst (as.map .int)), .dat (.lst (st.map stD)), s2, s3, .dat (.lst (xs.map .int)), s5, s6, .no] ∧ τ = τ') ?_ ?_ ?_)
    · exact ⟨as, st, _, _, rfl, rfl, by omega, rfl, rfl⟩
    · intro d rest Γ' τ' hI
      obtain ⟨xs, ps, s5, s6, e, e2, hxl, rfl, rfl⟩ := hI
      obtain ⟨p, ps, rfl, rfl, rfl⟩ := map_cons_inv e
      refine ⟨_, [5, 6], (gg_tup (c).calm (ggs_cons (gg_name (c).ndX (c.sm (i := 5) rfl (by decide +kernel)) (by simp)) (ggs_cons (gg_name (c).ndX (c.sm (i := 6) rfl (by decide +kernel)) (by simp)) ggs_nil))), ?_⟩
      refine gss_is ?_ (by simp only [List.set_cons_zero, List.set_cons_succ] <;> exact rfl)
      refine gss_cons (gs_setLcmf (w := true) (enc := tri) (xs := ledQ p.1 p.2 p.1 0 xs) (f2 := .int) c (c.sm (i := 4) rfl (by decide +kernel)) (by decide +kernel) [("told", 7)] (by decide +kernel) (by rw [ledQ_len, sizeLine_val]; omega) (gi_list (ge_call (fp_of hX F_led_queue) ((c).low (by decide)) ((c).g (by decide +kernel)) ⟨false, xs, p.1, p.2, rfl, hxl, rfl⟩ (ga_cons (ge_var n_several rfl) (ga_cons (ge_var n_size rfl) (ga_cons (ge_var n_rate rfl) ga_nil))))) (fun x1 hx1 t1 => ⟨_, fun X1 B1 => ⟨(gg_name ((B1.cn c)).ndX (((B1.cn c)).sm (i := 7) rfl (by decide +kernel)) (by simp)), gts_nil, fun hp1 => (ge_ixT (by rfl) (ge_var (((B1.cn c)).nm (i := 7) rfl (by decide +kernel) (by decide +kernel) (by decide +kernel)) rfl) ge_int)⟩⟩) rfl (by decide +kernel) ?_)
      refine gss_norm (by simp only [setSls, List.zip, List.zipWith, List.set_cons_zero, List.set_cons_succ] <;> exact rfl) ?_
      refine gss_freeze 4 rfl ?_
      refine gss_is ?_ (by simp only [List.set_cons_zero, List.set_cons_succ] <;> exact rfl)
      refine gss_nil ?_
      exact ⟨outQ p.1 p.2 xs, ps, _, _, rfl, by rw [← e2]; rfl, by rw [outQ_len]; exact hxl, rfl, rfl⟩
    · intro Γ' τ' hI
      obtain ⟨xs, ps, s5, s6, e, e2, hxl, rfl, rfl⟩ := hI
      obtain rfl := map_nil_inv e
      refine gss_norm rfl ?_
      refine gss_cons (gs_ret (ge_var n_several rfl) ?_)
      exact ⟨by rw [← e2]; rfl, rfl⟩
theorem p_in_line {W : Wd} {f : Addr} {fd : FuncData} (B : Bt W.mg) (mg_MOST_STAGES : CInt W "MOST_STAGES" 6) (F_need_arrivals : FnP W 4 "need_arrivals" C_need_arrivals) (F_is_list : FnP W 1 "is_list" C_is_list) (F_stage_right : FnP W 3 "stage_right" C_stage_right) (F_led_queue : FnP W 1 "led_queue" C_led_queue) (F : Fun W.K "in_line" "in_line" s_in_line f fd) (hb : Binds W.K fd ["arrivals", "stages"] []) (hm : W.mg "in_line" = some (.ref f)) : FnP W 5 "in_line" C_in_line :=
  fnP_of F sc_in_line hb hm (fun ds d h => by obtain ⟨as, st, rfl, ha, hst, hs, rfl⟩ := h; rfl) fun X hX c => b_in_line B mg_MOST_STAGES F_need_arrivals F_is_list F_stage_right F_led_queue X hX c
end PD

set_option Elab.async false
set_option linter.all false
set_option maxRecDepth 100000
set_option maxHeartbeats 2000000
namespace PD
open PySem PySem.Spec PyProof.Rows L2
abbrev s__law_queued : Stmt := topS 40
theorem sc__law_queued : FnScope ["arrivals", "size", "rate", "tokens", "waiting", "found", "number", "out"] ["arrivals", "size", "rate"] (defScope s__law_queued) := ⟨rfl, rfl, rfl, by decide +kernel, rfl, by decide +kernel, by decide +kernel⟩
abbrev C__law_queued : List D → D → Prop := fun ds d => ∃ (as : List Int) (s r : Int), ds = [.lst (as.map .int), .int s, .int r] ∧ as.length ≤ 100000 ∧ d = .lst ((ledQ s r s 0 as).map tri)
theorem b__law_queued {W : Wd} (B : Bt W.mg) : ∀ X : Cx, wd X = W → Cn X (defScope s__law_queued) ["arrivals", "size", "rate", "tokens", "waiting", "found", "number", "out"] 0 → ∀ ds d τ, C__law_queued ds d → GSs X false (defBody s__law_queued) (entry ["arrivals", "size", "rate", "tokens", "waiting", "found", "number", "out"] (ds.map .dat)) τ (Ret d τ) := by
  intro X hX c ds d τ hC
  obtain ⟨as, s, r, rfl, hl, rfl⟩ := hC
  have n_arrivals : Nm X 0 "arrivals" := c.nm rfl (by decide +kernel) (by decide +kernel) (by decide +kernel)
  have n_size : Nm X 1 "size" := c.nm rfl (by decide +kernel) (by decide +kernel) (by decide +kernel)
  have n_rate : Nm X 2 "rate" := c.nm rfl (by decide +kernel) (by decide +kernel) (by decide +kernel)
  have n_tokens : Nm X 3 "tokens" := c.nm rfl (by decide +kernel) (by decide +kernel) (by decide +kernel)
  have n_waiting : Nm X 4 "waiting" := c.nm rfl (by decide +kernel) (by decide +kernel) (by decide +kernel)
  have n_found : Nm X 5 "found" := c.nm rfl (by decide +kernel) (by decide +kernel) (by decide +kernel)
  have n_number : Nm X 6 "number" := c.nm rfl (by decide +kernel) (by decide +kernel) (by decide +kernel)
  have n_out : Nm X 7 "out" := c.nm rfl (by decide +kernel) (by decide +kernel) (by decide +kernel)
  refine gss_is ?_ (by simp only [entry, List.map, List.length, List.cons_append, List.nil_append, List.replicate, Nat.reduceSub, Nat.reduceAdd] <;> exact rfl)
  refine gss_cons (gs_par3 (c).calm (c).ndX (by rw [(c).hN]; rfl) (by rw [(c).hN]; rfl) (by rw [(c).hN]; rfl) (by decide) (by decide) (by decide) ((c).l (by decide +kernel)) ((c).l (by decide +kernel)) ((c).l (by decide +kernel)) (i := 3) (j := 4) (l := 5) (gvs_cons (gv_e (ge_var n_size rfl)) (gvs_cons (gv_e ge_int) (gvs_cons (gv_n (gn_lst ga_nil)) gvs_nil))) (swap3 c (by decide +kernel) (by decide +kernel) (by decide +kernel) (by decide +kernel) (by decide +kernel)) ?_)
  refine gss_norm (by simp only [setSls, List.zip, List.zipWith, List.set_cons_zero, List.set_cons_succ] <;> exact rfl) ?_
  refine gss_cons (gs_for (c).xe (c).calm (gi_list (ge_var n_arrivals rfl)) (fun rest Γ' τ' => ∃ (xs : List Int) (t w : Int) (zs : List D) (s6 s7 : Sl), rest = xs.map .int ∧ zs ++ (ledQ s r t w xs).map tri = (ledQ s r s 0 as).map tri ∧ zs.length + xs.length = as.length ∧ Γ' = [.dat (.lst (as.map .int)), .dat (.int s), .dat (.int r), .dat (.int t), .dat (.int w), .own zs, s6, s7] ∧ τ' = τ) ?_ ?_ ?_)
  · exact ⟨as, s, 0, [], _, _, rfl, rfl, by simp, rfl, rfl⟩
  · intro d rest Γ' τ' hI
    obtain ⟨xs, t, w, zs, s6, s7, e, e2, e3, rfl, rfl⟩ := hI
    obtain ⟨a, xs, rfl, rfl, rfl⟩ := map_cons_inv e
    simp only [List.length_cons] at e3
    refine ⟨_, [6], (gg_name (c).ndX (c.sm (i := 6) rfl (by decide +kernel)) (by simp)), ?_⟩
    refine gss_is ?_ (by simp only [List.set_cons_zero, List.set_cons_succ] <;> exact rfl)
    refine gss_cons (gs_par2 (c).calm (c).ndX (by rw [(c).hN]; rfl) (by rw [(c).hN]; rfl) (by decide) ((c).l (by decide +kernel)) ((c).l (by decide +kernel)) (i := 3) (j := 4) (gvs_cons (gv_e (ge_min2 (bt_of hX B) (c).calm ((c).g (by decide +kernel)) (ge_var n_size rfl) (ge_add (ge_var n_tokens rfl) (ge_var n_rate rfl)))) (gvs_cons (gv_e (ge_add (ge_var n_waiting rfl) (ge_var n_number rfl))) gvs_nil)) (swap2 c (by decide +kernel) (by decide +kernel) (by decide +kernel) (by decide +kernel)) ?_)
    refine gss_norm (by simp only [setSls, List.zip, List.zipWith, List.set_cons_zero, List.set_cons_succ] <;> exact rfl) ?_
    refine gss_cons (gs_set (c).ndX (c.sm (i := 7) rfl (by decide +kernel)) (gv_e (ge_min2 (bt_of hX B) (c).calm ((c).g (by decide +kernel)) (ge_var n_tokens rfl) (ge_var n_waiting rfl))) ?_)
    refine gss_norm (by simp only [setSls, List.zip, List.zipWith, List.set_cons_zero, List.set_cons_succ] <;> exact rfl) ?_
    refine gss_cons (gs_par2 (c).calm (c).ndX (by rw [(c).hN]; rfl) (by rw [(c).hN]; rfl) (by decide) ((c).l (by decide +kernel)) ((c).l (by decide +kernel)) (i := 3) (j := 4) (gvs_cons (gv_e (ge_sub (ge_var n_tokens rfl) (ge_var n_out rfl))) (gvs_cons (gv_e (ge_sub (ge_var n_waiting rfl) (ge_var n_out rfl))) gvs_nil)) (swap2 c (by decide +kernel) (by decide +kernel) (by decide +kernel) (by decide +kernel)) ?_)
    refine gss_norm (by simp only [setSls, List.zip, List.zipWith, List.set_cons_zero, List.set_cons_succ] <;> exact rfl) ?_
    refine gss_cons (gs_append n_found rfl (ge_tup (ga_cons (ge_var n_tokens rfl) (ga_cons (ge_var n_waiting rfl) (ga_cons (ge_var n_out rfl) ga_nil)))) (by rw [sizeLine_val]; omega) ?_)
    refine gss_norm (by simp only [setSls, List.zip, List.zipWith, List.set_cons_zero, List.set_cons_succ] <;> exact rfl) ?_
    refine gss_nil ?_
    exact ⟨xs, _, _, _, _, _, rfl, by rw [← e2]; simp [ledQ, tri], by simp; omega, rfl, rfl⟩
  · intro Γ' τ' hI
    obtain ⟨xs, t, w, zs, s6, s7, e, e2, e3, rfl, rfl⟩ := hI
    obtain rfl := map_nil_inv e
    simp only [ledQ, List.map_nil, List.append_nil] at e2
    refine gss_norm rfl ?_
    refine gss_freeze 5 rfl ?_
    refine gss_is ?_ (by simp only [List.set_cons_zero, List.set_cons_succ] <;> exact rfl)
    refine gss_cons (gs_ret (ge_var n_found rfl) ?_)
    exact ⟨by rw [e2], rfl⟩
theorem p__law_queued {W : Wd} {f : Addr} {fd : FuncData} (B : Bt W.mg) (F : Fun W.K "_law_queued" "_law_queued" s__law_queued f fd) (hb : Binds W.K fd ["arrivals", "size", "rate"] []) (hm : W.mg "_law_queued" = some (.ref f)) : FnP W 1 "_law_queued" C__law_queued :=
  fnP_of F sc__law_queued hb hm (fun ds d h => by obtain ⟨as, s, r, rfl, hl, rfl⟩ := h; rfl) fun X hX c => b__law_queued B X hX c

abbrev s__law_out : Stmt := topS 41
theorem sc__law_out : FnScope ["arrivals", "size", "rate", "tokens", "waiting", "out"] ["arrivals", "size", "rate"] (defScope s__law_out) := ⟨rfl, rfl, rfl, by decide +kernel, rfl, by decide +kernel, by decide +kernel⟩
abbrev C__law_out : List D → D → Prop := fun ds d => ∃ (as : List Int) (s r : Int), ds = [.lst (as.map .int), .int s, .int r] ∧ as.length ≤ 100000 ∧ d = .lst ((outQ s r as).map .int)
theorem b__law_out {W : Wd} (B : Bt W.mg) (F__law_queued : FnP W 1 "_law_queued" C__law_queued) : ∀ X : Cx, wd X = W → Cn X (defScope s__law_out) ["arrivals", "size", "rate", "tokens", "waiting", "out"] 1 → ∀ ds d τ, C__law_out ds d → GSs X false (defBody s__law_out) (entry ["arrivals", "size", "rate", "tokens", "waiting", "out"] (ds.map .dat)) τ (Ret d τ) := by
  intro X hX c ds d τ hC
  obtain ⟨as, s, r, rfl, hl, rfl⟩ := hC
  have n_arrivals : Nm X 0 "arrivals" := c.nm rfl (by decide +kernel) (by decide +kernel) (by decide +kernel)
  have n_size : Nm X 1 "size" := c.nm rfl (by decide +kernel) (by decide +kernel) (by decide +kernel)
  have n_rate : Nm X 2 "rate" := c.nm rfl (by decide +kernel) (by decide +kernel) (by decide +kernel)
  refine gss_is ?_ (by simp only [entry, List.map, List.length, List.cons_append, List.nil_append, List.replicate, Nat.reduceSub, Nat.reduceAdd] <;> exact rfl)
  refine gss_cons (gs_ret (ge_new (gn_lcmf (w := true) (enc := tri) (xs := ledQ s r s 0 as) (f2 := .int) c [("tokens", 3), ("waiting", 4), ("out", 5)] (by decide +kernel) (by rw [ledQ_len, sizeLine_val]; omega) (gi_list (ge_call (fp_of hX F__law_queued) ((c).low (by decide)) ((c).g (by decide +kernel)) ⟨_, _, _, rfl, hl, rfl⟩ (ga_cons (ge_var n_arrivals rfl) (ga_cons (ge_var n_size rfl) (ga_cons (ge_var n_rate rfl) ga_nil))))) (fun x1 hx1 t1 => ⟨_, fun X1 B1 => ⟨(gg_tup ((B1.cn c)).calm (ggs_cons (gg_name ((B1.cn c)).ndX (((B1.cn c)).sm (i := 3) rfl (by decide +kernel)) (by simp)) (ggs_cons (gg_name ((B1.cn c)).ndX (((B1.cn c)).sm (i := 4) rfl (by decide +kernel)) (by simp)) (ggs_cons (gg_name ((B1.cn c)).ndX (((B1.cn c)).sm (i := 5) rfl (by decide +kernel)) (by simp)) ggs_nil)))), gts_nil, fun hp1 => (ge_var (((B1.cn c)).nm (i := 5) rfl (by decide +kernel) (by decide +kernel) (by decide +kernel)) rfl)⟩⟩))) ?_)
  exact ⟨rfl, rfl⟩
theorem p__law_out {W : Wd} {f : Addr} {fd : FuncData} (B : Bt W.mg) (F__law_queued : FnP W 1 "_law_queued" C__law_queued) (F : Fun W.K "_law_out" "_law_out" s__law_out f fd) (hb : Binds W.K fd ["arrivals", "size", "rate"] []) (hm : W.mg "_law_out" = some (.ref f)) : FnP W 2 "_law_out" C__law_out :=
  fnP_of F sc__law_out hb hm (fun ds d h => by obtain ⟨as, s, r, rfl, hl, rfl⟩ := h; rfl) fun X hX c => b__law_out B F__law_queued X hX c

abbrev s__law_sums : Stmt := topS 42
theorem sc__law_sums : FnScope ["numbers", "found", "total", "number"] ["numbers"] (defScope s__law_sums) := ⟨rfl, rfl, rfl, by decide +kernel, rfl, by decide +kernel, by decide +kernel⟩
abbrev C__law_sums : List D → D → Prop := fun ds d => ∃ as : List Int, ds = [.lst (as.map .int)] ∧ as.length ≤ 1000 ∧ d = .lst ((psum 0 as).map .int)
theorem b__law_sums {W : Wd} (B : Bt W.mg) : ∀ X : Cx, wd X = W → Cn X (defScope s__law_sums) ["numbers", "found", "total", "number"] 0 → ∀ ds d τ, C__law_sums ds d → GSs X false (defBody s__law_sums) (entry ["numbers", "found", "total", "number"] (ds.map .dat)) τ (Ret d τ) := by
  intro X hX c ds d τ hC
  obtain ⟨as, rfl, hl, rfl⟩ := hC
  have n_numbers : Nm X 0 "numbers" := c.nm rfl (by decide +kernel) (by decide +kernel) (by decide +kernel)
  have n_found : Nm X 1 "found" := c.nm rfl (by decide +kernel) (by decide +kernel) (by decide +kernel)
  have n_total : Nm X 2 "total" := c.nm rfl (by decide +kernel) (by decide +kernel) (by decide +kernel)
  have n_number : Nm X 3 "number" := c.nm rfl (by decide +kernel) (by decide +kernel) (by decide +kernel)
  refine gss_is ?_ (by simp only [entry, List.map, List.length, List.cons_append, List.nil_append, List.replicate, Nat.reduceSub, Nat.reduceAdd] <;> exact rfl)
  refine gss_cons (gs_par2 (c).calm (c).ndX (by rw [(c).hN]; rfl) (by rw [(c).hN]; rfl) (by decide) ((c).l (by decide +kernel)) ((c).l (by decide +kernel)) (i := 1) (j := 2) (gvs_cons (gv_n (gn_lst ga_nil)) (gvs_cons (gv_e ge_int) gvs_nil)) (swap2 c (by decide +kernel) (by decide +kernel) (by decide +kernel) (by decide +kernel)) ?_)
  refine gss_norm (by simp only [setSls, List.zip, List.zipWith, List.set_cons_zero, List.set_cons_succ] <;> exact rfl) ?_
  refine gss_cons (gs_for (c).xe (c).calm (gi_list (ge_var n_numbers rfl)) (fun rest Γ' τ' => ∃ (xs : List Int) (pre : List D) (t : Int) (s3 : Sl), rest = xs.map .int ∧ pre ++ (psum t xs).map .int = (psum 0 as).map .int ∧ pre.length + xs.length = as.length ∧ Γ' = [.dat (.lst (as.map .int)), .own pre, .dat (.int t), s3] ∧ τ' = τ) ?_ ?_ ?_)
  · exact ⟨as, [], 0, _, rfl, rfl, by simp, rfl, rfl⟩
  · intro d rest Γ' τ' hI
    obtain ⟨xs, pre, t, s3, e, e2, e3, rfl, rfl⟩ := hI
    obtain ⟨a, xs, rfl, rfl, rfl⟩ := map_cons_inv e
    simp only [List.length_cons] at e3
    refine ⟨_, [3], (gg_name (c).ndX (c.sm (i := 3) rfl (by decide +kernel)) (by simp)), ?_⟩
    refine gss_is ?_ (by simp only [List.set_cons_zero, List.set_cons_succ] <;> exact rfl)
    refine gss_cons (gs_set (c).ndX (c.sm (i := 2) rfl (by decide +kernel)) (gv_e (ge_add (ge_var n_total rfl) (ge_var n_number rfl))) ?_)
    refine gss_norm (by simp only [setSls, List.zip, List.zipWith, List.set_cons_zero, List.set_cons_succ] <;> exact rfl) ?_
    refine gss_cons (gs_append n_found rfl (ge_var n_total rfl) (by rw [sizeLine_val]; omega) ?_)
    refine gss_norm (by simp only [setSls, List.zip, List.zipWith, List.set_cons_zero, List.set_cons_succ] <;> exact rfl) ?_
    refine gss_nil ?_
    exact ⟨xs, _, t + a, _, rfl, by rw [← e2]; simp [psum], by simp; omega, rfl, rfl⟩
  · intro Γ' τ' hI
    obtain ⟨xs, pre, t, s3, e, e2, e3, rfl, rfl⟩ := hI
    obtain rfl := map_nil_inv e
    refine gss_norm rfl ?_
    refine gss_freeze 1 rfl ?_
    refine gss_is ?_ (by simp only [List.set_cons_zero, List.set_cons_succ] <;> exact rfl)
    refine gss_cons (gs_ret (ge_var n_found rfl) ?_)
    exact ⟨by rw [← e2]; simp [psum], rfl⟩
theorem p__law_sums {W : Wd} {f : Addr} {fd : FuncData} (B : Bt W.mg) (F : Fun W.K "_law_sums" "_law_sums" s__law_sums f fd) (hb : Binds W.K fd ["numbers"] []) (hm : W.mg "_law_sums" = some (.ref f)) : FnP W 1 "_law_sums" C__law_sums :=
  fnP_of F sc__law_sums hb hm (fun ds d h => by obtain ⟨as, rfl, hl, rfl⟩ := h; rfl) fun X hX c => b__law_sums B X hX c
end PD

set_option Elab.async false
set_option linter.all false
set_option maxRecDepth 100000
set_option maxHeartbeats 2000000
namespace PD
open PySem PySem.Spec PyProof.Rows L2
abbrev s__law_queue_right : Stmt := topS 43
theorem sc__law_queue_right : FnScope ["tape", "arrivals", "size", "rate", "due", "spot", "most", "told", "left", "quiet", "times", "out", "came", "tick", "ahead", "number", "behind", "tokens", "waiting"] ["tape", "arrivals", "size", "rate"] (defScope s__law_queue_right) := ⟨rfl, rfl, rfl, by decide +kernel, rfl, by decide +kernel, by decide +kernel⟩
abbrev C__law_queue_right : List D → Tape → D → Tape → Prop := fun ds τ d τ' => ∃ (as : List Int) (s r : Int), ds = [.lst (as.map .int), .int s, .int r] ∧ QOk as s r ∧ as.length ≤ 40 ∧ (∀ a ∈ as, 0 ≤ a ∧ a ≤ 1000) ∧ r ≤ 9 ∧ d = .bl true ∧ τ' = nx τ ((as.length : Int) + 1)
theorem b__law_queue_right {W : Wd} (B : Bt W.mg) (F__law_queued : FnP W 1 "_law_queued" C__law_queued) (F__law_draw : FnT W 2 "_law_draw" C__law_draw) (F_backlog : FnP W 6 "backlog" C_backlog) (F_waits : FnP W 6 "waits" C_waits) (F_bounds : FnP W 6 "bounds" C_bounds) (F_queued : FnP W 6 "queued" C_queued) (F_is_backlog : FnP W 6 "is_backlog" C_is_backlog) (F_is_outlet : FnP W 6 "is_outlet" C_is_outlet) (F__law_sums : FnP W 1 "_law_sums" C__law_sums) (F__law_out : FnP W 2 "_law_out" C__law_out) (FK_queued : FnK W 6 "queued" ["size", "rate"] 1 C_queued) : ∀ X : Cx, wd X = W → Cn X (defScope s__law_queue_right) ["tape", "arrivals", "size", "rate", "due", "spot", "most", "told", "left", "quiet", "times", "out", "came", "tick", "ahead", "number", "behind", "tokens", "waiting"] 6 → ∀ ds τ d τ', C__law_queue_right ds τ d τ' → GSs X true (defBody s__law_queue_right) (entry ["tape", "arrivals", "size", "rate", "due", "spot", "most", "told", "left", "quiet", "times", "out", "came", "tick", "ahead", "number", "behind", "tokens", "waiting"] (.tape :: ds.map .dat)) τ (Ret d τ') := by
  intro X hX c ds τ d τ' hC
  obtain ⟨as, s, r, rfl, hq, hl, hb, hr9, rfl, rfl⟩ := hC
  have hl3 : as.length ≤ 100000 := by omega
  have hrr := hq.hr
  have hss := hq.hs
  have hnn : NN as := hq.a.nn
  have hk1 := dr_lo (τ := τ) (n := (as.length : Int) + 1) (by omega)
  have hmost := (gw_all hrr hnn).1
  have hmm := hmost.mem
  have hbk := gw_bk hrr hnn
  have hz5 := most_zeros hrr hnn hmost 5
  have hwl := Wq_le hrr hnn (fun a ha => (hb a ha).2)
  have hw0 := (st_ok hrr hnn as.length).2.2.1
  have hwd0 : 0 ≤ Wq s r as as.length / r := Int.ediv_nonneg hw0 (by omega)
  have hwd1 : Wq s r as as.length / r ≤ 1000 * (as.length : Int) := Int.le_trans (Int.ediv_le_self _ hw0) hwl
  have hqs := quiet_sum (k := (Wq s r as as.length / r + 1).toNat) hrr hnn (by omega)
  have hoo : OutOk as s r (outQ s r as) := outQ_ok (p := (s, r)) hq.vs hnn
  have n_tape : Nm X 0 "tape" := c.nm rfl (by decide +kernel) (by decide +kernel) (by decide +kernel)
  have n_arrivals : Nm X 1 "arrivals" := c.nm rfl (by decide +kernel) (by decide +kernel) (by decide +kernel)
  have n_size : Nm X 2 "size" := c.nm rfl (by decide +kernel) (by decide +kernel) (by decide +kernel)
  have n_rate : Nm X 3 "rate" := c.nm rfl (by decide +kernel) (by decide +kernel) (by decide +kernel)
  have n_due : Nm X 4 "due" := c.nm rfl (by decide +kernel) (by decide +kernel) (by decide +kernel)
  have n_spot : Nm X 5 "spot" := c.nm rfl (by decide +kernel) (by decide +kernel) (by decide +kernel)
  have n_most : Nm X 6 "most" := c.nm rfl (by decide +kernel) (by decide +kernel) (by decide +kernel)
  have n_told : Nm X 7 "told" := c.nm rfl (by decide +kernel) (by decide +kernel) (by decide +kernel)
  have n_left : Nm X 8 "left" := c.nm rfl (by decide +kernel) (by decide +kernel) (by decide +kernel)
  have n_quiet : Nm X 9 "quiet" := c.nm rfl (by decide +kernel) (by decide +kernel) (by decide +kernel)
  have n_times : Nm X 10 "times" := c.nm rfl (by decide +kernel) (by decide +kernel) (by decide +kernel)
  have n_out : Nm X 11 "out" := c.nm rfl (by decide +kernel) (by decide +kernel) (by decide +kernel)
  have n_came : Nm X 12 "came" := c.nm rfl (by decide +kernel) (by decide +kernel) (by decide +kernel)
  have n_tick : Nm X 13 "tick" := c.nm rfl (by decide +kernel) (by decide +kernel) (by decide +kernel)
  have n_ahead : Nm X 14 "ahead" := c.nm rfl (by decide +kernel) (by decide +kernel) (by decide +kernel)
  refine gss_is ?_ (by simp only [entry, List.map, List.length, List.cons_append, List.nil_append, List.replicate, Nat.reduceSub, Nat.reduceAdd] <;> exact rfl)
  refine gss_cons (gs_set (c).ndX (c.sm (i := 4) rfl (by decide +kernel)) (gv_e (ge_call (fp_of hX F__law_queued) ((c).low (by decide)) ((c).g (by decide +kernel)) ⟨_, _, _, rfl, hl3, rfl⟩ (ga_cons (ge_var n_arrivals rfl) (ga_cons (ge_var n_size rfl) (ga_cons (ge_var n_rate rfl) ga_nil))))) ?_)
  refine gss_norm (by simp only [setSls, List.zip, List.zipWith, List.set_cons_zero, List.set_cons_succ] <;> exact rfl) ?_
  refine gss_cons (gs_set (c).ndX (c.sm (i := 5) rfl (by decide +kernel)) (gv_e (ge_callT (ft_of hX F__law_draw) ((c).low (by decide)) ((c).g (by decide +kernel)) n_tape rfl (ga_cons (ge_add (ge_len (bt_of hX B) ((c).g (by decide +kernel)) (gl_of (ge_var n_arrivals rfl))) ge_int) ga_nil) ⟨_, rfl, (by rw [List.length_map]; omega), by rw [List.length_map], by rw [List.length_map]⟩)) ?_)
  refine gss_norm (by simp only [setSls, List.zip, List.zipWith, List.set_cons_zero, List.set_cons_succ] <;> exact rfl) ?_
  refine gss_cons (gs_ifF (GW.t (gw_or (gt_neC (s := true) (n := 12) (c).r (by dsimp only [Opd.d]; exact shc) (by dsimp only [Opd.d]; exact shc) (by decide) (ge_call (fp_of hX F_queued) ((c).low (by decide)) ((c).g (by decide +kernel)) ⟨false, _, _, _, rfl, hq, rfl⟩ (ga_cons (ge_var n_arrivals rfl) (ga_cons (ge_var n_size rfl) (ga_cons (ge_var n_rate rfl) ga_nil)))) (ge_var n_due rfl)) (fun ht1_0 => (gw_or (gt_neC (s := true) (n := 12) (c).r (by dsimp only [Opd.d]; exact shc) (by dsimp only [Opd.d]; exact shc) (by decide) (ge_call (fp_of hX F_queued) ((c).low (by decide)) ((c).g (by decide +kernel)) ⟨false, _, _, _, rfl, hq.take _, rfl⟩ (ga_cons (ge_new (gn_is (ds1 := (as.take (dr τ ((as.length : Int) + 1)).toNat).map .int) (gn_sl (gl_of (ge_var n_arrivals rfl)) gp_none (gp_some (ge_var n_spot rfl))) (cut_pre hk1))) (ga_cons (ge_var n_size rfl) (ga_cons (ge_var n_rate rfl) ga_nil)))) (gl_new (gn_is (ds1 := ((ledQ s r s 0 as).take (dr τ ((as.length : Int) + 1)).toNat).map tri) (gn_sl (gl_of (ge_var n_due rfl)) gp_none (gp_some (ge_var n_spot rfl))) (cut_pre hk1)))) (fun ht1_1 => (gw_or1 (gt_neC (s := true) (n := 12) (c).r (by dsimp only [Opd.d]; exact shc) (by dsimp only [Opd.d]; exact shc) (by decide) (ge_callK2 (fk_of hX FK_queued) ((c).low (by decide)) ((c).g (by decide +kernel)) ⟨true, _, _, _, rfl, hq, rfl⟩ (ge_tupleL (bt_of hX B) ((c).g (by decide +kernel)) (gl_of (ge_var n_arrivals rfl))) (ge_var n_size rfl) (ge_var n_rate rfl)) (ge_var n_due rfl)))) (fun _ => rfl))) (fun _ => rfl))) ?_ ?_)
  · simp [eqb_self, ledQ_take, Opd.d]
  refine gss_nil ?_
  refine gss_norm rfl ?_
  refine gss_cons (gs_set (c).ndX (c.sm (i := 6) rfl (by decide +kernel)) (gv_e (ge_maxL (bt_of hX B) (c).calm ((c).g (by decide +kernel)) hmm.1 hmm.2 (gl_new (gn_is (ds1 := ((0 : Int) :: (ledQ s r s 0 as).map (·.2.1)).map .int) (gn_cat (by rw [sizeLine_val, List.length_map, List.length_map, ledQ_len]; simp; omega) (gl_new (gn_lst (ga_cons ge_int ga_nil))) (gl_new (gn_lcmf (w := true) (enc := tri) (xs := ledQ s r s 0 as) (f2 := .int) c [("tokens", 17), ("waiting", 18), ("out", 11)] (by decide +kernel) (by rw [ledQ_len, sizeLine_val]; omega) (gi_list (ge_var n_due rfl)) (fun x1 hx1 t1 => ⟨_, fun X1 B1 => ⟨(gg_tup ((B1.cn c)).calm (ggs_cons (gg_name ((B1.cn c)).ndX (((B1.cn c)).sm (i := 17) rfl (by decide +kernel)) (by simp)) (ggs_cons (gg_name ((B1.cn c)).ndX (((B1.cn c)).sm (i := 18) rfl (by decide +kernel)) (by simp)) (ggs_cons (gg_name ((B1.cn c)).ndX (((B1.cn c)).sm (i := 11) rfl (by decide +kernel)) (by simp)) ggs_nil)))), gts_nil, fun hp1 => (ge_var (((B1.cn c)).nm (i := 18) rfl (by decide +kernel) (by decide +kernel) (by decide +kernel)) rfl)⟩⟩)))) rfl)))) ?_)
  refine gss_norm (by simp only [setSls, List.zip, List.zipWith, List.set_cons_zero, List.set_cons_succ] <;> exact rfl) ?_
  refine gss_cons (gs_set (c).ndX (c.sm (i := 7) rfl (by decide +kernel)) (gv_e (ge_call (fp_of hX F_backlog) ((c).low (by decide)) ((c).g (by decide +kernel)) ⟨_, _, _, rfl, hq, rfl⟩ (ga_cons (ge_var n_arrivals rfl) (ga_cons (ge_var n_size rfl) (ga_cons (ge_var n_rate rfl) ga_nil))))) ?_)
  refine gss_norm (by simp only [setSls, List.zip, List.zipWith, List.set_cons_zero, List.set_cons_succ] <;> exact rfl) ?_
  refine gss_cons (gs_ifF (GW.t (gw_or (gt_neI (c).r (ge_ixT (by rfl) (ge_var n_told rfl) ge_int) (ge_var n_most rfl)) (fun ht2_0 => (gw_or (gt_notB (ge_call (fp_of hX F_is_backlog) ((c).low (by decide)) ((c).g (by decide +kernel)) ⟨as, s, r, (gwAll s r as).1, (gwAll s r as).2, rfl, hq, hbk, rfl⟩ (ga_cons (ge_var n_arrivals rfl) (ga_cons (ge_var n_size rfl) (ga_cons (ge_var n_rate rfl) (ga_cons (ge_var n_told rfl) ga_nil)))))) (fun ht2_1 => (gw_or1 (gt_neI (c).r (ge_ixT (by rfl) (ge_call (fp_of hX F_backlog) ((c).low (by decide)) ((c).g (by decide +kernel)) ⟨_, _, _, rfl, hq.zeros (by omega), rfl⟩ (ga_cons (ge_new (gn_is (ds1 := (as ++ List.replicate 5 0).map .int) (gn_cat (by rw [sizeLine_val, List.length_map]; simp; omega) (gl_of (ge_var n_arrivals rfl)) (gl_new (gn_rep (by rw [sizeLine_val]; decide) (by decide) (by decide) (gl_new (gn_lst (ga_cons ge_int ga_nil))) ge_int))) rep_ints)) (ga_cons (ge_var n_size rfl) (ga_cons (ge_var n_rate rfl) ga_nil)))) ge_int) (ge_var n_most rfl)))) (fun _ => rfl))) (fun _ => rfl))) ?_ ?_)
  · have h5 := (gw_all hrr (app_nn hnn 5)).1.uniq hz5
    simp [bkD]
    exact h5
  refine gss_nil ?_
  refine gss_norm rfl ?_
  refine gss_cons (gs_set (c).ndX (c.sm (i := 8) rfl (by decide +kernel)) (gv_e (ge_is (d1 := .int (Wq s r as as.length)) (ge_iteI (gt_neC (s := true) (n := 12) (c).r (by dsimp only [Opd.d]; exact shc) (by dsimp only [Opd.d]; exact shc) (by decide) (ge_var n_due rfl) (gl_new (gn_lst ga_nil))) (fun hc3 => (ge_ixT (by rfl) (ge_ixL (zs := []) (due_last (ne_of_due hc3)) (gl_of (ge_var n_due rfl)) (ge_neg ge_int)) ge_int)) (fun hc3 => ge_int)) (congrArg D.int due_left))) ?_)
  refine gss_norm (by simp only [setSls, List.zip, List.zipWith, List.set_cons_zero, List.set_cons_succ] <;> exact rfl) ?_
  refine gss_cons (gs_set (c).ndX (c.sm (i := 9) rfl (by decide +kernel)) (gv_e (ge_new (gn_is (ds1 := (as ++ List.replicate (Wq s r as as.length / r + 1).toNat 0).map .int) (gn_cat (by rw [sizeLine_val, List.length_map]; simp; omega) (gl_of (ge_var n_arrivals rfl)) (gl_new (gn_rep (by rw [sizeLine_val]; simp; omega) (by omega) (by omega) (gl_new (gn_lst (ga_cons ge_int ga_nil))) (ge_add (ge_intI (bt_of hX B) ((c).g (by decide +kernel)) (ge_fdiv (by constructor <;> omega) (ge_var n_left rfl) (ge_var n_rate rfl))) ge_int)))) rep_ints))) ?_)
  refine gss_norm (by simp only [setSls, List.zip, List.zipWith, List.set_cons_zero, List.set_cons_succ] <;> exact rfl) ?_
  refine gss_cons (gs_ifF (GW.t (gw_or (gt_neI (c).r (ge_sum (bt_of hX B) (c).calm ((c).g (by decide +kernel)) (gl_of (ge_call (fp_of hX F__law_out) ((c).low (by decide)) ((c).g (by decide +kernel)) ⟨_, _, _, rfl, (by simp; omega), rfl⟩ (ga_cons (ge_var n_quiet rfl) (ga_cons (ge_var n_size rfl) (ga_cons (ge_var n_rate rfl) ga_nil)))))) (ge_sum (bt_of hX B) (c).calm ((c).g (by decide +kernel)) (gl_of (ge_var n_arrivals rfl)))) (fun ht4_0 => (gw_or1 (gt_notB (ge_call (fp_of hX F_is_outlet) ((c).low (by decide)) ((c).g (by decide +kernel)) ⟨as, s, r, outQ s r as, rfl, hq, hoo, rfl⟩ (ga_cons (ge_var n_arrivals rfl) (ga_cons (ge_var n_size rfl) (ga_cons (ge_var n_rate rfl) (ga_cons (ge_new (gn_lcmf (w := true) (enc := tri) (xs := ledQ s r s 0 as) (f2 := .int) c [("tokens", 17), ("waiting", 18), ("out", 11)] (by decide +kernel) (by rw [ledQ_len, sizeLine_val]; omega) (gi_list (ge_var n_due rfl)) (fun x1 hx1 t1 => ⟨_, fun X1 B1 => ⟨(gg_tup ((B1.cn c)).calm (ggs_cons (gg_name ((B1.cn c)).ndX (((B1.cn c)).sm (i := 17) rfl (by decide +kernel)) (by simp)) (ggs_cons (gg_name ((B1.cn c)).ndX (((B1.cn c)).sm (i := 18) rfl (by decide +kernel)) (by simp)) (ggs_cons (gg_name ((B1.cn c)).ndX (((B1.cn c)).sm (i := 11) rfl (by decide +kernel)) (by simp)) ggs_nil)))), gts_nil, fun hp1 => (ge_var (((B1.cn c)).nm (i := 11) rfl (by decide +kernel) (by decide +kernel) (by decide +kernel)) rfl)⟩⟩))) ga_nil)))))))) (fun _ => rfl))) ?_ ?_)
  · simp [hqs]
  refine gss_nil ?_
  refine gss_norm rfl ?_
  refine gss_cons (gs_setLcm (w := true) (xs := List.zip as (ledQ s r s 0 as)) (enc := fun p => .tup [.int p.1, tri p.2]) c (c.sm (i := 10) rfl (by decide +kernel)) (by decide +kernel) [("number", 15), ("behind", 16)] (by decide +kernel) (by rw [sizeLine_val, List.length_zip]; omega) (GI.is (gi_zip (bt_of hX B) ((c).g (by decide +kernel)) (ge_var n_arrivals rfl) (ge_var n_due rfl)) zipD_map) (fun x1 hx1 t1 => ⟨_, fun X1 B1 => ⟨(gg_tup ((B1.cn c)).calm (ggs_cons (gg_name ((B1.cn c)).ndX (((B1.cn c)).sm (i := 15) rfl (by decide +kernel)) (by simp)) (ggs_cons (gg_name ((B1.cn c)).ndX (((B1.cn c)).sm (i := 16) rfl (by decide +kernel)) (by simp)) ggs_nil))), gts_nil, fun hp1 => (ge_iteD (gt_eqI ((B1.cn c)).r (ge_var (((B1.cn c)).nm (i := 15) rfl (by decide +kernel) (by decide +kernel) (by decide +kernel)) rfl) ge_int) (fun hc5 => ge_non) (fun hc5 => (ge_intI (bt_of (B1.w.trans hX) B) (((B1.cn c)).g (by decide +kernel)) (ge_fdiv (by constructor <;> omega) (ge_sub (ge_add (ge_ixT (by rfl) (ge_var (((B1.cn c)).nm (i := 16) rfl (by decide +kernel) (by decide +kernel) (by decide +kernel)) rfl) ge_int) (ge_var (((B1.cn c)).nm (i := 3) rfl (by decide +kernel) (by decide +kernel) (by decide +kernel)) rfl)) ge_int) (ge_var (((B1.cn c)).nm (i := 3) rfl (by decide +kernel) (by decide +kernel) (by decide +kernel)) rfl)))))⟩⟩) rfl (by decide +kernel) ?_)
  refine gss_norm (by simp only [setSls, List.zip, List.zipWith, List.set_cons_zero, List.set_cons_succ] <;> exact rfl) ?_
  refine gss_freeze 10 rfl ?_
  refine gss_is ?_ (by simp only [List.set_cons_zero, List.set_cons_succ] <;> exact rfl)
  refine gss_cons (gs_ifF (gt_neC (s := true) (n := 12) (c).r (by dsimp only [Opd.d]; exact shc) (by dsimp only [Opd.d]; exact shc) (by decide) (ge_call (fp_of hX F_waits) ((c).low (by decide)) ((c).g (by decide +kernel)) ⟨_, _, _, rfl, hq, rfl⟩ (ga_cons (ge_var n_arrivals rfl) (ga_cons (ge_var n_size rfl) (ga_cons (ge_var n_rate rfl) ga_nil)))) (ge_var n_times rfl)) ?_ ?_)
  · exact (congrArg (!·) (eqb_iff.mpr (congrArg D.lst times_eq.symm)))
  refine gss_nil ?_
  refine gss_norm rfl ?_
  refine gss_cons (gs_par2 (c).calm (c).ndX (by rw [(c).hN]; rfl) (by rw [(c).hN]; rfl) (by decide) ((c).l (by decide +kernel)) ((c).l (by decide +kernel)) (i := 11) (j := 12) (gvs_cons (gv_e (ge_new (gn_is (ds1 := (sums (outQ s r as)).map .int) (gn_cat (by rw [sizeLine_val, List.length_map, psum_len]; simp [outQ_len]; omega) (gl_new (gn_lst (ga_cons ge_int ga_nil))) (gl_of (ge_call (fp_of hX F__law_sums) ((c).low (by decide)) ((c).g (by decide +kernel)) ⟨outQ s r as, rfl, (by rw [outQ_len]; omega), rfl⟩ (ga_cons (ge_new (gn_lcmf (w := true) (enc := tri) (xs := ledQ s r s 0 as) (f2 := .int) c [("tokens", 17), ("waiting", 18), ("out", 11)] (by decide +kernel) (by rw [ledQ_len, sizeLine_val]; omega) (gi_list (ge_var n_due rfl)) (fun x1 hx1 t1 => ⟨_, fun X1 B1 => ⟨(gg_tup ((B1.cn c)).calm (ggs_cons (gg_name ((B1.cn c)).ndX (((B1.cn c)).sm (i := 17) rfl (by decide +kernel)) (by simp)) (ggs_cons (gg_name ((B1.cn c)).ndX (((B1.cn c)).sm (i := 18) rfl (by decide +kernel)) (by simp)) (ggs_cons (gg_name ((B1.cn c)).ndX (((B1.cn c)).sm (i := 11) rfl (by decide +kernel)) (by simp)) ggs_nil)))), gts_nil, fun hp1 => (ge_var (((B1.cn c)).nm (i := 11) rfl (by decide +kernel) (by decide +kernel) (by decide +kernel)) rfl)⟩⟩))) ga_nil)))) rfl))) (gvs_cons (gv_e (ge_new (gn_is (ds1 := (sums as).map .int) (gn_cat (by rw [sizeLine_val, List.length_map, psum_len]; simp; omega) (gl_new (gn_lst (ga_cons ge_int ga_nil))) (gl_of (ge_call (fp_of hX F__law_sums) ((c).low (by decide)) ((c).g (by decide +kernel)) ⟨as, rfl, (by omega), rfl⟩ (ga_cons (ge_var n_arrivals rfl) ga_nil)))) rfl))) gvs_nil)) (swap2 c (by decide +kernel) (by decide +kernel) (by decide +kernel) (by decide +kernel)) ?_)
  refine gss_norm (by simp only [setSls, List.zip, List.zipWith, List.set_cons_zero, List.set_cons_succ] <;> exact rfl) ?_
  refine gss_cons (gs_for (c).xe (c).calm (gi_enum (bt_of hX B) ((c).g (by decide +kernel)) (ge_call (fp_of hX F_bounds) ((c).low (by decide)) ((c).g (by decide +kernel)) ⟨_, _, _, rfl, hq, rfl⟩ (ga_cons (ge_var n_arrivals rfl) (ga_cons (ge_var n_size rfl) (ga_cons (ge_var n_rate rfl) ga_nil))))) (fun rest Γ' τ' => ∃ (k : Nat) (s4 s5 s6 s7 s8 s9 s10 s13 s14 : Sl), rest = enumD k (((bndsQ s r as).drop k).map .int) ∧ Γ' = [.tape, .dat (.lst (as.map .int)), .dat (.int s), .dat (.int r), s4, s5, s6, s7, s8, s9, s10, .dat (.lst ((sums (outQ s r as)).map .int)), .dat (.lst ((sums as).map .int)), s13, s14, .no, .no, .no, .no] ∧ nx τ ((as.length : Int) + 1) = τ') ?_ ?_ ?_)
  · exact ⟨0, _, _, _, _, _, _, _, _, _, rfl, rfl, rfl⟩
  · intro d rest Γ' τ' hI
    obtain ⟨k, s4, s5, s6, s7, s8, s9, s10, s13, s14, e, rfl, rfl⟩ := hI
    obtain ⟨x, xs1, e1, rfl, rfl⟩ := enumD_cons_inv e
    obtain ⟨a, xs, e4, rfl, rfl⟩ := map_cons_inv e1.symm
    obtain ⟨hk, rfl, rfl⟩ := bnds_drop e4
    obtain ⟨b, hb1, hb2, hb3⟩ := bnd_ok hrr hnn hk
    rw [hb1]
    refine ⟨_, [13, 14], (gg_tup (c).calm (ggs_cons (gg_name (c).ndX (c.sm (i := 13) rfl (by decide +kernel)) (by simp)) (ggs_cons (gg_name (c).ndX (c.sm (i := 14) rfl (by decide +kernel)) (by simp)) ggs_nil))), ?_⟩
    refine gss_is ?_ (by simp only [List.set_cons_zero, List.set_cons_succ] <;> exact rfl)
    refine gss_cons (gs_ifF (GW.t (gw_or (gt_not (gt_chain op_le op_le rg_le (fun _ => rg_le) (by with_unfolding_all rfl) ge_int (ge_var n_ahead rfl) (fun _ => (ge_add (ge_var n_tick rfl) ge_int)) (fun _ => rfl))) (fun ht6_0 => (gw_or1 (gt_neI (c).r (ge_ixL (zs := []) (atI_ints (by omega) (by rw [sums_len, outQ_len]; omega)) (gl_of (ge_var n_out rfl)) (ge_add (ge_var n_tick rfl) ge_int)) (ge_add (ge_ixL (zs := []) (atI_ints (by omega) (by rw [sums_len]; omega)) (gl_of (ge_var n_came rfl)) (ge_var n_ahead rfl)) (ge_iteI (gt_le (ge_var n_ahead rfl) (ge_var n_tick rfl)) (fun hc7 => (ge_add (ge_var n_size rfl) (ge_mul (.inl (by constructor <;> omega)) (ge_var n_rate rfl) (ge_sub (ge_var n_tick rfl) (ge_var n_ahead rfl))))) (fun hc7 => ge_int)))))) (fun _ => rfl))) ?_ ?_)
    · have e1 : ((k : Int) + 1).toNat = k + 1 := by omega
      have e5 := sums_get (as := outQ s r as) (n := k + 1) (by rw [outQ_len]; omega)
      have e6 := sums_get (as := as) (n := b) (by omega)
      rw [e1, e5, Int.toNat_natCast, e6, hb3]
      by_cases hbk2 : (b : Int) ≤ (k : Int) <;> simp [hbk2] <;> omega
    refine gss_nil ?_
    refine gss_norm rfl ?_
    refine gss_nil ?_
    exact ⟨k + 1, _, _, _, _, _, _, _, _, _, rfl, rfl, rfl⟩
  · intro Γ' τ' hI
    obtain ⟨k, s4, s5, s6, s7, s8, s9, s10, s13, s14, e, rfl, rfl⟩ := hI
    refine gss_norm rfl ?_
    refine gss_cons (gs_ret ge_bl ?_)
    exact ⟨rfl, rfl⟩
theorem p__law_queue_right {W : Wd} {f : Addr} {fd : FuncData} (B : Bt W.mg) (F__law_queued : FnP W 1 "_law_queued" C__law_queued) (F__law_draw : FnT W 2 "_law_draw" C__law_draw) (F_backlog : FnP W 6 "backlog" C_backlog) (F_waits : FnP W 6 "waits" C_waits) (F_bounds : FnP W 6 "bounds" C_bounds) (F_queued : FnP W 6 "queued" C_queued) (F_is_backlog : FnP W 6 "is_backlog" C_is_backlog) (F_is_outlet : FnP W 6 "is_outlet" C_is_outlet) (F__law_sums : FnP W 1 "_law_sums" C__law_sums) (F__law_out : FnP W 2 "_law_out" C__law_out) (FK_queued : FnK W 6 "queued" ["size", "rate"] 1 C_queued) (F : Fun W.K "_law_queue_right" "_law_queue_right" s__law_queue_right f fd) (hb : Binds W.K fd ["tape", "arrivals", "size", "rate"] []) (hm : W.mg "_law_queue_right" = some (.ref f)) : FnT W 7 "_law_queue_right" C__law_queue_right :=
  fnT_of F sc__law_queue_right hb hm (fun ds τ d τ' h => by obtain ⟨as, s, r, rfl, hq, hl, hb, hr9, rfl, rfl⟩ := h; rfl) fun X hX c => b__law_queue_right B F__law_queued F__law_draw F_backlog F_waits F_bounds F_queued F_is_backlog F_is_outlet F__law_sums F__law_out FK_queued X hX c
end PD

set_option Elab.async false
set_option linter.all false
set_option maxRecDepth 100000
set_option maxHeartbeats 2000000
namespace PD
open PySem PySem.Spec PyProof.Rows L2
abbrev s__law_line_right : Stmt := topS 44
theorem sc__law_line_right : FnScope ["tape", "arrivals", "stages", "due", "size", "rate", "order", "greater"] ["tape", "arrivals", "stages"] (defScope s__law_line_right) := ⟨rfl, rfl, rfl, by decide +kernel, rfl, by decide +kernel, by decide +kernel⟩
abbrev C__law_line_right : List D → Tape → D → Tape → Prop := fun ds τ d τ' => ∃ (as : List Int) (st : List (Int × Int)), ds = [.lst (as.map .int), .lst (st.map stD)] ∧ AOk as ∧ (1 ≤ st.length ∧ st.length ≤ 4) ∧ (∀ p ∈ st, SOk p) ∧ (∀ p ∈ st, p.1 ≤ 1000) ∧ d = .bl true ∧ τ' = linT st τ
theorem b__law_line_right {W : Wd} (B : Bt W.mg) (F__law_shuffled : FnT W 3 "_law_shuffled" C__law_shuffled) (F__law_pick : FnT W 3 "_law_pick" C__law_pick) (F__law_out : FnP W 2 "_law_out" C__law_out) (F_in_line : FnP W 5 "in_line" C_in_line) (F__law_draw : FnT W 2 "_law_draw" C__law_draw) (F_is_outlet : FnP W 6 "is_outlet" C_is_outlet) : ∀ X : Cx, wd X = W → Cn X (defScope s__law_line_right) ["tape", "arrivals", "stages", "due", "size", "rate", "order", "greater"] 6 → ∀ ds τ d τ', C__law_line_right ds τ d τ' → GSs X true (defBody s__law_line_right) (entry ["tape", "arrivals", "stages", "due", "size", "rate", "order", "greater"] (.tape :: ds.map .dat)) τ (Ret d τ') := by
  intro X hX c ds τ d τ' hC
  obtain ⟨as, st, rfl, ha, hst, hs, hpb, rfl, rfl⟩ := hC
  have hl := ha.len
  have hvs : ∀ p ∈ st, VS p := fun p hp => (hs p hp).vs
  have hnn := ha.nn
  have hperm := shuf_perm st.length st τ rfl
  have hso : ∀ p ∈ shuf st.length st τ, SOk p := fun p hp => hs p (hperm.mem_iff.mp hp)
  have hlo : (shuf st.length st τ).length = st.length := hperm.length_eq
  have hline := lineQ_perm hperm (fun p hp => (hso p hp).vs) hnn
  have hda := line_aok ha hs
  have hi := dr_idx (τ := shufT (st.map stD).length (st.map stD) τ) (n := (st.map stD).length) (by rw [List.length_map]; omega)
  have hi : (dr (shufT (st.map stD).length (st.map stD) τ) (st.map stD).length).toNat < st.length := by simpa using hi
  have hp : st.getD (dr (shufT (st.map stD).length (st.map stD) τ) (st.map stD).length).toNat (0, 0) ∈ st := mem_getD hi
  have hpe := st_getD hi
  generalize st.getD (dr (shufT (st.map stD).length (st.map stD) τ) (st.map stD).length).toNat (0, 0) = p at hp hpe
  have hps := hs p hp
  have hg0 := dr_lo (τ := nx (shufT (st.map stD).length (st.map stD) τ) (st.map stD).length) (n := 5) (by decide)
  have hg1 := dr_hi (τ := nx (shufT (st.map stD).length (st.map stD) τ) (st.map stD).length) (n := 5) (by decide)
  obtain ⟨m1, m2, m3⟩ := line_more hvs hnn hp hg0
  generalize hgd : dr (nx (shufT (st.map stD).length (st.map stD) τ) (st.map stD).length) 5 = gg at hg0 hg1 m1 m2 m3
  have hfix := lineQ_fix hvs hda.nn (lineQ_wl hvs hnn)
  have hgs : SOk (p.1 + gg, p.2) := ⟨by have := hps.1; show 1 ≤ p.1 + gg; omega, by have := hpb p hp; show p.1 + gg ≤ 1000000; omega, hps.2.2.1, by have := hps.2.2.2; show p.2 ≤ p.1 + gg; omega⟩
  have n_tape : Nm X 0 "tape" := c.nm rfl (by decide +kernel) (by decide +kernel) (by decide +kernel)
  have n_arrivals : Nm X 1 "arrivals" := c.nm rfl (by decide +kernel) (by decide +kernel) (by decide +kernel)
  have n_stages : Nm X 2 "stages" := c.nm rfl (by decide +kernel) (by decide +kernel) (by decide +kernel)
  have n_due : Nm X 3 "due" := c.nm rfl (by decide +kernel) (by decide +kernel) (by decide +kernel)
  have n_size : Nm X 4 "size" := c.nm rfl (by decide +kernel) (by decide +kernel) (by decide +kernel)
  have n_rate : Nm X 5 "rate" := c.nm rfl (by decide +kernel) (by decide +kernel) (by decide +kernel)
  have n_order : Nm X 6 "order" := c.nm rfl (by decide +kernel) (by decide +kernel) (by decide +kernel)
  have n_greater : Nm X 7 "greater" := c.nm rfl (by decide +kernel) (by decide +kernel) (by decide +kernel)
  refine gss_is ?_ (by simp only [entry, List.map, List.length, List.cons_append, List.nil_append, List.replicate, Nat.reduceSub, Nat.reduceAdd] <;> exact rfl)
  refine gss_cons (gs_set (c).ndX (c.sm (i := 3) rfl (by decide +kernel)) (gv_e (ge_var n_arrivals rfl)) ?_)
  refine gss_norm (by simp only [setSls, List.zip, List.zipWith, List.set_cons_zero, List.set_cons_succ] <;> exact rfl) ?_
  refine gss_cons (gs_for (c).xe (c).calm (gi_list (ge_var n_stages rfl)) (fun rest Γ' τ' => ∃ (xs : List Int) (ps : List (Int × Int)) (s4 s5 : Sl), rest = ps.map stD ∧ lineQ xs ps = lineQ as st ∧ xs.length ≤ 100000 ∧ Γ' = [.tape, .dat (.lst (as.map .int)), .dat (.lst (st.map stD)), .dat (.lst (xs.map .int)), s4, s5, .no, .no] ∧ τ = τ') ?_ ?_ ?_)
  · exact ⟨as, st, _, _, rfl, rfl, by omega, rfl, rfl⟩
  · intro d rest Γ' τ' hI
    obtain ⟨xs, ps, s4, s5, e, e2, hxl, rfl, rfl⟩ := hI
    obtain ⟨p', ps, rfl, rfl, rfl⟩ := map_cons_inv e
    refine ⟨_, [4, 5], (gg_tup (c).calm (ggs_cons (gg_name (c).ndX (c.sm (i := 4) rfl (by decide +kernel)) (by simp)) (ggs_cons (gg_name (c).ndX (c.sm (i := 5) rfl (by decide +kernel)) (by simp)) ggs_nil))), ?_⟩
    refine gss_is ?_ (by simp only [List.set_cons_zero, List.set_cons_succ] <;> exact rfl)
    refine gss_cons (gs_set (c).ndX (c.sm (i := 3) rfl (by decide +kernel)) (gv_e (ge_call (fp_of hX F__law_out) ((c).low (by decide)) ((c).g (by decide +kernel)) ⟨_, _, _, rfl, hxl, rfl⟩ (ga_cons (ge_var n_due rfl) (ga_cons (ge_var n_size rfl) (ga_cons (ge_var n_rate rfl) ga_nil))))) ?_)
    refine gss_norm (by simp only [setSls, List.zip, List.zipWith, List.set_cons_zero, List.set_cons_succ] <;> exact rfl) ?_
    refine gss_nil ?_
    exact ⟨outQ p'.1 p'.2 xs, ps, _, _, rfl, by rw [← e2]; rfl, by rw [outQ_len]; exact hxl, rfl, rfl⟩
  · intro Γ' τ' hI
    obtain ⟨xs, ps, s4, s5, e, e2, hxl, rfl, rfl⟩ := hI
    obtain rfl := map_nil_inv e
    have e2 : xs = lineQ as st := e2
    subst e2
    refine gss_norm rfl ?_
    refine gss_cons (gs_set (c).ndX (c.sm (i := 6) rfl (by decide +kernel)) (gv_e (ge_is (d1 := .lst ((shuf st.length st τ).map stD)) (ge_callT (ft_of hX F__law_shuffled) ((c).low (by decide)) ((c).g (by decide +kernel)) n_tape rfl (ga_cons (ge_var n_stages rfl) ga_nil) ⟨_, rfl, (by rw [List.length_map]; omega), (fun x hx => by obtain ⟨y, _, rfl⟩ := List.mem_map.mp hx; exact shc), rfl, rfl⟩) (by rw [List.length_map, (shuf_map stD st.length st τ).1]))) ?_)
    refine gss_norm (by simp only [setSls, List.zip, List.zipWith, List.set_cons_zero, List.set_cons_succ] <;> exact rfl) ?_
    refine gss_cons (gs_ifF (GW.t (gw_or (gt_neC (s := true) (n := 12) (c).r (by dsimp only [Opd.d]; exact shc) (by dsimp only [Opd.d]; exact shc) (by decide) (ge_call (fp_of hX F_in_line) ((c).low (by decide)) ((c).g (by decide +kernel)) ⟨_, _, rfl, ha, (by omega), hs, rfl⟩ (ga_cons (ge_var n_arrivals rfl) (ga_cons (ge_var n_stages rfl) ga_nil))) (ge_var n_due rfl)) (fun ht1_0 => (gw_or1 (gt_neC (s := true) (n := 12) (c).r (by dsimp only [Opd.d]; exact shc) (by dsimp only [Opd.d]; exact shc) (by decide) (ge_call (fp_of hX F_in_line) ((c).low (by decide)) ((c).g (by decide +kernel)) ⟨_, _, rfl, ha, (by omega), hso, rfl⟩ (ga_cons (ge_var n_arrivals rfl) (ga_cons (ge_var n_order rfl) ga_nil))) (ge_var n_due rfl)))) (fun _ => rfl))) ?_ ?_)
    · simp [hline, eqb_self, Opd.d]
    refine gss_nil ?_
    refine gss_norm rfl ?_
    refine gss_cons (gs_unpack (vs := [4, 5]) (ge_is (d1 := stD p) (ge_callT (ft_of hX F__law_pick) ((c).low (by decide)) ((c).g (by decide +kernel)) n_tape rfl (ga_cons (ge_var n_stages rfl) ga_nil) ⟨_, rfl, (by intro z; have := congrArg List.length z; simp at this; subst this; simp at hst), (by rw [List.length_map]; omega), rfl, rfl⟩) hpe) (gg_tup (c).calm (ggs_cons (gg_name (c).ndX (c.sm (i := 4) rfl (by decide +kernel)) (by simp)) (ggs_cons (gg_name (c).ndX (c.sm (i := 5) rfl (by decide +kernel)) (by simp)) ggs_nil))) ?_)
    refine gss_norm (by simp only [setSls, List.zip, List.zipWith, List.set_cons_zero, List.set_cons_succ] <;> exact rfl) ?_
    refine gss_cons (gs_set (c).ndX (c.sm (i := 7) rfl (by decide +kernel)) (gv_e (ge_tup (ga_cons (ge_add (ge_var n_size rfl) (ge_callT (ft_of hX F__law_draw) ((c).low (by decide)) ((c).g (by decide +kernel)) n_tape rfl (ga_cons ge_int ga_nil) ⟨_, rfl, (by omega), rfl, rfl⟩)) (ga_cons (ge_var n_rate rfl) ga_nil)))) ?_)
    refine gss_norm (by simp only [setSls, List.zip, List.zipWith, List.set_cons_zero, List.set_cons_succ] <;> exact rfl) ?_
    refine gss_cons (gs_ifF (GW.t (gw_and (gt_lt (ge_len (bt_of hX B) ((c).g (by decide +kernel)) (gl_of (ge_var n_stages rfl))) ge_int) (fun ht2_0 => (gw_and1 (GW.t (gw_or (gt_neC (s := true) (n := 12) (c).r (by dsimp only [Opd.d]; exact shc) (by dsimp only [Opd.d]; exact shc) (by decide) (ge_call (fp_of hX F_in_line) ((c).low (by decide)) ((c).g (by decide +kernel)) ⟨_, st ++ [p], rfl, ha, (by simp; omega), (fun q hq => by rcases List.mem_append.mp hq with z | z; exact hs q z; rw [List.mem_singleton.mp z]; exact hps), rfl⟩ (ga_cons (ge_var n_arrivals rfl) (ga_cons (ge_new (gn_is (ds1 := (st ++ [p]).map stD) (gn_cat (by rw [sizeLine_val, List.length_map]; simp; omega) (gl_of (ge_var n_stages rfl)) (gl_new (gn_lst (ga_cons (ge_tup (ga_cons (ge_var n_size rfl) (ga_cons (ge_var n_rate rfl) ga_nil))) ga_nil)))) (by rw [List.map_append]; rfl))) ga_nil))) (ge_var n_due rfl)) (fun ht3_0 => (gw_or (gt_neC (s := true) (n := 12) (c).r (by dsimp only [Opd.d]; exact shc) (by dsimp only [Opd.d]; exact shc) (by decide) (ge_call (fp_of hX F_in_line) ((c).low (by decide)) ((c).g (by decide +kernel)) ⟨_, st ++ [(p.1 + gg, p.2), p], rfl, ha, (by simp; omega), (fun q hq => by rcases List.mem_append.mp hq with z | z; exact hs q z; rcases List.mem_cons.mp z with z | z; rw [z]; exact hgs; rw [List.mem_singleton.mp z]; exact hps), rfl⟩ (ga_cons (ge_var n_arrivals rfl) (ga_cons (ge_new (gn_is (ds1 := (st ++ [(p.1 + gg, p.2), p]).map stD) (gn_cat (by rw [sizeLine_val, List.length_map]; simp; omega) (gl_of (ge_var n_stages rfl)) (gl_new (gn_lst (ga_cons (ge_var n_greater rfl) (ga_cons (ge_tup (ga_cons (ge_var n_size rfl) (ga_cons (ge_var n_rate rfl) ga_nil))) ga_nil))))) (by rw [List.map_append]; subst hgd; rfl))) ga_nil))) (ge_var n_due rfl)) (fun ht3_1 => (gw_or1 (gt_neC (s := true) (n := 12) (c).r (by dsimp only [Opd.d]; exact shc) (by dsimp only [Opd.d]; exact shc) (by decide) (ge_call (fp_of hX F_in_line) ((c).low (by decide)) ((c).g (by decide +kernel)) ⟨_, [(p.1 + gg, p.2)] ++ st, rfl, ha, (by simp; omega), (fun q hq => by rcases List.mem_append.mp hq with z | z; rw [List.mem_singleton.mp z]; exact hgs; exact hs q z), rfl⟩ (ga_cons (ge_var n_arrivals rfl) (ga_cons (ge_new (gn_is (ds1 := ([(p.1 + gg, p.2)] ++ st).map stD) (gn_cat (by rw [sizeLine_val, List.length_map]; simp; omega) (gl_new (gn_lst (ga_cons (ge_var n_greater rfl) ga_nil))) (gl_of (ge_var n_stages rfl))) (by rw [List.map_append]; subst hgd; rfl))) ga_nil))) (ge_var n_due rfl)))) (fun _ => rfl))) (fun _ => rfl))))) (fun _ => rfl))) ?_ ?_)
    · have m3' : lineQ as ((p.1 + gg, p.2) :: st) = lineQ as st := m3
      simp [m1, m2, m3', eqb_self, Opd.d]
    refine gss_nil ?_
    refine gss_norm rfl ?_
    refine gss_cons (gs_ifF (gt_neC (s := true) (n := 12) (c).r (by dsimp only [Opd.d]; exact shc) (by dsimp only [Opd.d]; exact shc) (by decide) (gl_new (gn_lcf (w := true) (enc := stD) (xs := st) (f2 := .int) c [("size", 4), ("rate", 5)] (by decide +kernel) (by rw [sizeLine_val]; omega) (gi_list (ge_var n_stages rfl)) (fun x1 hx1 t1 => ⟨_, fun X1 B1 => ⟨(gg_tup ((B1.cn c)).calm (ggs_cons (gg_name ((B1.cn c)).ndX (((B1.cn c)).sm (i := 4) rfl (by decide +kernel)) (by simp)) (ggs_cons (gg_name ((B1.cn c)).ndX (((B1.cn c)).sm (i := 5) rfl (by decide +kernel)) (by simp)) ggs_nil))), (gts_one (gt_notB (ge_call (fp_of (B1.w.trans hX) F_is_outlet) (((B1.cn c)).low (by decide)) (((B1.cn c)).g (by decide +kernel)) ⟨as, x1.1, x1.2, lineQ as st, rfl, ⟨ha, ⟨(hs x1 hx1).1, (hs x1 hx1).2.1⟩, (hs x1 hx1).2.2⟩, line_ok hvs hnn hx1, rfl⟩ (ga_cons (ge_var (((B1.cn c)).nm (i := 1) rfl (by decide +kernel) (by decide +kernel) (by decide +kernel)) rfl) (ga_cons (ge_var (((B1.cn c)).nm (i := 4) rfl (by decide +kernel) (by decide +kernel) (by decide +kernel)) rfl) (ga_cons (ge_var (((B1.cn c)).nm (i := 5) rfl (by decide +kernel) (by decide +kernel) (by decide +kernel)) rfl) (ga_cons (ge_var (((B1.cn c)).nm (i := 3) rfl (by decide +kernel) (by decide +kernel) (by decide +kernel)) rfl) ga_nil))))))), fun hp1 => ge_int⟩⟩))) (gl_new (gn_lst ga_nil))) ?_ ?_)
    · have e0 : st.filter (fun _ => false) = [] := List.filter_eq_nil_iff.mpr (fun _ _ z => by cases z)
      simp [Opd.d]
      rw [e0]
      exact eqb_self _
    refine gss_nil ?_
    refine gss_norm rfl ?_
    refine gss_cons (gs_ret (ge_eqC (s := true) (n := 12) (c).r (by dsimp only [Opd.d]; exact shc) (by dsimp only [Opd.d]; exact shc) (by decide) (ge_call (fp_of hX F_in_line) ((c).low (by decide)) ((c).g (by decide +kernel)) ⟨lineQ as st, st, rfl, hda, (by omega), hs, rfl⟩ (ga_cons (ge_var n_due rfl) (ga_cons (ge_var n_stages rfl) ga_nil))) (ge_var n_due rfl)) ?_)
    exact ⟨by simp [hfix, eqb_self, Opd.d], rfl⟩
theorem p__law_line_right {W : Wd} {f : Addr} {fd : FuncData} (B : Bt W.mg) (F__law_shuffled : FnT W 3 "_law_shuffled" C__law_shuffled) (F__law_pick : FnT W 3 "_law_pick" C__law_pick) (F__law_out : FnP W 2 "_law_out" C__law_out) (F_in_line : FnP W 5 "in_line" C_in_line) (F__law_draw : FnT W 2 "_law_draw" C__law_draw) (F_is_outlet : FnP W 6 "is_outlet" C_is_outlet) (F : Fun W.K "_law_line_right" "_law_line_right" s__law_line_right f fd) (hb : Binds W.K fd ["tape", "arrivals", "stages"] []) (hm : W.mg "_law_line_right" = some (.ref f)) : FnT W 7 "_law_line_right" C__law_line_right :=
  fnT_of F sc__law_line_right hb hm (fun ds τ d τ' h => by obtain ⟨as, st, rfl, ha, hst, hs, hpb, rfl, rfl⟩ := h; rfl) fun X hX c => b__law_line_right B F__law_shuffled F__law_pick F__law_out F_in_line F__law_draw F_is_outlet X hX c
end PD

set_option Elab.async false
set_option linter.all false
set_option maxRecDepth 100000
set_option maxHeartbeats 2000000
namespace PD
open PySem PySem.Spec PyProof.Rows L2
abbrev s__law_beside_right : Stmt := topS 45
theorem sc__law_beside_right : FnScope ["tape", "arrivals", "size", "rate", "others", "more", "both", "gap", "wide", "one", "other", "tick", "tokens", "waiting", "out"] ["tape", "arrivals", "size", "rate"] (defScope s__law_beside_right) := ⟨rfl, rfl, rfl, by decide +kernel, rfl, by decide +kernel, by decide +kernel⟩
abbrev C__law_beside_right : List D → Tape → D → Tape → Prop := fun ds τ d τ' => ∃ (as : List Int) (s r : Int), ds = [.lst (as.map .int), .int s, .int r] ∧ QOk as s r ∧ as.length ≤ 40 ∧ s ≤ 100 ∧ (∀ a ∈ as, a ≤ 1000) ∧ d = .bl true ∧ τ' = besT as τ
theorem b__law_beside_right {W : Wd} (B : Bt W.mg) (F__law_sums : FnP W 1 "_law_sums" C__law_sums) (F__law_draw : FnT W 2 "_law_draw" C__law_draw) (F_backlog : FnP W 6 "backlog" C_backlog) (F_queued : FnP W 6 "queued" C_queued) (F__law_out : FnP W 2 "_law_out" C__law_out) : ∀ X : Cx, wd X = W → Cn X (defScope s__law_beside_right) ["tape", "arrivals", "size", "rate", "others", "more", "both", "gap", "wide", "one", "other", "tick", "tokens", "waiting", "out"] 6 → ∀ ds τ d τ', C__law_beside_right ds τ d τ' → GSs X true (defBody s__law_beside_right) (entry ["tape", "arrivals", "size", "rate", "others", "more", "both", "gap", "wide", "one", "other", "tick", "tokens", "waiting", "out"] (.tape :: ds.map .dat)) τ (Ret d τ') := by
  intro X hX c ds τ d τ' hC
  obtain ⟨as, s, r, rfl, hq, hl, hs51, hb, rfl, rfl⟩ := hC
  have hrr := hq.hr
  have hss := hq.hs
  have hnn : NN as := hq.a.nn
  have hbl : (besO as τ).length = as.length := mapT_len _ _ as τ
  have hbr : ∀ b ∈ besO as τ, 0 ≤ b ∧ b < 6 := mapT_all (fun _ τ => ⟨dr_lo (by decide), dr_hi (by decide)⟩) as τ
  have hbn : NN (besO as τ) := fun b h => (hbr b h).1
  have hm0 := dr_lo (τ := besU as τ) (n := 5) (by decide)
  have hm1 := dr_hi (τ := besU as τ) (n := 5) (by decide)
  have hg0 := dr_lo (τ := nx (besU as τ) 5) (n := 1 + dr (besU as τ) 5) (by omega)
  have hg1 := dr_hi (τ := nx (besU as τ) 5) (n := 1 + dr (besU as τ) 5) (by omega)
  have hw0 := dr_lo (τ := nx (nx (besU as τ) 5) (1 + dr (besU as τ) 5)) (n := 2) (by decide)
  have hw1 := dr_hi (τ := nx (nx (besU as τ) 5) (1 + dr (besU as τ) 5)) (n := 2) (by decide)
  have hqo : QOk (besO as τ) (1 + dr (besU as τ) 5) (1 + dr (nx (besU as τ) 5) (1 + dr (besU as τ) 5)) := ⟨⟨by omega, fun b h => by have := hbr b h; omega⟩, by omega, by omega⟩
  have hqb : QOk (List.zipWith (· + ·) as (besO as τ)) (s + (1 + dr (besU as τ) 5)) (r + (1 + dr (nx (besU as τ) 5) (1 + dr (besU as τ) 5))) := ⟨⟨by rw [List.length_zipWith]; omega, fun a h => by
    obtain ⟨i, hi, e⟩ := List.mem_iff_getElem.mp h
    rw [List.length_zipWith] at hi
    rw [List.getElem_zipWith] at e
    have x1 := hnn _ (List.getElem_mem (l := as) (n := i) (by omega))
    have x2 := hb _ (List.getElem_mem (l := as) (n := i) (by omega))
    have x3 := hbr _ (List.getElem_mem (l := besO as τ) (n := i) (by omega))
    omega⟩, by omega, by omega⟩
  have hqw : QOk as (s + (1 + dr (besU as τ) 5)) (r + dr (nx (nx (besU as τ) 5) (1 + dr (besU as τ) 5)) 2) := ⟨hq.a, by omega, by omega⟩
  have hfin := most_both hrr hqo.hr hnn hbn hbl.symm (gw_all hqb.hr hqb.a.nn).1 (gw_all hrr hnn).1 (gw_all hqo.hr hbn).1
  have hwide : ∀ n, n ≤ as.length → _ := fun n hn => wide_le (as := as) hrr hqw.hr (by omega) (by omega) hnn hn
  have n_tape : Nm X 0 "tape" := c.nm rfl (by decide +kernel) (by decide +kernel) (by decide +kernel)
  have n_arrivals : Nm X 1 "arrivals" := c.nm rfl (by decide +kernel) (by decide +kernel) (by decide +kernel)
  have n_size : Nm X 2 "size" := c.nm rfl (by decide +kernel) (by decide +kernel) (by decide +kernel)
  have n_rate : Nm X 3 "rate" := c.nm rfl (by decide +kernel) (by decide +kernel) (by decide +kernel)
  have n_others : Nm X 4 "others" := c.nm rfl (by decide +kernel) (by decide +kernel) (by decide +kernel)
  have n_more : Nm X 5 "more" := c.nm rfl (by decide +kernel) (by decide +kernel) (by decide +kernel)
  have n_both : Nm X 6 "both" := c.nm rfl (by decide +kernel) (by decide +kernel) (by decide +kernel)
  have n_gap : Nm X 7 "gap" := c.nm rfl (by decide +kernel) (by decide +kernel) (by decide +kernel)
  have n_wide : Nm X 8 "wide" := c.nm rfl (by decide +kernel) (by decide +kernel) (by decide +kernel)
  refine gss_is ?_ (by simp only [entry, List.map, List.length, List.cons_append, List.nil_append, List.replicate, Nat.reduceSub, Nat.reduceAdd] <;> exact rfl)
  refine gss_cons (gs_par2 (c).calm (c).ndX (by rw [(c).hN]; rfl) (by rw [(c).hN]; rfl) (by decide) ((c).l (by decide +kernel)) ((c).l (by decide +kernel)) (i := 4) (j := 5) (gvs_cons (gv_e (ge_new (gn_lctm (w := true) (enc := .int) (xs := as) (f2 := .int) (g := fun _ τ => dr τ 6) (gt := fun _ τ => nx τ 6) c [("tick", 11)] (by decide +kernel) (by rw [sizeLine_val]; omega) (gi_list (ge_var n_arrivals rfl)) (fun x1 hx1 t1 => ⟨_, fun X1 B1 => ⟨(gg_name ((B1.cn c)).ndX (((B1.cn c)).sm (i := 11) rfl (by decide +kernel)) (by simp)), gts_nil, fun hp1 t12 => (ge_callT (ft_of (B1.w.trans hX) F__law_draw) (((B1.cn c)).low (by decide)) (((B1.cn c)).g (by decide +kernel)) (((B1.cn c)).nm (i := 0) rfl (by decide +kernel) (by decide +kernel) (by decide +kernel)) rfl (ga_cons ge_int ga_nil) ⟨_, rfl, (by omega), rfl, rfl⟩)⟩⟩)))) (gvs_cons (gv_e (ge_add ge_int (ge_callT (ft_of hX F__law_draw) ((c).low (by decide)) ((c).g (by decide +kernel)) n_tape rfl (ga_cons ge_int ga_nil) ⟨_, rfl, (by omega), rfl, rfl⟩))) gvs_nil)) (swap2 c (by decide +kernel) (by decide +kernel) (by decide +kernel) (by decide +kernel)) ?_)
  refine gss_norm (by simp only [setSls, List.zip, List.zipWith, List.set_cons_zero, List.set_cons_succ] <;> exact rfl) ?_
  refine gss_cons (gs_setLcmf (w := true) (xs := List.zip as (besO as τ)) (enc := fun p => .tup [.int p.1, .int p.2]) (f2 := .int) c (c.sm (i := 6) rfl (by decide +kernel)) (by decide +kernel) [("one", 9), ("other", 10)] (by decide +kernel) (by rw [sizeLine_val, List.length_zip]; omega) (GI.is (gi_zip (bt_of hX B) ((c).g (by decide +kernel)) (ge_var n_arrivals rfl) (ge_var n_others rfl)) zipD_map) (fun x1 hx1 t1 => ⟨_, fun X1 B1 => ⟨(gg_tup ((B1.cn c)).calm (ggs_cons (gg_name ((B1.cn c)).ndX (((B1.cn c)).sm (i := 9) rfl (by decide +kernel)) (by simp)) (ggs_cons (gg_name ((B1.cn c)).ndX (((B1.cn c)).sm (i := 10) rfl (by decide +kernel)) (by simp)) ggs_nil))), gts_nil, fun hp1 => (ge_add (ge_var (((B1.cn c)).nm (i := 9) rfl (by decide +kernel) (by decide +kernel) (by decide +kernel)) rfl) (ge_var (((B1.cn c)).nm (i := 10) rfl (by decide +kernel) (by decide +kernel) (by decide +kernel)) rfl))⟩⟩) rfl (by decide +kernel) ?_)
  refine gss_norm (by simp only [setSls, List.zip, List.zipWith, List.set_cons_zero, List.set_cons_succ] <;> exact rfl) ?_
  refine gss_freeze 6 rfl ?_
  refine gss_is ?_ (by simp only [List.set_cons_zero, List.set_cons_succ] <;> exact rfl)
  refine gss_cons (gs_set (c).ndX (c.sm (i := 7) rfl (by decide +kernel)) (gv_e (ge_add ge_int (ge_callT (ft_of hX F__law_draw) ((c).low (by decide)) ((c).g (by decide +kernel)) n_tape rfl (ga_cons (ge_var n_more rfl) ga_nil) ⟨_, rfl, (by show 0 < 1 + dr (besU as τ) 5 ∧ 1 + dr (besU as τ) 5 < 1073741824; omega), rfl, rfl⟩))) ?_)
  refine gss_norm (by simp only [setSls, List.zip, List.zipWith, List.set_cons_zero, List.set_cons_succ] <;> exact rfl) ?_
  refine gss_cons (gs_ifF (gt_gt (ge_ixT (by rfl) (ge_call (fp_of hX F_backlog) ((c).low (by decide)) ((c).g (by decide +kernel)) ⟨List.zipWith (· + ·) as (besO as τ), _, _, (congrArg (fun l => [D.lst (l.map D.int), D.int (s + (1 + dr (besU as τ) 5)), D.int (r + (1 + dr (nx (besU as τ) 5) (1 + dr (besU as τ) 5)))]) zip_add), hqb, rfl⟩ (ga_cons (ge_var n_both rfl) (ga_cons (ge_add (ge_var n_size rfl) (ge_var n_more rfl)) (ga_cons (ge_add (ge_var n_rate rfl) (ge_var n_gap rfl)) ga_nil)))) ge_int) (ge_add (ge_ixT (by rfl) (ge_call (fp_of hX F_backlog) ((c).low (by decide)) ((c).g (by decide +kernel)) ⟨_, _, _, rfl, hq, rfl⟩ (ga_cons (ge_var n_arrivals rfl) (ga_cons (ge_var n_size rfl) (ga_cons (ge_var n_rate rfl) ga_nil)))) ge_int) (ge_ixT (by rfl) (ge_call (fp_of hX F_backlog) ((c).low (by decide)) ((c).g (by decide +kernel)) ⟨besO as τ, _, _, rfl, hqo, rfl⟩ (ga_cons (ge_var n_others rfl) (ga_cons (ge_var n_more rfl) (ga_cons (ge_var n_gap rfl) ga_nil)))) ge_int))) ?_ ?_)
  · simp [bkD]; exact hfin
  refine gss_nil ?_
  refine gss_norm rfl ?_
  refine gss_cons (gs_set (c).ndX (c.sm (i := 8) rfl (by decide +kernel)) (gv_e (ge_call (fp_of hX F__law_sums) ((c).low (by decide)) ((c).g (by decide +kernel)) ⟨outQ (s + (1 + dr (besU as τ) 5)) (r + dr (nx (nx (besU as τ) 5) (1 + dr (besU as τ) 5)) 2) as, rfl, (by rw [outQ_len]; omega), rfl⟩ (ga_cons (ge_new (gn_lcmf (w := true) (enc := tri) (xs := ledQ (s + (1 + dr (besU as τ) 5)) (r + dr (nx (nx (besU as τ) 5) (1 + dr (besU as τ) 5)) 2) (s + (1 + dr (besU as τ) 5)) 0 as) (f2 := .int) c [("tokens", 12), ("waiting", 13), ("out", 14)] (by decide +kernel) (by rw [ledQ_len, sizeLine_val]; omega) (gi_list (ge_call (fp_of hX F_queued) ((c).low (by decide)) ((c).g (by decide +kernel)) ⟨false, _, _, _, rfl, hqw, rfl⟩ (ga_cons (ge_var n_arrivals rfl) (ga_cons (ge_add (ge_var n_size rfl) (ge_var n_more rfl)) (ga_cons (ge_add (ge_var n_rate rfl) (ge_callT (ft_of hX F__law_draw) ((c).low (by decide)) ((c).g (by decide +kernel)) n_tape rfl (ga_cons ge_int ga_nil) ⟨_, rfl, (by omega), rfl, rfl⟩)) ga_nil))))) (fun x1 hx1 t1 => ⟨_, fun X1 B1 => ⟨(gg_tup ((B1.cn c)).calm (ggs_cons (gg_name ((B1.cn c)).ndX (((B1.cn c)).sm (i := 12) rfl (by decide +kernel)) (by simp)) (ggs_cons (gg_name ((B1.cn c)).ndX (((B1.cn c)).sm (i := 13) rfl (by decide +kernel)) (by simp)) (ggs_cons (gg_name ((B1.cn c)).ndX (((B1.cn c)).sm (i := 14) rfl (by decide +kernel)) (by simp)) ggs_nil)))), gts_nil, fun hp1 => (ge_var (((B1.cn c)).nm (i := 14) rfl (by decide +kernel) (by decide +kernel) (by decide +kernel)) rfl)⟩⟩))) ga_nil))) ?_)
  refine gss_norm (by simp only [setSls, List.zip, List.zipWith, List.set_cons_zero, List.set_cons_succ] <;> exact rfl) ?_
  refine gss_cons (gs_ret (ge_eqC (s := true) (n := 12) (c).r (by dsimp only [Opd.d]; exact shc) (by dsimp only [Opd.d]; exact shc) (by decide) (gl_new (gn_lcf (w := true) (xs := List.zip (psum 0 (outQ s r as)) (psum 0 (outQ (s + (1 + dr (besU as τ) 5)) (r + dr (nx (nx (besU as τ) 5) (1 + dr (besU as τ) 5)) 2) as))) (enc := fun p => .tup [.int p.1, .int p.2]) (f2 := .int) c [("one", 9), ("other", 10)] (by decide +kernel) (by rw [List.length_zip, psum_len, psum_len, outQ_len, outQ_len, sizeLine_val]; omega) (GI.is (gi_zip (bt_of hX B) ((c).g (by decide +kernel)) (ge_call (fp_of hX F__law_sums) ((c).low (by decide)) ((c).g (by decide +kernel)) ⟨outQ s r as, rfl, (by rw [outQ_len]; omega), rfl⟩ (ga_cons (ge_call (fp_of hX F__law_out) ((c).low (by decide)) ((c).g (by decide +kernel)) ⟨_, _, _, rfl, (by omega), rfl⟩ (ga_cons (ge_var n_arrivals rfl) (ga_cons (ge_var n_size rfl) (ga_cons (ge_var n_rate rfl) ga_nil)))) ga_nil)) (ge_var n_wide rfl)) zipD_map) (fun x1 hx1 t1 => ⟨_, fun X1 B1 => ⟨(gg_tup ((B1.cn c)).calm (ggs_cons (gg_name ((B1.cn c)).ndX (((B1.cn c)).sm (i := 9) rfl (by decide +kernel)) (by simp)) (ggs_cons (gg_name ((B1.cn c)).ndX (((B1.cn c)).sm (i := 10) rfl (by decide +kernel)) (by simp)) ggs_nil))), (gts_one (gt_gt (ge_var (((B1.cn c)).nm (i := 9) rfl (by decide +kernel) (by decide +kernel) (by decide +kernel)) rfl) (ge_var (((B1.cn c)).nm (i := 10) rfl (by decide +kernel) (by decide +kernel) (by decide +kernel)) rfl))), fun hp1 => ge_int⟩⟩))) (gl_new (gn_lst ga_nil))) ?_)
  exact ⟨by
    rw [wide_nil hwide]
    simp [Opd.d, eqb_self], rfl⟩
theorem p__law_beside_right {W : Wd} {f : Addr} {fd : FuncData} (B : Bt W.mg) (F__law_sums : FnP W 1 "_law_sums" C__law_sums) (F__law_draw : FnT W 2 "_law_draw" C__law_draw) (F_backlog : FnP W 6 "backlog" C_backlog) (F_queued : FnP W 6 "queued" C_queued) (F__law_out : FnP W 2 "_law_out" C__law_out) (F : Fun W.K "_law_beside_right" "_law_beside_right" s__law_beside_right f fd) (hb : Binds W.K fd ["tape", "arrivals", "size", "rate"] []) (hm : W.mg "_law_beside_right" = some (.ref f)) : FnT W 7 "_law_beside_right" C__law_beside_right :=
  fnT_of F sc__law_beside_right hb hm (fun ds τ d τ' h => by obtain ⟨as, s, r, rfl, hq, hl, hs51, hb, rfl, rfl⟩ := h; rfl) fun X hX c => b__law_beside_right B F__law_sums F__law_draw F_backlog F_queued F__law_out X hX c
end PD

set_option Elab.async false
set_option linter.all false
set_option maxRecDepth 100000
set_option maxHeartbeats 2000000
namespace PD
open PySem PySem.Spec PyProof.Rows L2
theorem last_eq : eqb (D.lst ((ledQ 2 1 2 0 [5, 0, 0]).map tri)) (D.lst [.tup [.int 0, .int 3, .int 2], .tup [.int 0, .int 2, .int 1], .tup [.int 0, .int 1, .int 1]]) = true := eqb_iff.mpr rfl
abbrev s_law : Stmt := topS 46
theorem sc_law : FnScope ["script", "tape", "lap", "arrivals", "size", "rate", "stages", "stage", "great", "tick"] ["script"] (defScope s_law) := ⟨rfl, rfl, rfl, by decide +kernel, rfl, by decide +kernel, by decide +kernel⟩
theorem b_law {W : Wd} (B : Bt W.mg) (CT : Addr) (mg_TenantError : W.mg "TenantError" = some (.ref CT)) (kit_TenantError : PySem.W.kitOne W.K (.type "dict") (.ref CT) = some false) (F__law_pick : FnT W 3 "_law_pick" C__law_pick) (F__law_draw : FnT W 2 "_law_draw" C__law_draw) (F__law_line_right : FnT W 7 "_law_line_right" C__law_line_right) (F_queued : FnP W 6 "queued" C_queued) (F__law_queue_right : FnT W 7 "_law_queue_right" C__law_queue_right) (F__law_beside_right : FnT W 7 "_law_beside_right" C__law_beside_right) : ∀ X : Cx, wd X = W → Cn X (defScope s_law) ["script", "tape", "lap", "arrivals", "size", "rate", "stages", "stage", "great", "tick"] 7 → ∀ (ns : List Int) τ, ns.length ≤ 63 → GSs X true ((defBody s_law).drop 1) [.dat (.scr ns), .tape, .no, .no, .no, .no, .no, .no, .no, .no] τ (fun o => ∃ τ', o = .rt (.bl true) τ') := by
  intro X hX c ns τ hl
  have n_script : Nm X 0 "script" := c.nm rfl (by decide +kernel) (by decide +kernel) (by decide +kernel)
  have n_tape : Nm X 1 "tape" := c.nm rfl (by decide +kernel) (by decide +kernel) (by decide +kernel)
  have n_lap : Nm X 2 "lap" := c.nm rfl (by decide +kernel) (by decide +kernel) (by decide +kernel)
  have n_arrivals : Nm X 3 "arrivals" := c.nm rfl (by decide +kernel) (by decide +kernel) (by decide +kernel)
  have n_size : Nm X 4 "size" := c.nm rfl (by decide +kernel) (by decide +kernel) (by decide +kernel)
  have n_rate : Nm X 5 "rate" := c.nm rfl (by decide +kernel) (by decide +kernel) (by decide +kernel)
  have n_stages : Nm X 6 "stages" := c.nm rfl (by decide +kernel) (by decide +kernel) (by decide +kernel)
  have n_stage : Nm X 7 "stage" := c.nm rfl (by decide +kernel) (by decide +kernel) (by decide +kernel)
  have n_great : Nm X 8 "great" := c.nm rfl (by decide +kernel) (by decide +kernel) (by decide +kernel)
  refine gss_cons (gs_for (c).xe (c).calm (gi_range1 (bt_of hX B) ((c).g (by decide +kernel)) (by omega) (by omega) (ge_add ge_int (ge_min2 (bt_of hX B) (c).calm ((c).g (by decide +kernel)) (ge_lenS (bt_of hX B) ((c).g (by decide +kernel)) (ge_var n_script rfl)) ge_int))) (fun _ Γ' _ => ∃ s2 s3 s4 s5 s6 s7 s8 s9 : Sl, Γ' = [.dat (.scr ns), .tape, s2, s3, s4, s5, s6, s7, s8, s9]) ?_ ?_ ?_)
  · exact ⟨_, _, _, _, _, _, _, _, rfl⟩
  · intro d rest Γ' τ' hI
    obtain ⟨s2, s3, s4, s5, s6, s7, s8, s9, rfl⟩ := hI
    obtain ⟨dd, rfl⟩ : ∃ dd, dd = d := ⟨d, rfl⟩
    have h30 := dr_lo (τ := τ') (n := 30) (by decide)
    have h31 := dr_hi (τ := τ') (n := 30) (by decide)
    refine ⟨_, [2], (gg_name (c).ndX (c.sm (i := 2) rfl (by decide +kernel)) (by simp)), ?_⟩
    refine gss_is ?_ (by simp only [List.set_cons_zero, List.set_cons_succ] <;> exact rfl)
    refine gss_cons (gs_setLctm (w := true) (enc := .int) (xs := irange 0 (1 + dr τ' 30).toNat) (f2 := .int) (g := arrG) (gt := arrT) c (c.sm (i := 3) rfl (by decide +kernel)) (by decide +kernel) [("tick", 9)] (by decide +kernel) (by rw [irange_len, sizeLine_val]; omega) (gi_range1 (bt_of hX B) ((c).g (by decide +kernel)) (by omega) (by omega) (ge_add ge_int (ge_callT (ft_of hX F__law_draw) ((c).low (by decide)) ((c).g (by decide +kernel)) n_tape rfl (ga_cons ge_int ga_nil) ⟨_, rfl, (by decide), rfl, rfl⟩))) (fun x1 hx1 t1 => ⟨_, fun X1 B1 => ⟨(gg_name ((B1.cn c)).ndX (((B1.cn c)).sm (i := 9) rfl (by decide +kernel)) (by simp)), gts_nil, fun hp1 t12 => (ge_is (d1 := .int (arrL.getD (dr t12 7).toNat 0)) (ge_callT (ft_of (B1.w.trans hX) F__law_pick) (((B1.cn c)).low (by decide)) (((B1.cn c)).g (by decide +kernel)) (((B1.cn c)).nm (i := 1) rfl (by decide +kernel) (by decide +kernel) (by decide +kernel)) rfl (ga_cons (ge_new (gn_lst (ga_cons ge_int (ga_cons ge_int (ga_cons ge_int (ga_cons ge_int (ga_cons ge_int (ga_cons ge_int (ga_cons (ge_pow (by refine ⟨?_, ?_, ?_⟩ <;> decide) ge_int ge_int) ga_nil))))))))) ga_nil) ⟨_, rfl, (by simp), (by decide), rfl, rfl⟩) (int_getD (xs := arrL) (dr_idx (τ := t12) (n := 7) (by decide))))⟩⟩) rfl (by decide +kernel) ?_)
    refine gss_norm (by simp only [setSls, List.zip, List.zipWith, List.set_cons_zero, List.set_cons_succ] <;> exact rfl) ?_
    have hal : (mapT arrG arrT (irange 0 (1 + dr τ' 30).toNat) (nx τ' 30)).1.length ≤ 40 := by rw [mapT_len, irange_len]; omega
    have har : ∀ a ∈ (mapT arrG arrT (irange 0 (1 + dr τ' 30).toNat) (nx τ' 30)).1, 0 ≤ a ∧ a ≤ 1000 := mapT_all (g := arrG) (gt := arrT) (Q := fun a => 0 ≤ a ∧ a ≤ 1000) (fun x τ => arr_rng (i := (dr τ 7).toNat) (dr_idx (τ := τ) (n := 7) (by decide))) _ _
    generalize (mapT arrG arrT (irange 0 (1 + dr τ' 30).toNat) (nx τ' 30)).1 = as at hal har ⊢
    refine gss_any fun τ1 => ?_
    refine gss_freeze 3 rfl ?_
    refine gss_is ?_ (by simp only [List.set_cons_zero, List.set_cons_succ] <;> exact rfl)
    refine gss_cons (gs_set (c).ndX (c.sm (i := 4) rfl (by decide +kernel)) (gv_e (ge_add ge_int (ge_is (d1 := .int (szL.getD (dr τ1 5).toNat 0)) (ge_callT (ft_of hX F__law_pick) ((c).low (by decide)) ((c).g (by decide +kernel)) n_tape rfl (ga_cons (ge_new (gn_lst (ga_cons ge_int (ga_cons ge_int (ga_cons ge_int (ga_cons ge_int (ga_cons ge_int ga_nil))))))) ga_nil) ⟨_, rfl, (by simp), (by decide), rfl, rfl⟩) (int_getD (xs := szL) (dr_idx (τ := τ1) (n := 5) (by decide)))))) ?_)
    refine gss_norm (by simp only [setSls, List.zip, List.zipWith, List.set_cons_zero, List.set_cons_succ] <;> exact rfl) ?_
    have hsz := sz_rng (dr_idx (τ := τ1) (n := 5) (by decide))
    generalize szL.getD (dr τ1 5).toNat 0 = sz at hsz ⊢
    refine gss_any fun τ2 => ?_
    refine gss_cons (gs_set (c).ndX (c.sm (i := 5) rfl (by decide +kernel)) (gv_e (ge_add ge_int (ge_callT (ft_of hX F__law_draw) ((c).low (by decide)) ((c).g (by decide +kernel)) n_tape rfl (ga_cons (ge_min2 (bt_of hX B) (c).calm ((c).g (by decide +kernel)) (ge_var n_size rfl) ge_int) ga_nil) ⟨_, rfl, (by omega), rfl, rfl⟩))) ?_)
    refine gss_norm (by simp only [setSls, List.zip, List.zipWith, List.set_cons_zero, List.set_cons_succ] <;> exact rfl) ?_
    have hr0 := dr_lo (τ := τ2) (n := min (1 + sz) 9) (by omega)
    have hr1 := dr_hi (τ := τ2) (n := min (1 + sz) 9) (by omega)
    generalize dr τ2 (min (1 + sz) 9) = rr at hr0 hr1 ⊢
    refine gss_any fun τ3 => ?_
    have hq : QOk as (1 + sz) (1 + rr) := ⟨⟨by omega, fun a h => by have := har a h; omega⟩, by omega, by omega⟩
    have hr9 : 1 + rr ≤ 9 := by omega
    have hb2 : ∀ a ∈ as, a ≤ 1000 := fun a h => (har a h).2
    refine gss_cons (gs_ifF (GW.t (gw_or (gt_not (gt_val (ge_callT (ft_of hX F__law_queue_right) ((c).low (by decide)) ((c).g (by decide +kernel)) n_tape rfl (ga_cons (ge_var n_arrivals rfl) (ga_cons (ge_var n_size rfl) (ga_cons (ge_var n_rate rfl) ga_nil))) ⟨_, _, _, rfl, hq, hal, har, hr9, rfl, rfl⟩))) (fun ht1_0 => (gw_or1 (gt_not (gt_val (ge_callT (ft_of hX F__law_beside_right) ((c).low (by decide)) ((c).g (by decide +kernel)) n_tape rfl (ga_cons (ge_var n_arrivals rfl) (ga_cons (ge_var n_size rfl) (ga_cons (ge_var n_rate rfl) ga_nil))) ⟨_, _, _, rfl, hq, hal, (by omega), hb2, rfl, rfl⟩))))) (fun z => by cases z))) ?_ ?_)
    · rfl
    refine gss_nil ?_
    refine gss_norm rfl ?_
    refine gss_cons (gs_set (c).ndX (c.sm (i := 6) rfl (by decide +kernel)) (gv_n (gn_lst ga_nil)) ?_)
    refine gss_norm (by simp only [setSls, List.zip, List.zipWith, List.set_cons_zero, List.set_cons_succ] <;> exact rfl) ?_
    refine gss_any fun τ4 => ?_
    have h40 := dr_lo (τ := τ4) (n := 4) (by decide)
    have h41 := dr_hi (τ := τ4) (n := 4) (by decide)
    refine gss_cons (gs_for (c).xe (c).calm (gi_range1 (bt_of hX B) ((c).g (by decide +kernel)) (by omega) (by omega) (ge_add ge_int (ge_callT (ft_of hX F__law_draw) ((c).low (by decide)) ((c).g (by decide +kernel)) n_tape rfl (ga_cons ge_int ga_nil) ⟨_, rfl, (by decide), rfl, rfl⟩))) (fun rest Γ' _ => ∃ (st : List (Int × Int)) (s7 s8 s9 : Sl), rest.length + st.length = (1 + dr τ4 4).toNat ∧ (∀ p ∈ st, SOk p ∧ p.1 ≤ 10) ∧ Γ' = [.dat (.scr ns), .tape, .dat dd, .dat (.lst (as.map .int)), .dat (.int (1 + sz)), .dat (.int (1 + rr)), .own (st.map stD), s7, s8, s9]) ?_ ?_ ?_)
    · exact ⟨[], _, _, _, by simp [irange_len], fun p h => (by cases h), rfl⟩
    · intro d rest Γ' τ' hI
      obtain ⟨st, s7, s8, s9, hn, hst, rfl⟩ := hI
      refine ⟨_, [7], (gg_name (c).ndX (c.sm (i := 7) rfl (by decide +kernel)) (by simp)), ?_⟩
      refine gss_is ?_ (by simp only [List.set_cons_zero, List.set_cons_succ] <;> exact rfl)
      refine gss_cons (gs_set (c).ndX (c.sm (i := 8) rfl (by decide +kernel)) (gv_e (ge_add ge_int (ge_callT (ft_of hX F__law_draw) ((c).low (by decide)) ((c).g (by decide +kernel)) n_tape rfl (ga_cons ge_int ga_nil) ⟨_, rfl, (by decide), rfl, rfl⟩))) ?_)
      refine gss_norm (by simp only [setSls, List.zip, List.zipWith, List.set_cons_zero, List.set_cons_succ] <;> exact rfl) ?_
      have hg0 := dr_lo (τ := τ') (n := 9) (by decide)
      have hg1 := dr_hi (τ := τ') (n := 9) (by decide)
      generalize dr τ' 9 = gr at hg0 hg1 ⊢
      refine gss_any fun τ6 => ?_
      have hh0 := dr_lo (τ := τ6) (n := 1 + gr) (by omega)
      have hh1 := dr_hi (τ := τ6) (n := 1 + gr) (by omega)
      refine gss_cons (gs_append n_stages rfl (ge_tup (ga_cons (ge_var n_great rfl) (ga_cons (ge_add ge_int (ge_callT (ft_of hX F__law_draw) ((c).low (by decide)) ((c).g (by decide +kernel)) n_tape rfl (ga_cons (ge_var n_great rfl) ga_nil) ⟨_, rfl, (by omega), rfl, rfl⟩)) ga_nil))) (by rw [sizeLine_val, List.length_map]; simp only [List.length_cons] at hn; omega) ?_)
      refine gss_norm (by simp only [setSls, List.zip, List.zipWith, List.set_cons_zero, List.set_cons_succ] <;> exact rfl) ?_
      refine gss_nil ?_
      exact ⟨st ++ [(1 + gr, 1 + dr τ6 (1 + gr))], _, _, _, by simp only [List.length_cons] at hn; simp; omega, fun p h => by
        rcases List.mem_append.mp h with z | z
        · exact hst p z
        · rw [List.mem_singleton.mp z]; exact ⟨⟨by show 1 ≤ 1 + gr; omega, by show 1 + gr ≤ 1000000; omega, by show 1 ≤ 1 + dr τ6 (1 + gr); omega, by show 1 + dr τ6 (1 + gr) ≤ 1 + gr; omega⟩, by show 1 + gr ≤ 10; omega⟩, by rw [List.map_append]; rfl⟩
    · intro Γ' τ' hI
      obtain ⟨st, s7, s8, s9, hn, hst, rfl⟩ := hI
      refine gss_norm rfl ?_
      refine gss_freeze 6 rfl ?_
      refine gss_is ?_ (by simp only [List.set_cons_zero, List.set_cons_succ] <;> exact rfl)
      refine gss_cons (gs_ifF (gt_not (gt_val (ge_callT (ft_of hX F__law_line_right) ((c).low (by decide)) ((c).g (by decide +kernel)) n_tape rfl (ga_cons (ge_var n_arrivals rfl) (ga_cons (ge_var n_stages rfl) ga_nil)) ⟨as, st, rfl, hq.a, (by simp only [List.length_nil] at hn; omega), (fun p h => (hst p h).1), (fun p h => by have := (hst p h).2; omega), rfl, rfl⟩))) ?_ ?_)
      · rfl
      refine gss_nil ?_
      refine gss_norm rfl ?_
      refine gss_nil ?_
      exact ⟨_, _, _, _, _, _, _, _, rfl⟩
  · intro Γ' τ' hI
    obtain ⟨s2, s3, s4, s5, s6, s7, s8, s9, rfl⟩ := hI
    refine gss_norm rfl ?_
    refine gss_cons (gs_ret (ge_and (ge_eqC (s := true) (n := 12) (c).r (by dsimp only [Opd.d]; exact shc) (by dsimp only [Opd.d]; exact shc) (by decide) (ge_call (fp_of hX F_queued) ((c).low (by decide)) ((c).g (by decide +kernel)) ⟨false, [5, 0, 0], 2, 1, rfl, ⟨⟨by decide, by decide⟩, by decide, by decide⟩, rfl⟩ (ga_cons (ge_new (gn_lst (ga_cons ge_int (ga_cons ge_int (ga_cons ge_int ga_nil))))) (ga_cons ge_int (ga_cons ge_int ga_nil)))) (gl_new (gn_lst (ga_cons (ge_tup (ga_cons ge_int (ga_cons ge_int (ga_cons ge_int ga_nil)))) (ga_cons (ge_tup (ga_cons ge_int (ga_cons ge_int (ga_cons ge_int ga_nil)))) (ga_cons (ge_tup (ga_cons ge_int (ga_cons ge_int (ga_cons ge_int ga_nil)))) ga_nil)))))) (fun hb2_0 => (ge_one (ge_not (ge_isinstTape (bt_of hX B) ((c).g (by decide +kernel)) ((c).g (by decide +kernel)) (mg_of hX mg_TenantError) (by subst hX; exact kit_TenantError) n_tape rfl)))) (fun _ => rfl)) ?_)
    exact ⟨τ', congrArg (fun b => Out.rt (D.bl (b && !false)) τ') last_eq⟩
end PD

set_option Elab.async false
set_option linter.all false
set_option maxRecDepth 100000
namespace PD
open PySem PySem.Spec PyProof.Rows L2
theorem kit_dict {K : PySem.W.Frag} {CT : Addr} {od : Option Addr} {cd : ClassData} {sl : Array (Option Value)} (h : K.lookup CT = some ⟨.type "type", od, .cls cd, sl⟩) : PySem.W.kitOne K (.type "dict") (.ref CT) = some false := by
  have e1 : PySem.W.clsIn K CT = some cd := by unfold PySem.W.clsIn; rw [h]
  have e2 : PySem.W.typeIn K (.ref CT) = some (.type "type") := by
    show (K.lookup CT).map (·.cls) = some (.type "type")
    rw [h]
    rfl
  have e3 : PySem.fastBuiltinMro "dict" = some [.type "dict", .type "object"] := by kernel_rfl
  show (if (Value.type "dict" == Value.ref CT) = true then some true else if ((PySem.W.clsIn K CT).isSome && PySem.W.typeIn K (.ref CT) == some (.type "type")) = true then PySem.W.subIn K (.type "dict") (.ref CT) else none) = some false
  rw [if_neg (show ¬ ((Value.type "dict" == Value.ref CT) = true) from Bool.false_ne_true), e1, e2, if_pos (by rfl)]
  show (PySem.fastBuiltinMro "dict").map (·.contains (Value.ref CT)) = some false
  rw [e3]
  rfl
end PD

set_option Elab.async false
set_option linter.all false
set_option maxRecDepth 100000
set_option maxHeartbeats 2000000
namespace PD
open PySem PySem.Spec PyProof.Rows L2
abbrev s__law_begun : Stmt := topS 35
theorem sc__law_begun : FnScope ["script", "large", "grain"] ["script"] (defScope s__law_begun) := ⟨rfl, rfl, rfl, by decide +kernel, rfl, by decide +kernel, by decide +kernel⟩
theorem ge_absN {X : Cx} {m : Bool} {Γ : List Sl} {τ τ1 : Tape} {a : Expr} {z : Int} {p1 pos : Pos} (B : Bt X.mg) (hg : Gl X "abs") (ha : GE X m a Γ τ (.int z) τ1) (hs : starEach (a :: []) X.env = (false, eval a X.env) :: starEach [] X.env := by rfl) : GE X m (.Call (.Name "abs" p1) [a] [] pos) Γ τ (.int (z.natAbs : Int)) τ1 :=
  ge_is (ge_abs B hg ha hs) (congrArg D.int (by split <;> omega))
section
variable {P : Program} {w : World} {K : PySem.W.Frag} {mg : Str → Option Value} {base : Heap}
theorem gs_begun {X : Cx} {k : Nat} {τ : Tape} {ns : List Int} (B : Bt X.mg) (c : Cn X (defScope s__law_begun) ["script", "large", "grain"] k) (hl : ns.length ≤ 63) : ∀ st, (defBody s__law_begun)[0]? = some st → GS X false st [.dat (.scr ns), .no, .no] τ (fun o => o = .nx [.dat (.scr ns), .own ((tape0 ns).large.map .int), .no] τ) := by
  intro st hst
  have n_script : Nm X 0 "script" := c.nm rfl (by decide +kernel) (by decide +kernel) (by decide +kernel)
  cases hst
  exact gs_setLcf (w := true) (f2 := .int) (enc := .int) (xs := ns) (p := fun z => decide ((z.natAbs : Int) ≥ 10 ^ (18 : Int).toNat)) (g := fun z => (z.natAbs : Int) - 10 ^ (18 : Int).toNat) c (c.sm (i := 1) rfl (by decide +kernel)) (by decide +kernel) [("grain", 2)] (by decide +kernel) (by rw [sizeLine_val]; omega) (gi_scr (ge_var n_script rfl))
    (fun x1 hx1 t1 => ⟨_, fun X1 B1 => ⟨gg_name (B1.cn c).ndX ((B1.cn c).sm (i := 2) rfl (by decide +kernel)) (by simp), gts_one (gt_ge (ge_absN (bt_of (B1.w) B) ((B1.cn c).g (by decide +kernel)) (ge_var ((B1.cn c).nm (i := 2) rfl (by decide +kernel) (by decide +kernel) (by decide +kernel)) rfl)) (ge_pow ⟨by decide, by decide, by decide⟩ ge_int ge_int)), fun _ => ge_sub (ge_absN (bt_of (B1.w) B) ((B1.cn c).g (by decide +kernel)) (ge_var ((B1.cn c).nm (i := 2) rfl (by decide +kernel) (by decide +kernel) (by decide +kernel)) rfl)) (ge_pow ⟨by decide, by decide, by decide⟩ ge_int ge_int)⟩⟩) rfl (by decide +kernel) rfl
theorem ok_begun {f : Addr} {fd : FuncData} (B : Bt mg) (F : Fun K "_law_begun" "_law_begun" s__law_begun f fd) : FnOk P w K mg base CX0 1 f fd ["script"] (spBeg K) := by
  refine F.ok sc__law_begun (fun vs H Q E h => by obtain ⟨a, ns, rfl, _⟩ := h; rfl) (fun cdv A outer s H vs Q E hr h => ?_)
  obtain ⟨a, ns, rfl, hS, hl, q⟩ := h
  have c := cn_of (P := P) (w := w) (K := K) (mg := mg) (base := base) (qual := "_law_begun") (f := f) (cdv := cdv) (outer := outer) (s := s) (H := H) (E := E) sc__law_begun hr
  have n_large : Nm _ 1 "large" := c.nm rfl (by decide +kernel) (by decide +kernel) (by decide +kernel)
  refine ⟨_, pss_cons ps_u (pss_one (ps_ret (pe_disp (pps_cons pe_str (pe_var n_large.n n_large.v n_large.d n_large.c) (pps_cons pe_str pe_int (pps_cons pe_str pe_u (pps_cons pe_str pe_int pps_nil)))) rfl rfl (by simp) (by decide)))), ?_⟩
  have S0 := start_dat (K := K) (mg := mg) (E := ⟨H, H, 0, 0⟩) (N := ["script", "large", "grain"]) (τ := ⟨[], 0, 0, []⟩) (Hb := H) (H := H) (ds := [.scr ns]) (Grow.refl (fun _ _ h => h)) (TpOk.off rfl) (.cons (.scr hS) .nil)
  refine gs_begun B c hl _ rfl ⟨H, H, 0, 0⟩ _ H H _ S0 ⟨fun Γ' τ' σ' Hb1 H1 p S1 => ?_, fun _ _ _ _ _ p _ _ _ => (by cases p), fun _ _ _ _ _ p _ => (by cases p), fun _ _ _ _ _ p _ => (by cases p)⟩
  cases p
  obtain ⟨lg, vs, e1, e2, e3, e4, e5, e6⟩ := S1.own 1 _ rfl
  cases e5.ints
  intro tp ht
  refine ⟨_, e1, ?_⟩
  have S2 := S1.grow (τ' := ⟨[], 0, 0, []⟩) (Grow.alloc (o := .dK []) S1.same ht) (TpOk.off rfl)
  change uE _ _ σ' (upd H1 tp (.dK [])) _
  refine gn_lcmf (w := true) (f2 := .int) (enc := .int) (xs := ns) (g := fun z => (z.natAbs : Int)) c [("grain", 2)] (by decide +kernel) (by rw [sizeLine_val]; omega) (gi_scr (ge_var (c.nm (i := 0) (x := "script") rfl (by decide +kernel) (by decide +kernel) (by decide +kernel)) rfl))
    (fun x1 hx1 t1 => ⟨_, fun X1 B1 => ⟨gg_name (B1.cn c).ndX ((B1.cn c).sm (i := 2) rfl (by decide +kernel)) (by simp), gts_nil, fun _ => ge_absN (bt_of (B1.w) B) ((B1.cn c).g (by decide +kernel)) (ge_var ((B1.cn c).nm (i := 2) rfl (by decide +kernel) (by decide +kernel) (by decide +kernel)) rfl)⟩⟩) (fun _ => rfl) ⟨H, H, 0, 0⟩ σ' Hb1 _ _ S2 fun cl vs2 Hb2 H2 g2 t2 n1 n2 h1 h2 h3 => ?_
  cases h3.ints
  have n3 : cl ≠ tp := fun z => by rw [z, upd_same] at n1; cases n1
  have n4 : lg ≠ tp := fun z => by rw [z, ht] at e4; cases e4
  have n5 : lg ≠ cl := fun z => by rw [← z, upd_ne n4] at n1; rw [e4] at n1; cases n1
  have k1 : H2 tp = some (.dK []) := g2.k tp _ upd_same (fun z => by cases z)
  have k2 : H2 lg = some (.lst ((tape0 ns).large.map V.int)) := g2.k lg _ (by rw [upd_ne n4]; exact e4) (fun z => by cases z)
  have old : ∀ p o, H p = some o → H1 p = some o := fun p o hp => S1.g.k p o hp (fun z => by cases z)
  have f1 : H tp = none := by
    cases z : H tp with
    | none => rfl
    | some o => rw [old _ _ z] at ht; cases ht
  have f3 : H cl = none := by
    cases z : H cl with
    | none => rfl
    | some o =>
      rw [upd_ne n3, old _ _ z] at n1
      cases n1
  refine ⟨k1, [(Sum.inr ("large" : Str), V.ref lg), (Sum.inr ("rest" : Str), V.int 0), (Sum.inr ("cells" : Str), V.ref cl), (Sum.inr ("turn" : Str), V.int 0)], rfl, by simp, ?_⟩
  rw [tape_merge lg cl (tape0 ns) rfl rfl]
  exact q tp lg cl _ upd_same (by rw [upd_ne n4]; exact k2) (by rw [upd_ne n3]; exact h1) (Ne.symm n4) (Ne.symm n3) n5 f1 e2 f3 fun p o hp => by
    have h4 : H1 p = some o := old p o hp
    have n6 : p ≠ tp := fun z => by rw [z, ht] at h4; cases h4
    rw [upd_ne n6]
    exact g2.k p o (by rw [upd_ne n6]; exact h4) (fun z => by cases z)
theorem ok_law {f : Addr} {fd : FuncData} (B : Bt mg) (CT : Addr) (mT : mg "TenantError" = some (.ref CT)) (kT : PySem.W.kitOne K (.type "dict") (.ref CT) = some false) (Fb : BegOk ⟨P, w, K, mg, base⟩ 1) (F__law_pick : FnT ⟨P, w, K, mg, base⟩ 3 "_law_pick" C__law_pick) (F__law_draw : FnT ⟨P, w, K, mg, base⟩ 2 "_law_draw" C__law_draw) (F__law_line_right : FnT ⟨P, w, K, mg, base⟩ 7 "_law_line_right" C__law_line_right) (F_queued : FnP ⟨P, w, K, mg, base⟩ 6 "queued" C_queued) (F__law_queue_right : FnT ⟨P, w, K, mg, base⟩ 7 "_law_queue_right" C__law_queue_right) (F__law_beside_right : FnT ⟨P, w, K, mg, base⟩ 7 "_law_beside_right" C__law_beside_right) (F : Fun K "law" "law" s_law f fd) : FnOk P w K mg base CX0 8 f fd ["script"] (spLaw K) := by
  refine F.ok sc_law (fun vs H Q E h => by obtain ⟨a, ns, rfl, _⟩ := h; rfl) (fun cdv A outer s H vs Q E hr h => ?_)
  obtain ⟨a, ns, rfl, hS, hl, q⟩ := h
  have c := cn_of (P := P) (w := w) (K := K) (mg := mg) (base := base) (qual := "law") (f := f) (cdv := cdv) (outer := outer) (s := s) (H := H) (E := E) sc_law hr
  have n_script : Nm _ 0 "script" := c.nm rfl (by decide +kernel) (by decide +kernel) (by decide +kernel)
  have s_tape : Sm _ 1 "tape" := c.sm rfl (by decide +kernel)
  obtain ⟨fb, fdb, Fb, hmb, hkb, hbb⟩ := Fb
  refine ⟨_, pss_cons (ps_set c.ndX s_tape.n s_tape.v (pe_call Fb (c.low (by decide)) (c.g (by decide +kernel)) hmb hkb hbb .nil pass0 (pa_cons (pe_var n_script.n n_script.v n_script.d n_script.c) pa_nil)) rfl s_tape.f) pss_u, ?_⟩
  refine ⟨.ref a, rfl, a, ns, rfl, hS, hl, fun tp lg cl H' h1 h2 h3 n1 n2 n3 f1 f2 f3 e => ?_⟩
  refine b_law (W := ⟨P, w, K, mg, base⟩) B CT mT kT F__law_pick F__law_draw F__law_line_right F_queued F__law_queue_right F__law_beside_right _ rfl c ns (tape0 ns) hl ⟨_, H', tp, lg⟩ _ _ H' _ (start_law (n := 8) hS hl e h1 h2 h3 n1 n2 n3 f1 f2 rfl) ⟨fun _ _ _ _ _ p _ => ?_, fun d τ v Hb1 H1 p g t r => ?_, fun _ _ _ _ _ p _ => ?_, fun _ _ _ _ _ p _ => ?_⟩
  · obtain ⟨_, z⟩ := p
    cases z
  · obtain ⟨_, z⟩ := p
    cases z
    cases Rp.bl_inv r
    exact q H1
  · obtain ⟨_, z⟩ := p
    cases z
  · obtain ⟨_, z⟩ := p
    cases z
end
theorem all_mk {l : PySem.W.OpenLaw} {w : World} {K : PySem.W.Frag} {h : Heap} {mg : Str → Option Value} {fa CT f0 f1 f2 f3 f4 f5 f6 f7 f8 f9 f10 f11 f12 f13 f14 f15 f16 f17 f18 f19 f20 f21 f22 f23 f24 f25 f26 f27 f28 f29 f30 f31 f32 : Addr} (X : K.In h) (G : h.Ns mainGlobals mg) (hfa : mg "law" = some (.ref fa))
    {od0 an0 od1 an1 od2 an2 od3 an3 od4 an4 od5 an5 od6 an6 od7 an7 od8 an8 od9 an9 od10 an10 od11 an11 od12 an12 od13 an13 od14 an14 od15 an15 od16 an16 od17 an17 od18 an18 od19 an19 od20 an20 od21 an21 od22 an22 od23 an23 od24 an24 od25 an25 od26 an26 od27 an27 od28 an28 od29 an29 od30 an30 od31 an31 od32 an32 : Option Addr} {sl0 sl1 sl2 sl3 sl4 sl5 sl6 sl7 sl8 sl9 sl10 sl11 sl12 sl13 sl14 sl15 sl16 sl17 sl18 sl19 sl20 sl21 sl22 sl23 sl24 sl25 sl26 sl27 sl28 sl29 sl30 sl31 sl32 : Array (Option Value)} {oc0 kV0 dc0 pm0 cd0 ct0 oc1 kV1 dc1 pm1 cd1 ct1 oc2 kV2 dc2 pm2 cd2 ct2 oc3 kV3 dc3 pm3 cd3 ct3 oc4 kV4 dc4 pm4 cd4 ct4 oc5 kV5 dc5 pm5 cd5 ct5 oc6 kV6 dc6 pm6 cd6 ct6 oc7 kV7 dc7 pm7 cd7 ct7 oc8 kV8 dc8 pm8 cd8 ct8 oc9 kV9 dc9 pm9 cd9 ct9 oc10 kV10 dc10 pm10 cd10 ct10 oc11 kV11 dc11 pm11 cd11 ct11 oc12 kV12 dc12 pm12 cd12 ct12 oc13 kV13 dc13 pm13 cd13 ct13 oc14 kV14 dc14 pm14 cd14 ct14 oc15 kV15 dc15 pm15 cd15 ct15 oc16 kV16 dc16 pm16 cd16 ct16 oc17 kV17 dc17 pm17 cd17 ct17 oc18 kV18 dc18 pm18 cd18 ct18 oc19 kV19 dc19 pm19 cd19 ct19 oc20 kV20 dc20 pm20 cd20 ct20 oc21 kV21 dc21 pm21 cd21 ct21 oc22 kV22 dc22 pm22 cd22 ct22 oc23 kV23 dc23 pm23 cd23 ct23 oc24 kV24 dc24 pm24 cd24 ct24 oc25 kV25 dc25 pm25 cd25 ct25 oc26 kV26 dc26 pm26 cd26 ct26 oc27 kV27 dc27 pm27 cd27 ct27 oc28 kV28 dc28 pm28 cd28 ct28 oc29 kV29 dc29 pm29 cd29 ct29 oc30 kV30 dc30 pm30 cd30 ct30 oc31 kV31 dc31 pm31 cd31 ct31 oc32 kV32 dc32 pm32 cd32 ct32 : Value}
    (a0 : PySem.W.nsIn K mainGlobals "_law_begun" = some (some (.ref f0))) (l0 : K.lookup f0 = some ⟨oc0, od0, .func (PySem.W.fnOf "_law_begun" "_law_begun" (defArgs s__law_begun) (defBody s__law_begun) (defScope s__law_begun) .none kV0 dc0 pm0 an0 cd0 ct0), sl0⟩) (c0 : PySem.W.codeIn K cd0 "_law_begun" = true) (k0 : PySem.W.keepIn K (.ref f0) = true)
    (a1 : PySem.W.nsIn K mainGlobals "_law_blend" = some (some (.ref f1))) (l1 : K.lookup f1 = some ⟨oc1, od1, .func (PySem.W.fnOf "_law_blend" "_law_blend" (defArgs s__law_blend) (defBody s__law_blend) (defScope s__law_blend) .none kV1 dc1 pm1 an1 cd1 ct1), sl1⟩) (c1 : PySem.W.codeIn K cd1 "_law_blend" = true) (k1 : PySem.W.keepIn K (.ref f1) = true)
    (a2 : PySem.W.nsIn K mainGlobals "_law_draw" = some (some (.ref f2))) (l2 : K.lookup f2 = some ⟨oc2, od2, .func (PySem.W.fnOf "_law_draw" "_law_draw" (defArgs s__law_draw) (defBody s__law_draw) (defScope s__law_draw) .none kV2 dc2 pm2 an2 cd2 ct2), sl2⟩) (c2 : PySem.W.codeIn K cd2 "_law_draw" = true) (k2 : PySem.W.keepIn K (.ref f2) = true)
    (a3 : PySem.W.nsIn K mainGlobals "_law_pick" = some (some (.ref f3))) (l3 : K.lookup f3 = some ⟨oc3, od3, .func (PySem.W.fnOf "_law_pick" "_law_pick" (defArgs s__law_pick) (defBody s__law_pick) (defScope s__law_pick) .none kV3 dc3 pm3 an3 cd3 ct3), sl3⟩) (c3 : PySem.W.codeIn K cd3 "_law_pick" = true) (k3 : PySem.W.keepIn K (.ref f3) = true)
    (a4 : PySem.W.nsIn K mainGlobals "_law_shuffled" = some (some (.ref f4))) (l4 : K.lookup f4 = some ⟨oc4, od4, .func (PySem.W.fnOf "_law_shuffled" "_law_shuffled" (defArgs s__law_shuffled) (defBody s__law_shuffled) (defScope s__law_shuffled) .none kV4 dc4 pm4 an4 cd4 ct4), sl4⟩) (c4 : PySem.W.codeIn K cd4 "_law_shuffled" = true) (k4 : PySem.W.keepIn K (.ref f4) = true)
    (a5 : PySem.W.nsIn K mainGlobals "is_number" = some (some (.ref f5))) (l5 : K.lookup f5 = some ⟨oc5, od5, .func (PySem.W.fnOf "is_number" "is_number" (defArgs s_is_number) (defBody s_is_number) (defScope s_is_number) .none kV5 dc5 pm5 an5 cd5 ct5), sl5⟩) (c5 : PySem.W.codeIn K cd5 "is_number" = true) (k5 : PySem.W.keepIn K (.ref f5) = true)
    (a6 : PySem.W.nsIn K mainGlobals "is_between" = some (some (.ref f6))) (l6 : K.lookup f6 = some ⟨oc6, od6, .func (PySem.W.fnOf "is_between" "is_between" (defArgs s_is_between) (defBody s_is_between) (defScope s_is_between) .none kV6 dc6 pm6 an6 cd6 ct6), sl6⟩) (c6 : PySem.W.codeIn K cd6 "is_between" = true) (k6 : PySem.W.keepIn K (.ref f6) = true)
    (a7 : PySem.W.nsIn K mainGlobals "is_list" = some (some (.ref f7))) (l7 : K.lookup f7 = some ⟨oc7, od7, .func (PySem.W.fnOf "is_list" "is_list" (defArgs s_is_list) (defBody s_is_list) (defScope s_is_list) .none kV7 dc7 pm7 an7 cd7 ct7), sl7⟩) (c7 : PySem.W.codeIn K cd7 "is_list" = true) (k7 : PySem.W.keepIn K (.ref f7) = true)
    (a8 : PySem.W.nsIn K mainGlobals "need_between" = some (some (.ref f8))) (l8 : K.lookup f8 = some ⟨oc8, od8, .func (PySem.W.fnOf "need_between" "need_between" (defArgs s_need_between) (defBody s_need_between) (defScope s_need_between) .none kV8 dc8 pm8 an8 cd8 ct8), sl8⟩) (c8 : PySem.W.codeIn K cd8 "need_between" = true) (k8 : PySem.W.keepIn K (.ref f8) = true)
    (a9 : PySem.W.nsIn K mainGlobals "is_short_list" = some (some (.ref f9))) (l9 : K.lookup f9 = some ⟨oc9, od9, .func (PySem.W.fnOf "is_short_list" "is_short_list" (defArgs s_is_short_list) (defBody s_is_short_list) (defScope s_is_short_list) .none kV9 dc9 pm9 an9 cd9 ct9), sl9⟩) (c9 : PySem.W.codeIn K cd9 "is_short_list" = true) (k9 : PySem.W.keepIn K (.ref f9) = true)
    (a10 : PySem.W.nsIn K mainGlobals "first_wrong" = some (some (.ref f10))) (l10 : K.lookup f10 = some ⟨oc10, od10, .func (PySem.W.fnOf "first_wrong" "first_wrong" (defArgs s_first_wrong) (defBody s_first_wrong) (defScope s_first_wrong) .none kV10 dc10 pm10 an10 cd10 ct10), sl10⟩) (c10 : PySem.W.codeIn K cd10 "first_wrong" = true) (k10 : PySem.W.keepIn K (.ref f10) = true)
    (a11 : PySem.W.nsIn K mainGlobals "rounded_up" = some (some (.ref f11))) (l11 : K.lookup f11 = some ⟨oc11, od11, .func (PySem.W.fnOf "rounded_up" "rounded_up" (defArgs s_rounded_up) (defBody s_rounded_up) (defScope s_rounded_up) .none kV11 dc11 pm11 an11 cd11 ct11), sl11⟩) (c11 : PySem.W.codeIn K cd11 "rounded_up" = true) (k11 : PySem.W.keepIn K (.ref f11) = true)
    (a12 : PySem.W.nsIn K mainGlobals "need_arrivals" = some (some (.ref f12))) (l12 : K.lookup f12 = some ⟨oc12, od12, .func (PySem.W.fnOf "need_arrivals" "need_arrivals" (defArgs s_need_arrivals) (defBody s_need_arrivals) (defScope s_need_arrivals) .none kV12 dc12 pm12 an12 cd12 ct12), sl12⟩) (c12 : PySem.W.codeIn K cd12 "need_arrivals" = true) (k12 : PySem.W.keepIn K (.ref f12) = true)
    (a13 : PySem.W.nsIn K mainGlobals "need_queue" = some (some (.ref f13))) (l13 : K.lookup f13 = some ⟨oc13, od13, .func (PySem.W.fnOf "need_queue" "need_queue" (defArgs s_need_queue) (defBody s_need_queue) (defScope s_need_queue) .none kV13 dc13 pm13 an13 cd13 ct13), sl13⟩) (c13 : PySem.W.codeIn K cd13 "need_queue" = true) (k13 : PySem.W.keepIn K (.ref f13) = true)
    (a14 : PySem.W.nsIn K mainGlobals "led_queue" = some (some (.ref f14))) (l14 : K.lookup f14 = some ⟨oc14, od14, .func (PySem.W.fnOf "led_queue" "led_queue" (defArgs s_led_queue) (defBody s_led_queue) (defScope s_led_queue) .none kV14 dc14 pm14 an14 cd14 ct14), sl14⟩) (c14 : PySem.W.codeIn K cd14 "led_queue" = true) (k14 : PySem.W.keepIn K (.ref f14) = true)
    (a15 : PySem.W.nsIn K mainGlobals "queued" = some (some (.ref f15))) (l15 : K.lookup f15 = some ⟨oc15, od15, .func (PySem.W.fnOf "queued" "queued" (defArgs s_queued) (defBody s_queued) (defScope s_queued) .none kV15 dc15 pm15 an15 cd15 ct15), sl15⟩) (c15 : PySem.W.codeIn K cd15 "queued" = true) (k15 : PySem.W.keepIn K (.ref f15) = true)
    (a16 : PySem.W.nsIn K mainGlobals "greatest_window" = some (some (.ref f16))) (l16 : K.lookup f16 = some ⟨oc16, od16, .func (PySem.W.fnOf "greatest_window" "greatest_window" (defArgs s_greatest_window) (defBody s_greatest_window) (defScope s_greatest_window) .none kV16 dc16 pm16 an16 cd16 ct16), sl16⟩) (c16 : PySem.W.codeIn K cd16 "greatest_window" = true) (k16 : PySem.W.keepIn K (.ref f16) = true)
    (a17 : PySem.W.nsIn K mainGlobals "backlog" = some (some (.ref f17))) (l17 : K.lookup f17 = some ⟨oc17, od17, .func (PySem.W.fnOf "backlog" "backlog" (defArgs s_backlog) (defBody s_backlog) (defScope s_backlog) .none kV17 dc17 pm17 an17 cd17 ct17), sl17⟩) (c17 : PySem.W.codeIn K cd17 "backlog" = true) (k17 : PySem.W.keepIn K (.ref f17) = true)
    (a18 : PySem.W.nsIn K mainGlobals "is_backlog" = some (some (.ref f18))) (l18 : K.lookup f18 = some ⟨oc18, od18, .func (PySem.W.fnOf "is_backlog" "is_backlog" (defArgs s_is_backlog) (defBody s_is_backlog) (defScope s_is_backlog) .none kV18 dc18 pm18 an18 cd18 ct18), sl18⟩) (c18 : PySem.W.codeIn K cd18 "is_backlog" = true) (k18 : PySem.W.keepIn K (.ref f18) = true)
    (a19 : PySem.W.nsIn K mainGlobals "waits" = some (some (.ref f19))) (l19 : K.lookup f19 = some ⟨oc19, od19, .func (PySem.W.fnOf "waits" "waits" (defArgs s_waits) (defBody s_waits) (defScope s_waits) .none kV19 dc19 pm19 an19 cd19 ct19), sl19⟩) (c19 : PySem.W.codeIn K cd19 "waits" = true) (k19 : PySem.W.keepIn K (.ref f19) = true)
    (a20 : PySem.W.nsIn K mainGlobals "sums_of" = some (some (.ref f20))) (l20 : K.lookup f20 = some ⟨oc20, od20, .func (PySem.W.fnOf "sums_of" "sums_of" (defArgs s_sums_of) (defBody s_sums_of) (defScope s_sums_of) .none kV20 dc20 pm20 an20 cd20 ct20), sl20⟩) (c20 : PySem.W.codeIn K cd20 "sums_of" = true) (k20 : PySem.W.keepIn K (.ref f20) = true)
    (a21 : PySem.W.nsIn K mainGlobals "keeps_windows" = some (some (.ref f21))) (l21 : K.lookup f21 = some ⟨oc21, od21, .func (PySem.W.fnOf "keeps_windows" "keeps_windows" (defArgs s_keeps_windows) (defBody s_keeps_windows) (defScope s_keeps_windows) .none kV21 dc21 pm21 an21 cd21 ct21), sl21⟩) (c21 : PySem.W.codeIn K cd21 "keeps_windows" = true) (k21 : PySem.W.keepIn K (.ref f21) = true)
    (a22 : PySem.W.nsIn K mainGlobals "is_outlet" = some (some (.ref f22))) (l22 : K.lookup f22 = some ⟨oc22, od22, .func (PySem.W.fnOf "is_outlet" "is_outlet" (defArgs s_is_outlet) (defBody s_is_outlet) (defScope s_is_outlet) .none kV22 dc22 pm22 an22 cd22 ct22), sl22⟩) (c22 : PySem.W.codeIn K cd22 "is_outlet" = true) (k22 : PySem.W.keepIn K (.ref f22) = true)
    (a23 : PySem.W.nsIn K mainGlobals "bounds" = some (some (.ref f23))) (l23 : K.lookup f23 = some ⟨oc23, od23, .func (PySem.W.fnOf "bounds" "bounds" (defArgs s_bounds) (defBody s_bounds) (defScope s_bounds) .none kV23 dc23 pm23 an23 cd23 ct23), sl23⟩) (c23 : PySem.W.codeIn K cd23 "bounds" = true) (k23 : PySem.W.keepIn K (.ref f23) = true)
    (a24 : PySem.W.nsIn K mainGlobals "stage_right" = some (some (.ref f24))) (l24 : K.lookup f24 = some ⟨oc24, od24, .func (PySem.W.fnOf "stage_right" "stage_right" (defArgs s_stage_right) (defBody s_stage_right) (defScope s_stage_right) .none kV24 dc24 pm24 an24 cd24 ct24), sl24⟩) (c24 : PySem.W.codeIn K cd24 "stage_right" = true) (k24 : PySem.W.keepIn K (.ref f24) = true)
    (a25 : PySem.W.nsIn K mainGlobals "in_line" = some (some (.ref f25))) (l25 : K.lookup f25 = some ⟨oc25, od25, .func (PySem.W.fnOf "in_line" "in_line" (defArgs s_in_line) (defBody s_in_line) (defScope s_in_line) .none kV25 dc25 pm25 an25 cd25 ct25), sl25⟩) (c25 : PySem.W.codeIn K cd25 "in_line" = true) (k25 : PySem.W.keepIn K (.ref f25) = true)
    (a26 : PySem.W.nsIn K mainGlobals "_law_queued" = some (some (.ref f26))) (l26 : K.lookup f26 = some ⟨oc26, od26, .func (PySem.W.fnOf "_law_queued" "_law_queued" (defArgs s__law_queued) (defBody s__law_queued) (defScope s__law_queued) .none kV26 dc26 pm26 an26 cd26 ct26), sl26⟩) (c26 : PySem.W.codeIn K cd26 "_law_queued" = true) (k26 : PySem.W.keepIn K (.ref f26) = true)
    (a27 : PySem.W.nsIn K mainGlobals "_law_out" = some (some (.ref f27))) (l27 : K.lookup f27 = some ⟨oc27, od27, .func (PySem.W.fnOf "_law_out" "_law_out" (defArgs s__law_out) (defBody s__law_out) (defScope s__law_out) .none kV27 dc27 pm27 an27 cd27 ct27), sl27⟩) (c27 : PySem.W.codeIn K cd27 "_law_out" = true) (k27 : PySem.W.keepIn K (.ref f27) = true)
    (a28 : PySem.W.nsIn K mainGlobals "_law_sums" = some (some (.ref f28))) (l28 : K.lookup f28 = some ⟨oc28, od28, .func (PySem.W.fnOf "_law_sums" "_law_sums" (defArgs s__law_sums) (defBody s__law_sums) (defScope s__law_sums) .none kV28 dc28 pm28 an28 cd28 ct28), sl28⟩) (c28 : PySem.W.codeIn K cd28 "_law_sums" = true) (k28 : PySem.W.keepIn K (.ref f28) = true)
    (a29 : PySem.W.nsIn K mainGlobals "_law_queue_right" = some (some (.ref f29))) (l29 : K.lookup f29 = some ⟨oc29, od29, .func (PySem.W.fnOf "_law_queue_right" "_law_queue_right" (defArgs s__law_queue_right) (defBody s__law_queue_right) (defScope s__law_queue_right) .none kV29 dc29 pm29 an29 cd29 ct29), sl29⟩) (c29 : PySem.W.codeIn K cd29 "_law_queue_right" = true) (k29 : PySem.W.keepIn K (.ref f29) = true)
    (a30 : PySem.W.nsIn K mainGlobals "_law_line_right" = some (some (.ref f30))) (l30 : K.lookup f30 = some ⟨oc30, od30, .func (PySem.W.fnOf "_law_line_right" "_law_line_right" (defArgs s__law_line_right) (defBody s__law_line_right) (defScope s__law_line_right) .none kV30 dc30 pm30 an30 cd30 ct30), sl30⟩) (c30 : PySem.W.codeIn K cd30 "_law_line_right" = true) (k30 : PySem.W.keepIn K (.ref f30) = true)
    (a31 : PySem.W.nsIn K mainGlobals "_law_beside_right" = some (some (.ref f31))) (l31 : K.lookup f31 = some ⟨oc31, od31, .func (PySem.W.fnOf "_law_beside_right" "_law_beside_right" (defArgs s__law_beside_right) (defBody s__law_beside_right) (defScope s__law_beside_right) .none kV31 dc31 pm31 an31 cd31 ct31), sl31⟩) (c31 : PySem.W.codeIn K cd31 "_law_beside_right" = true) (k31 : PySem.W.keepIn K (.ref f31) = true)
    (a32 : PySem.W.nsIn K mainGlobals "law" = some (some (.ref f32))) (l32 : K.lookup f32 = some ⟨oc32, od32, .func (PySem.W.fnOf "law" "law" (defArgs s_law) (defBody s_law) (defScope s_law) .none kV32 dc32 pm32 an32 cd32 ct32), sl32⟩) (c32 : PySem.W.codeIn K cd32 "law" = true) (k32 : PySem.W.keepIn K (.ref f32) = true)
    (z0 : PySem.W.nsIn K mainGlobals "len" = some none)
    (z1 : PySem.W.nsIn K mainGlobals "min" = some none)
    (z2 : PySem.W.nsIn K mainGlobals "max" = some none)
    (z3 : PySem.W.nsIn K mainGlobals "sum" = some none)
    (z4 : PySem.W.nsIn K mainGlobals "abs" = some none)
    (z5 : PySem.W.nsIn K mainGlobals "int" = some none)
    (z6 : PySem.W.nsIn K mainGlobals "list" = some none)
    (z7 : PySem.W.nsIn K mainGlobals "tuple" = some none)
    (z8 : PySem.W.nsIn K mainGlobals "range" = some none)
    (z9 : PySem.W.nsIn K mainGlobals "enumerate" = some none)
    (z10 : PySem.W.nsIn K mainGlobals "zip" = some none)
    (z11 : PySem.W.nsIn K mainGlobals "sorted" = some none)
    (z12 : PySem.W.nsIn K mainGlobals "set" = some none)
    (z13 : PySem.W.nsIn K mainGlobals "any" = some none)
    (z14 : PySem.W.nsIn K mainGlobals "all" = some none)
    (z15 : PySem.W.nsIn K mainGlobals "isinstance" = some none)
    (z16 : PySem.W.nsIn K mainGlobals "bool" = some none)
    (z17 : PySem.W.nsIn K mainGlobals "str" = some none)
    (z18 : PySem.W.nsIn K mainGlobals "divmod" = some none)
    (z19 : PySem.W.nsIn K mainGlobals "dict" = some none)
    {t0 : Tok} (m0 : PySem.W.nsIn K mainGlobals "MOST_TICKS" = some (some (.int 400 t0)))
    {t1 : Tok} (m1 : PySem.W.nsIn K mainGlobals "MOST_COMING" = some (some (.int 1000000 t1)))
    {t2 : Tok} (m2 : PySem.W.nsIn K mainGlobals "MOST_STAGES" = some (some (.int 6 t2)))
    (aT : PySem.W.nsIn K mainGlobals "TenantError" = some (some (.ref CT))) {odT : Option Addr} {cdT : ClassData} {slT : Array (Option Value)} (lT : K.lookup CT = some ⟨.type "type", odT, .cls cdT, slT⟩) :
    ∃ fd : FuncData, (∀ (s : Shared) (v : Value), BindsTo s fd ⟨[v], []⟩ [("script", v)]) ∧ ∀ base : Heap, K.In base → base.Ns mainGlobals mg → FnOk l.prog w K mg base CX0 8 fa fd ["script"] (spLaw K) := by
  have e := hfa.symm.trans (PySem.W.mg_of X G a32)
  cases e
  have B : Bt mg := ⟨PySem.W.mg_none_of X G z0, PySem.W.mg_none_of X G z1, PySem.W.mg_none_of X G z2, PySem.W.mg_none_of X G z3, PySem.W.mg_none_of X G z4, PySem.W.mg_none_of X G z5, PySem.W.mg_none_of X G z6, PySem.W.mg_none_of X G z7, PySem.W.mg_none_of X G z8, PySem.W.mg_none_of X G z9, PySem.W.mg_none_of X G z10, PySem.W.mg_none_of X G z11, PySem.W.mg_none_of X G z12, PySem.W.mg_none_of X G z13, PySem.W.mg_none_of X G z14, PySem.W.mg_none_of X G z15, PySem.W.mg_none_of X G z16, PySem.W.mg_none_of X G z17, PySem.W.mg_none_of X G z18, PySem.W.mg_none_of X G z19⟩
  have mT := PySem.W.mg_of X G aT
  have kT := kit_dict lT
  have G0 := fun_mk (st := s__law_begun) l0 c0 k0
  have b0 := G0.binds (ps := ["script"]) fun _ _ _ _ _ _ us hl => match us, hl with | [_], _ => rfl
  have G1 := fun_mk (st := s__law_blend) l1 c1 k1
  have b1 := G1.binds (ps := ["tape"]) fun _ _ _ _ _ _ us hl => match us, hl with | [_], _ => rfl
  have G2 := fun_mk (st := s__law_draw) l2 c2 k2
  have b2 := G2.binds (ps := ["tape", "size"]) fun _ _ _ _ _ _ us hl => match us, hl with | [_, _], _ => rfl
  have G3 := fun_mk (st := s__law_pick) l3 c3 k3
  have b3 := G3.binds (ps := ["tape", "several"]) fun _ _ _ _ _ _ us hl => match us, hl with | [_, _], _ => rfl
  have G4 := fun_mk (st := s__law_shuffled) l4 c4 k4
  have b4 := G4.binds (ps := ["tape", "several"]) fun _ _ _ _ _ _ us hl => match us, hl with | [_, _], _ => rfl
  have G5 := fun_mk (st := s_is_number) l5 c5 k5
  have b5 := G5.binds (ps := ["thing"]) fun _ _ _ _ _ _ us hl => match us, hl with | [_], _ => rfl
  have G6 := fun_mk (st := s_is_between) l6 c6 k6
  have b6 := G6.binds (ps := ["thing", "low", "high"]) fun _ _ _ _ _ _ us hl => match us, hl with | [_, _, _], _ => rfl
  have G7 := fun_mk (st := s_is_list) l7 c7 k7
  have b7 := G7.binds (ps := ["thing"]) fun _ _ _ _ _ _ us hl => match us, hl with | [_], _ => rfl
  have G8 := fun_mk (st := s_need_between) l8 c8 k8
  have b8 := G8.binds (ps := ["thing", "low", "high", "part"]) fun _ _ _ _ _ _ us hl => match us, hl with | [_, _, _, _], _ => rfl
  have G9 := fun_mk (st := s_is_short_list) l9 c9 k9
  have b9 := G9.binds (ps := ["thing", "most"]) fun _ _ _ _ _ _ us hl => match us, hl with | [_, _], _ => rfl
  have G10 := fun_mk (st := s_first_wrong) l10 c10 k10
  have b10 := G10.binds (ps := ["several", "low", "high"]) fun _ _ _ _ _ _ us hl => match us, hl with | [_, _, _], _ => rfl
  have G11 := fun_mk (st := s_rounded_up) l11 c11 k11
  have b11 := G11.binds (ps := ["number", "by"]) fun _ _ _ _ _ _ us hl => match us, hl with | [_, _], _ => rfl
  have G12 := fun_mk (st := s_need_arrivals) l12 c12 k12
  have b12 := G12.binds (ps := ["arrivals"]) fun _ _ _ _ _ _ us hl => match us, hl with | [_], _ => rfl
  have G13 := fun_mk (st := s_need_queue) l13 c13 k13
  have b13 := G13.binds (ps := ["arrivals", "size", "rate"]) fun _ _ _ _ _ _ us hl => match us, hl with | [_, _, _], _ => rfl
  have G14 := fun_mk (st := s_led_queue) l14 c14 k14
  have b14 := G14.binds (ps := ["arrivals", "size", "rate"]) fun _ _ _ _ _ _ us hl => match us, hl with | [_, _, _], _ => rfl
  have G15 := fun_mk (st := s_queued) l15 c15 k15
  have b15 := G15.binds (ps := ["arrivals", "size", "rate"]) fun _ _ _ _ _ _ us hl => match us, hl with | [_, _, _], _ => rfl
  have G16 := fun_mk (st := s_greatest_window) l16 c16 k16
  have b16 := G16.binds (ps := ["arrivals", "size", "rate"]) fun _ _ _ _ _ _ us hl => match us, hl with | [_, _, _], _ => rfl
  have G17 := fun_mk (st := s_backlog) l17 c17 k17
  have b17 := G17.binds (ps := ["arrivals", "size", "rate"]) fun _ _ _ _ _ _ us hl => match us, hl with | [_, _, _], _ => rfl
  have G18 := fun_mk (st := s_is_backlog) l18 c18 k18
  have b18 := G18.binds (ps := ["arrivals", "size", "rate", "thing"]) fun _ _ _ _ _ _ us hl => match us, hl with | [_, _, _, _], _ => rfl
  have G19 := fun_mk (st := s_waits) l19 c19 k19
  have b19 := G19.binds (ps := ["arrivals", "size", "rate"]) fun _ _ _ _ _ _ us hl => match us, hl with | [_, _, _], _ => rfl
  have G20 := fun_mk (st := s_sums_of) l20 c20 k20
  have b20 := G20.binds (ps := ["several"]) fun _ _ _ _ _ _ us hl => match us, hl with | [_], _ => rfl
  have G21 := fun_mk (st := s_keeps_windows) l21 c21 k21
  have b21 := G21.binds (ps := ["sums", "size", "rate"]) fun _ _ _ _ _ _ us hl => match us, hl with | [_, _, _], _ => rfl
  have G22 := fun_mk (st := s_is_outlet) l22 c22 k22
  have b22 := G22.binds (ps := ["arrivals", "size", "rate", "thing"]) fun _ _ _ _ _ _ us hl => match us, hl with | [_, _, _, _], _ => rfl
  have G23 := fun_mk (st := s_bounds) l23 c23 k23
  have b23 := G23.binds (ps := ["arrivals", "size", "rate"]) fun _ _ _ _ _ _ us hl => match us, hl with | [_, _, _], _ => rfl
  have G24 := fun_mk (st := s_stage_right) l24 c24 k24
  have b24 := G24.binds (ps := ["thing"]) fun _ _ _ _ _ _ us hl => match us, hl with | [_], _ => rfl
  have G25 := fun_mk (st := s_in_line) l25 c25 k25
  have b25 := G25.binds (ps := ["arrivals", "stages"]) fun _ _ _ _ _ _ us hl => match us, hl with | [_, _], _ => rfl
  have G26 := fun_mk (st := s__law_queued) l26 c26 k26
  have b26 := G26.binds (ps := ["arrivals", "size", "rate"]) fun _ _ _ _ _ _ us hl => match us, hl with | [_, _, _], _ => rfl
  have G27 := fun_mk (st := s__law_out) l27 c27 k27
  have b27 := G27.binds (ps := ["arrivals", "size", "rate"]) fun _ _ _ _ _ _ us hl => match us, hl with | [_, _, _], _ => rfl
  have G28 := fun_mk (st := s__law_sums) l28 c28 k28
  have b28 := G28.binds (ps := ["numbers"]) fun _ _ _ _ _ _ us hl => match us, hl with | [_], _ => rfl
  have G29 := fun_mk (st := s__law_queue_right) l29 c29 k29
  have b29 := G29.binds (ps := ["tape", "arrivals", "size", "rate"]) fun _ _ _ _ _ _ us hl => match us, hl with | [_, _, _, _], _ => rfl
  have G30 := fun_mk (st := s__law_line_right) l30 c30 k30
  have b30 := G30.binds (ps := ["tape", "arrivals", "stages"]) fun _ _ _ _ _ _ us hl => match us, hl with | [_, _, _], _ => rfl
  have G31 := fun_mk (st := s__law_beside_right) l31 c31 k31
  have b31 := G31.binds (ps := ["tape", "arrivals", "size", "rate"]) fun _ _ _ _ _ _ us hl => match us, hl with | [_, _, _, _], _ => rfl
  have G32 := fun_mk (st := s_law) l32 c32 k32
  refine ⟨PySem.W.fnOf "law" "law" (defArgs s_law) (defBody s_law) (defScope s_law) .none kV32 dc32 pm32 an32 cd32 ct32, fun s v => .of_eq rfl, fun base _ _ => ?_⟩
  have mg_MOST_TICKS : CInt ⟨l.prog, w, K, mg, base⟩ "MOST_TICKS" 400 := ⟨_, PySem.W.mg_of X G m0⟩
  have mg_MOST_COMING : CInt ⟨l.prog, w, K, mg, base⟩ "MOST_COMING" 1000000 := ⟨_, PySem.W.mg_of X G m1⟩
  have mg_MOST_STAGES : CInt ⟨l.prog, w, K, mg, base⟩ "MOST_STAGES" 6 := ⟨_, PySem.W.mg_of X G m2⟩
  have Fb : BegOk ⟨l.prog, w, K, mg, base⟩ 1 := ⟨_, _, ok_begun B G0, PySem.W.mg_of X G a0, G0.kp, b0⟩
  have F__law_blend := p__law_blend (W := ⟨l.prog, w, K, mg, base⟩) B G1 b1 (PySem.W.mg_of X G a1)
  have F__law_draw := p__law_draw (W := ⟨l.prog, w, K, mg, base⟩) B F__law_blend G2 b2 (PySem.W.mg_of X G a2)
  have F__law_pick := p__law_pick (W := ⟨l.prog, w, K, mg, base⟩) B F__law_draw G3 b3 (PySem.W.mg_of X G a3)
  have F__law_shuffled := p__law_shuffled (W := ⟨l.prog, w, K, mg, base⟩) B F__law_draw G4 b4 (PySem.W.mg_of X G a4)
  have F_is_number := p_is_number (W := ⟨l.prog, w, K, mg, base⟩) B G5 b5 (PySem.W.mg_of X G a5)
  have F_is_between := p_is_between (W := ⟨l.prog, w, K, mg, base⟩) B F_is_number G6 b6 (PySem.W.mg_of X G a6)
  have F_is_list := p_is_list (W := ⟨l.prog, w, K, mg, base⟩) B G7 b7 (PySem.W.mg_of X G a7)
  have F_need_between := p_need_between (W := ⟨l.prog, w, K, mg, base⟩) B F_is_between G8 b8 (PySem.W.mg_of X G a8)
  have F_is_short_list := p_is_short_list (W := ⟨l.prog, w, K, mg, base⟩) B F_is_list G9 b9 (PySem.W.mg_of X G a9)
  have F_first_wrong := p_first_wrong (W := ⟨l.prog, w, K, mg, base⟩) B F_is_between G10 b10 (PySem.W.mg_of X G a10)
  have F_rounded_up := p_rounded_up (W := ⟨l.prog, w, K, mg, base⟩) B G11 b11 (PySem.W.mg_of X G a11)
  have F_need_arrivals := p_need_arrivals (W := ⟨l.prog, w, K, mg, base⟩) B mg_MOST_COMING mg_MOST_TICKS F_first_wrong F_is_short_list G12 b12 (PySem.W.mg_of X G a12)
  have F_need_queue := p_need_queue (W := ⟨l.prog, w, K, mg, base⟩) B mg_MOST_COMING F_need_arrivals F_need_between G13 b13 (PySem.W.mg_of X G a13)
  have F_led_queue := p_led_queue (W := ⟨l.prog, w, K, mg, base⟩) B G14 b14 (PySem.W.mg_of X G a14)
  have F_queued := p_queued (W := ⟨l.prog, w, K, mg, base⟩) B F_need_queue F_led_queue G15 b15 (PySem.W.mg_of X G a15)
  have FK_queued := pk_queued (W := ⟨l.prog, w, K, mg, base⟩) B F_need_queue F_led_queue G15 (PySem.W.mg_of X G a15)
  have F_greatest_window := p_greatest_window (W := ⟨l.prog, w, K, mg, base⟩) B G16 b16 (PySem.W.mg_of X G a16)
  have F_backlog := p_backlog (W := ⟨l.prog, w, K, mg, base⟩) B F_need_queue F_greatest_window G17 b17 (PySem.W.mg_of X G a17)
  have F_is_backlog := p_is_backlog (W := ⟨l.prog, w, K, mg, base⟩) B F_need_queue F_is_number F_led_queue F_is_between G18 b18 (PySem.W.mg_of X G a18)
  have F_waits := p_waits (W := ⟨l.prog, w, K, mg, base⟩) B F_need_queue F_led_queue F_rounded_up G19 b19 (PySem.W.mg_of X G a19)
  have F_sums_of := p_sums_of (W := ⟨l.prog, w, K, mg, base⟩) B G20 b20 (PySem.W.mg_of X G a20)
  have F_keeps_windows := p_keeps_windows (W := ⟨l.prog, w, K, mg, base⟩) B G21 b21 (PySem.W.mg_of X G a21)
  have F_is_outlet := p_is_outlet (W := ⟨l.prog, w, K, mg, base⟩) B F_need_queue F_sums_of F_keeps_windows F_is_list F_is_number G22 b22 (PySem.W.mg_of X G a22)
  have F_bounds := p_bounds (W := ⟨l.prog, w, K, mg, base⟩) B F_need_queue F_sums_of F_led_queue G23 b23 (PySem.W.mg_of X G a23)
  have F_stage_right := p_stage_right (W := ⟨l.prog, w, K, mg, base⟩) B mg_MOST_COMING F_is_between G24 b24 (PySem.W.mg_of X G a24)
  have F_in_line := p_in_line (W := ⟨l.prog, w, K, mg, base⟩) B mg_MOST_STAGES F_need_arrivals F_is_list F_stage_right F_led_queue G25 b25 (PySem.W.mg_of X G a25)
  have F__law_queued := p__law_queued (W := ⟨l.prog, w, K, mg, base⟩) B G26 b26 (PySem.W.mg_of X G a26)
  have F__law_out := p__law_out (W := ⟨l.prog, w, K, mg, base⟩) B F__law_queued G27 b27 (PySem.W.mg_of X G a27)
  have F__law_sums := p__law_sums (W := ⟨l.prog, w, K, mg, base⟩) B G28 b28 (PySem.W.mg_of X G a28)
  have F__law_queue_right := p__law_queue_right (W := ⟨l.prog, w, K, mg, base⟩) B F__law_queued F__law_draw F_backlog F_waits F_bounds F_queued F_is_backlog F_is_outlet F__law_sums F__law_out FK_queued G29 b29 (PySem.W.mg_of X G a29)
  have F__law_line_right := p__law_line_right (W := ⟨l.prog, w, K, mg, base⟩) B F__law_shuffled F__law_pick F__law_out F_in_line F__law_draw F_is_outlet G30 b30 (PySem.W.mg_of X G a30)
  have F__law_beside_right := p__law_beside_right (W := ⟨l.prog, w, K, mg, base⟩) B F__law_sums F__law_draw F_backlog F_queued F__law_out G31 b31 (PySem.W.mg_of X G a31)
  exact ok_law B CT mT kT Fb F__law_pick F__law_draw F__law_line_right F_queued F__law_queue_right F__law_beside_right G32
theorem walk {l : PySem.W.OpenLaw} {q : Program} {loose : List Str} {XP : (Str → Option Value) → Heap → Prop} {YP : World → Heap → Prop} {d : DefRec} {K : Params → PySem.W.Frag} (hn : l.most = some 63) (hdf : d.params.defaults = [])
    (hY : ∀ (w : World) (h : Heap), YP w h → (K w.params).In h)
    (F : ∀ (w : World) (mg : Str → Option Value) (fa : Addr) (h : Heap), (K w.params).In h → h.Ns mainGlobals mg → mg d.name = some (.ref fa) →
      ∃ fd : FuncData, (∀ (s : Shared) (u : Value), BindsTo s fd ⟨[u], []⟩ [("script", u)]) ∧ ∀ base : Heap, (K w.params).In base → base.Ns mainGlobals mg → FnOk l.prog w (K w.params) mg base CX0 8 fa fd ["script"] (spLaw (K w.params))) :
    PySem.W.WalkO q loose XP YP l.row.toRowW d [] (fun f vs => PySem.call f vs) :=
  L2.walk_of (n := 63) (k := 8) (x := "script") (CX := fun _ => CX0) (sp := fun w => spLaw (K w.params)) hn (by decide) hdf ⟨rfl, by decide, by decide⟩ hY F (fun _ _ a ns hl _ hS => ⟨a, ns, rfl, hS, hl, fun _ => rfl⟩) fun _ _ _ _ _ z => z
end PD

set_option Elab.async false
set_option linter.all false
set_option maxRecDepth 100000
open PySem PySem.W PyProof.Rows
set_option maxRecDepth 100000 in
set_option maxHeartbeats 0 in
theorem PySem.Challenge.cw_tenantsure_k26_across_queues_one_behind_holds : PySem.Challenge.rw_tenantsure_k26_across_queues_one_behind.Holds := by
  w_on; o_law; k_head; (case hw => w_witness2)
  k_fill
  refine PD.walk (l := PySem.Challenge.rw_tenantsure_k26_across_queues_one_behind) rfl rfl (fun w h Y => PySem.W.kIn_of Y) ?F
  case F =>
    intro w mg fa h KX G hmg
    refine' PD.all_mk KX G hmg ?a0 ?l0 ?c0 ?k0 ?a1 ?l1 ?c1 ?k1 ?a2 ?l2 ?c2 ?k2 ?a3 ?l3 ?c3 ?k3 ?a4 ?l4 ?c4 ?k4 ?a5 ?l5 ?c5 ?k5 ?a6 ?l6 ?c6 ?k6 ?a7 ?l7 ?c7 ?k7 ?a8 ?l8 ?c8 ?k8 ?a9 ?l9 ?c9 ?k9 ?a10 ?l10 ?c10 ?k10 ?a11 ?l11 ?c11 ?k11 ?a12 ?l12 ?c12 ?k12 ?a13 ?l13 ?c13 ?k13 ?a14 ?l14 ?c14 ?k14 ?a15 ?l15 ?c15 ?k15 ?a16 ?l16 ?c16 ?k16 ?a17 ?l17 ?c17 ?k17 ?a18 ?l18 ?c18 ?k18 ?a19 ?l19 ?c19 ?k19 ?a20 ?l20 ?c20 ?k20 ?a21 ?l21 ?c21 ?k21 ?a22 ?l22 ?c22 ?k22 ?a23 ?l23 ?c23 ?k23 ?a24 ?l24 ?c24 ?k24 ?a25 ?l25 ?c25 ?k25 ?a26 ?l26 ?c26 ?k26 ?a27 ?l27 ?c27 ?k27 ?a28 ?l28 ?c28 ?k28 ?a29 ?l29 ?c29 ?k29 ?a30 ?l30 ?c30 ?k30 ?a31 ?l31 ?c31 ?k31 ?a32 ?l32 ?c32 ?k32 ?z0 ?z1 ?z2 ?z3 ?z4 ?z5 ?z6 ?z7 ?z8 ?z9 ?z10 ?z11 ?z12 ?z13 ?z14 ?z15 ?z16 ?z17 ?z18 ?z19 ?m0 ?m1 ?m2 ?aT ?lT
    (case a0 => k_is)
    (case l0 => k_is)
    (case c0 => k_is)
    (case k0 => k_is)
    (case a1 => k_is)
    (case l1 => k_is)
    (case c1 => k_is)
    (case k1 => k_is)
    (case a2 => k_is)
    (case l2 => k_is)
    (case c2 => k_is)
    (case k2 => k_is)
    (case a3 => k_is)
    (case l3 => k_is)
    (case c3 => k_is)
    (case k3 => k_is)
    (case a4 => k_is)
    (case l4 => k_is)
    (case c4 => k_is)
    (case k4 => k_is)
    (case a5 => k_is)
    (case l5 => k_is)
    (case c5 => k_is)
    (case k5 => k_is)
    (case a6 => k_is)
    (case l6 => k_is)
    (case c6 => k_is)
    (case k6 => k_is)
    (case a7 => k_is)
    (case l7 => k_is)
    (case c7 => k_is)
    (case k7 => k_is)
    (case a8 => k_is)
    (case l8 => k_is)
    (case c8 => k_is)
    (case k8 => k_is)
    (case a9 => k_is)
    (case l9 => k_is)
    (case c9 => k_is)
    (case k9 => k_is)
    (case a10 => k_is)
    (case l10 => k_is)
    (case c10 => k_is)
    (case k10 => k_is)
    (case a11 => k_is)
    (case l11 => k_is)
    (case c11 => k_is)
    (case k11 => k_is)
    (case a12 => k_is)
    (case l12 => k_is)
    (case c12 => k_is)
    (case k12 => k_is)
    (case a13 => k_is)
    (case l13 => k_is)
    (case c13 => k_is)
    (case k13 => k_is)
    (case a14 => k_is)
    (case l14 => k_is)
    (case c14 => k_is)
    (case k14 => k_is)
    (case a15 => k_is)
    (case l15 => k_is)
    (case c15 => k_is)
    (case k15 => k_is)
    (case a16 => k_is)
    (case l16 => k_is)
    (case c16 => k_is)
    (case k16 => k_is)
    (case a17 => k_is)
    (case l17 => k_is)
    (case c17 => k_is)
    (case k17 => k_is)
    (case a18 => k_is)
    (case l18 => k_is)
    (case c18 => k_is)
    (case k18 => k_is)
    (case a19 => k_is)
    (case l19 => k_is)
    (case c19 => k_is)
    (case k19 => k_is)
    (case a20 => k_is)
    (case l20 => k_is)
    (case c20 => k_is)
    (case k20 => k_is)
    (case a21 => k_is)
    (case l21 => k_is)
    (case c21 => k_is)
    (case k21 => k_is)
    (case a22 => k_is)
    (case l22 => k_is)
    (case c22 => k_is)
    (case k22 => k_is)
    (case a23 => k_is)
    (case l23 => k_is)
    (case c23 => k_is)
    (case k23 => k_is)
    (case a24 => k_is)
    (case l24 => k_is)
    (case c24 => k_is)
    (case k24 => k_is)
    (case a25 => k_is)
    (case l25 => k_is)
    (case c25 => k_is)
    (case k25 => k_is)
    (case a26 => k_is)
    (case l26 => k_is)
    (case c26 => k_is)
    (case k26 => k_is)
    (case a27 => k_is)
    (case l27 => k_is)
    (case c27 => k_is)
    (case k27 => k_is)
    (case a28 => k_is)
    (case l28 => k_is)
    (case c28 => k_is)
    (case k28 => k_is)
    (case a29 => k_is)
    (case l29 => k_is)
    (case c29 => k_is)
    (case k29 => k_is)
    (case a30 => k_is)
    (case l30 => k_is)
    (case c30 => k_is)
    (case k30 => k_is)
    (case a31 => k_is)
    (case l31 => k_is)
    (case c31 => k_is)
    (case k31 => k_is)
    (case a32 => k_is)
    (case l32 => k_is)
    (case c32 => k_is)
    (case k32 => k_is)
    (case z0 => k_is)
    (case z1 => k_is)
    (case z2 => k_is)
    (case z3 => k_is)
    (case z4 => k_is)
    (case z5 => k_is)
    (case z6 => k_is)
    (case z7 => k_is)
    (case z8 => k_is)
    (case z9 => k_is)
    (case z10 => k_is)
    (case z11 => k_is)
    (case z12 => k_is)
    (case z13 => k_is)
    (case z14 => k_is)
    (case z15 => k_is)
    (case z16 => k_is)
    (case z17 => k_is)
    (case z18 => k_is)
    (case z19 => k_is)
    (case m0 => k_is)
    (case m1 => k_is)
    (case m2 => k_is)
    (case aT => k_is)
    (case lT => k_is)
