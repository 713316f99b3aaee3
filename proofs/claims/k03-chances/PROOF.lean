import PyProof.Rows.All
import Wide.All
import OpenK.AllK
import Wide.FinOn
import HandS.ForMost
import HandS.ForExc
import HandS.TryMany
import HandS.CallSlots
import HandS.Walk
import HandS.Wide
import HandS.Deep
import HandS.TupAny
import HandS.TupMul
import HandS.TupLe
import HandS.IsInst
import HandS.Conv
import HandS.SetFor
import HandS.TupSets
import HandS.Flow
import HandS.EndBits
import PySem.Challenge.RW_joinlines_k03_chances
set_option Elab.async false
set_option maxRecDepth 100000

/-! PP: a verified evaluator over plain data. Part 1: data, what represents it -/
namespace PP
open PySem L2

abbrev D := PyData
/-- the written part of the heap -/
class KF where
  K : PySem.W.Frag
variable [KF]
abbrev AP1 := Addr → Prop
/-- the heap without the owned addresses -/
noncomputable def cut (H : Hp) (O : AP1) : Hp := fun a => open Classical in if O a then none else H a
def ins (O : AP1) (p : Addr) : AP1 := fun a => a = p ∨ O a
theorem cut_some {H : Hp} {O : AP1} {a : Addr} {o : HO} (h : cut H O a = some o) : H a = some o ∧ ¬ O a := by
  unfold cut at h
  by_cases q : O a
  · rw [if_pos q] at h; cases h
  · rw [if_neg q] at h; exact ⟨h, q⟩
theorem cut_of {H : Hp} {O : AP1} {a : Addr} {o : HO} (h : H a = some o) (q : ¬ O a) : cut H O a = some o := by
  unfold cut; rw [if_neg q]; exact h
theorem cut_sub (H : Hp) (O : AP1) : Same (cut H O) H := fun _ _ h => (cut_some h).1
theorem cut_same {H H' : Hp} {O : AP1} (h : Same H H') : Same (cut H O) (cut H' O) := fun a o q => cut_of (h a o (cut_some q).1) (cut_some q).2
theorem cut_anti {H : Hp} {O O' : AP1} (h : ∀ a, O' a → O a) : Same (cut H O) (cut H O') := fun _ _ q => cut_of (cut_some q).1 fun z => (cut_some q).2 (h _ z)
theorem same_new {H : Hp} {p : Addr} (h : H p = none) (o : HO) : Same H (upd H p o) := fun b u q => by rw [upd_ne (ne_of_none q h)]; exact q
/-- a change at an owned place -/
theorem cut_upd {H : Hp} {O : AP1} {p : Addr} {o : HO} (h : O p) : cut (upd H p o) O = cut H O := by
  funext a
  unfold cut
  by_cases q : O a
  · rw [if_pos q, if_pos q]
  · rw [if_neg q, if_neg q, upd_ne (a := p) (b := a) (fun e => q (by rw [e]; exact h))]
theorem cut_upd_new {H : Hp} {O : AP1} {p : Addr} {o : HO} (h : H p = none) : Same (cut H O) (cut (upd H p o) (ins O p)) := fun a u q => by
  have hp : a ≠ p := fun e => by rw [e] at q; rw [(cut_some q).1] at h; cases h
  refine cut_of (by rw [upd_ne hp]; exact (cut_some q).1) fun z => ?_
  rcases z with z | z
  · exact hp z
  · exact (cut_some q).2 z
mutual
/-- v stands for d -/
inductive Rp (H : Hp) : V → D → Prop
  | non : Rp H .non .none
  | bl (b : Bool) : Rp H (.bl b) (.bool b)
  | int (i : Int) : Rp H (.int i) (.int i)
  | str (x : Str) : Rp H (.str x) (.str x)
  | lst {a : Addr} {xs : List V} {ds : List D} : H a = some (.lst xs) → RpAll H xs ds → Rp H (.ref a) (.list ds)
  | tup {a : Addr} {xs : List V} {ds : List D} : H a = some (.tup xs) → RpAll H xs ds → Rp H (.ref a) (.tuple ds)
  | scr {a : Addr} {xs : List V} {ds : List D} : SqL KF.K H a xs → RpAll H xs ds → Rp H (.ref a) (.dict [(.none, .list ds)])
inductive RpAll (H : Hp) : List V → List D → Prop
  | nil : RpAll H [] []
  | cons {v : V} {vs : List V} {d : D} {ds : List D} : Rp H v d → RpAll H vs ds → RpAll H (v :: vs) (d :: ds)
end
mutual
theorem Rp.mono {H H' : Hp} (s : Same H H') : ∀ {v : V} {d : D}, Rp H v d → Rp H' v d
  | _, _, .non => .non
  | _, _, .bl b => .bl b
  | _, _, .int i => .int i
  | _, _, .str x => .str x
  | _, _, .lst h q => .lst (s _ _ h) (RpAll.mono s q)
  | _, _, .tup h q => .tup (s _ _ h) (RpAll.mono s q)
  | _, _, .scr h q => .scr (s.seq h) (RpAll.mono s q)
theorem RpAll.mono {H H' : Hp} (s : Same H H') : ∀ {vs : List V} {ds : List D}, RpAll H vs ds → RpAll H' vs ds
  | _, _, .nil => .nil
  | _, _, .cons h q => .cons (Rp.mono s h) (RpAll.mono s q)
end
theorem RpAll.length {H : Hp} : ∀ {vs : List V} {ds : List D}, RpAll H vs ds → vs.length = ds.length
  | _, _, .nil => rfl
  | _, _, .cons _ q => congrArg (· + 1) q.length
theorem RpAll.get {H : Hp} : ∀ {vs : List V} {ds : List D} {i : Nat} {d : D}, RpAll H vs ds → ds[i]? = some d → ∃ v, vs[i]? = some v ∧ Rp H v d
  | _, _, _, _, .nil, e => by simp at e
  | _, _, 0, _, .cons h _, e => by simp at e; subst e; exact ⟨_, rfl, h⟩
  | _, _, i + 1, _, .cons _ q, e => by
    obtain ⟨v, h1, h2⟩ := RpAll.get (i := i) q (by simpa using e)
    exact ⟨v, by simpa using h1, h2⟩
theorem RpAll.getV {H : Hp} : ∀ {vs : List V} {ds : List D} {i : Nat} {v : V}, RpAll H vs ds → vs[i]? = some v → ∃ d, ds[i]? = some d ∧ Rp H v d
  | _, _, _, _, .nil, e => by simp at e
  | _, _, 0, _, .cons h _, e => by simp at e; subst e; exact ⟨_, rfl, h⟩
  | _, _, i + 1, _, .cons _ q, e => by
    obtain ⟨v, h1, h2⟩ := RpAll.getV (i := i) q (by simpa using e)
    exact ⟨v, by simpa using h1, h2⟩
theorem RpAll.append {H : Hp} : ∀ {vs ws : List V} {ds es : List D}, RpAll H vs ds → RpAll H ws es → RpAll H (vs ++ ws) (ds ++ es)
  | _, _, _, _, .nil, s => s
  | _, _, _, _, .cons h q, s => .cons h (RpAll.append q s)
theorem RpAll.set {H : Hp} {v : V} {d : D} (r : Rp H v d) : ∀ {vs : List V} {ds : List D} (i : Nat), RpAll H vs ds → RpAll H (vs.set i v) (ds.set i d)
  | _, _, _, .nil => .nil
  | _, _, 0, .cons _ t => .cons r t
  | _, _, i + 1, .cons q t => .cons q (RpAll.set r i t)
theorem RpAll.take {H : Hp} : ∀ {vs : List V} {ds : List D} (n : Nat), RpAll H vs ds → RpAll H (vs.take n) (ds.take n)
  | _, _, 0, _ => .nil
  | _, _, _ + 1, .nil => .nil
  | _, _, n + 1, .cons r t => .cons r (RpAll.take n t)
theorem RpAll.drop {H : Hp} : ∀ {vs : List V} {ds : List D} (n : Nat), RpAll H vs ds → RpAll H (vs.drop n) (ds.drop n)
  | _, _, 0, r => r
  | _, _, _ + 1, .nil => .nil
  | _, _, n + 1, .cons _ t => RpAll.drop n t
theorem RpAll.rep {H : Hp} {vs : List V} {ds : List D} (h : RpAll H vs ds) : ∀ k : Nat, RpAll H (List.replicate k vs).flatten (List.replicate k ds).flatten
  | 0 => by simpa using RpAll.nil
  | k + 1 => by
    rw [List.replicate_succ, List.replicate_succ, List.flatten_cons, List.flatten_cons]
    exact h.append (RpAll.rep h k)
theorem RpAll.reverse {H : Hp} {vs : List V} {ds : List D} (h : RpAll H vs ds) : RpAll H vs.reverse ds.reverse := by
  induction h using RpAll.rec (motive_1 := fun _ _ _ => True) with
  | nil => exact .nil
  | cons h q _ ih => rw [List.reverse_cons, List.reverse_cons]; exact ih.append (.cons h .nil)
  | _ => trivial
theorem RpAll.ints {H : Hp} : ∀ (ns : List Int), RpAll H (ns.map V.int) (ns.map PyData.int)
  | [] => .nil
  | n :: r => .cons (.int n) (RpAll.ints r)
theorem RpAll.ints_inv {H : Hp} : ∀ {vs : List V} (ns : List Int), RpAll H vs (ns.map PyData.int) → vs = ns.map V.int
  | _, [], h => by cases h; rfl
  | _, n :: r, h => by
    cases h with
    | cons h q => cases h; rw [RpAll.ints_inv r q]; rfl
mutual
theorem Rp.dp {K : PySem.W.Frag} {H : Hp} : ∀ {v : V} {d : D}, Rp H v d → d.canLay0 = true → Dp K H v d
  | _, _, .non, _ => .non
  | _, _, .bl b, _ => .bl b
  | _, _, .int i, _ => .int i
  | _, _, .str x, _ => .str x
  | _, _, .lst h q, c => .lst (SqL.of h) (RpAll.dp q (by simpa [PyData.canLay0] using c))
  | _, _, .tup h q, c => .tup (SqT.of h) (RpAll.dp q (by simpa [PyData.canLay0] using c))
  | _, _, .scr _ _, c => by simp [PyData.canLay0] at c
theorem RpAll.dp {K : PySem.W.Frag} {H : Hp} : ∀ {vs : List V} {ds : List D}, RpAll H vs ds → PyData.canLayAll0 ds = true → DpAll K H vs ds
  | _, _, .nil, _ => .nil
  | _, _, .cons h q, c => by
    simp only [PyData.canLayAll0, Bool.and_eq_true] at c
    exact .cons (Rp.dp h c.1) (RpAll.dp q c.2)
end

/-- an object that one slot owns -/
inductive OO where
  | lst (ds : List D)
  | dK (kvs : List (Key × D))
  | dT (kvs : List (List Key × D))
inductive ORp (F : Hp) : OO → HO → Prop
  | lst {xs : List V} {ds : List D} : RpAll F xs ds → ORp F (.lst ds) (.lst xs)
  | dK {kvs : List (Key × V)} {ds : List (Key × D)} : Paired (fun (p : Key × V) (q : Key × D) => p.1 = q.1 ∧ Rp F p.2 q.2) kvs ds → ORp F (.dK ds) (.dK kvs)
  | dT {kvs : List (List Key × V)} {ds : List (List Key × D)} : Paired (fun (p : List Key × V) (q : List Key × D) => p.1 = q.1 ∧ Rp F p.2 q.2) kvs ds → ORp F (.dT ds) (.dT kvs)
theorem ORp.mono {F F' : Hp} (s : Same F F') : ∀ {o : OO} {ho : HO}, ORp F o ho → ORp F' o ho
  | _, _, .lst h => .lst (h.mono s)
  | _, _, .dK h => .dK (Paired.mapP h fun _ _ q => ⟨q.1, q.2.mono s⟩)
  | _, _, .dT h => .dT (Paired.mapP h fun _ _ q => ⟨q.1, q.2.mono s⟩)
/-- what an expression gives: shared data, or a new object -/
inductive Rv where
  | sh (d : D)
  | fr (o : OO)
def Post (O : AP1) (H : Hp) (r : Rv) (v : V) (H' : Hp) : Prop := Same H H' ∧ match r with
  | .sh d => Rp (cut H' O) v d
  | .fr o => ∃ p ho, v = .ref p ∧ H p = none ∧ H' p = some ho ∧ ORp (cut H' (ins O p)) o ho
theorem Post.later {O : AP1} {H H1 H2 : Hp} {r : Rv} {v : V} (h : Post O H r v H1) (s : Same H1 H2) : Post O H r v H2 := by
  refine ⟨h.1.trans s, ?_⟩
  cases r with
  | sh d => exact Rp.mono (cut_same s) h.2
  | fr o =>
    obtain ⟨p, ho, e, n, q, r⟩ := h.2
    exact ⟨p, ho, e, n, s _ _ q, r.mono (cut_same s)⟩
/-- borrowed: shared data, or an owned list -/
def RpB (O : AP1) (H : Hp) (v : V) (d : D) : Prop := Rp (cut H O) v d ∨ ∃ l xs ds, v = .ref l ∧ H l = some (.lst xs) ∧ RpAll (cut H O) xs ds ∧ d = .list ds
theorem RpB.later {O : AP1} {H H' : Hp} {v : V} {d : D} (h : RpB O H v d) (s : Same H H') : RpB O H' v d := by
  rcases h with h | ⟨l, xs, ds, e, q, r, z⟩
  · exact .inl (h.mono (cut_same s))
  · exact .inr ⟨l, xs, ds, e, s _ _ q, r.mono (cut_same s), z⟩
theorem RpB.full {O : AP1} {H : Hp} {v : V} {d : D} (h : RpB O H v d) : Rp H v d := by
  rcases h with h | ⟨l, xs, ds, e, q, r, z⟩
  · exact h.mono (cut_sub H O)
  · subst e z; exact .lst q (r.mono (cut_sub H O))
theorem RpB.list {O : AP1} {H : Hp} {v : V} {ds : List D} (h : RpB O H v (.list ds)) : ∃ l xs, v = .ref l ∧ H l = some (.lst xs) ∧ RpAll (cut H O) xs ds := by
  rcases h with h | ⟨l, xs, ds', e, q, r, z⟩
  · cases h with
    | lst h q => exact ⟨_, _, rfl, cut_sub H O _ _ h, q⟩
  · cases z; exact ⟨l, xs, e, q, r⟩
theorem RpB.tup {O : AP1} {H : Hp} {v : V} {ds : List D} (h : RpB O H v (.tuple ds)) : ∃ l xs, v = .ref l ∧ H l = some (.tup xs) ∧ RpAll (cut H O) xs ds := by
  rcases h with h | ⟨l, xs, ds', e, q, r, z⟩
  · cases h with
    | tup h q => exact ⟨_, _, rfl, cut_sub H O _ _ h, q⟩
  · cases z
theorem RpB.scr {O : AP1} {H : Hp} {v : V} {ds : List D} (h : RpB O H v (.dict [(.none, .list ds)])) : ∃ l xs, v = .ref l ∧ SqL KF.K H l xs ∧ RpAll (cut H O) xs ds := by
  rcases h with h | ⟨l, xs, ds', e, q, r, z⟩
  · cases h with
    | scr h q => exact ⟨_, _, rfl, (cut_sub H O).seq h, q⟩
  · cases z
theorem RpB.int {O : AP1} {H : Hp} {v : V} {i : Int} (h : RpB O H v (.int i)) : v = .int i := by have := h.full; cases this; rfl
theorem RpB.str {O : AP1} {H : Hp} {v : V} {i : Str} (h : RpB O H v (.str i)) : v = .str i := by have := h.full; cases this; rfl
theorem RpB.bl {O : AP1} {H : Hp} {v : V} {i : Bool} (h : RpB O H v (.bool i)) : v = .bl i := by have := h.full; cases this; rfl
theorem RpB.non {O : AP1} {H : Hp} {v : V} (h : RpB O H v .none) : v = .non := by have := h.full; cases this; rfl
def OO.toD? : OO → Option D
  | .lst ds => some (.list ds)
  | _ => none
def Rv.toD? : Rv → Option D
  | .sh d => some d
  | .fr o => o.toD?
/-- what comes, borrowed and as shared data -/
theorem Post.rp {O : AP1} {H H' : Hp} {r : Rv} {v : V} {d : D} (hO : ∀ a, O a → ∃ o, H a = some o) (h : Post O H r v H') (e : r.toD? = some d) : Rp (cut H' O) v d := by
  obtain ⟨s, h⟩ := h
  cases r with
  | sh d' => cases e; exact h
  | fr o =>
    cases o with
    | lst ds =>
      cases e
      obtain ⟨p, ho, e, n, q, r⟩ := h
      subst e
      cases r with
      | lst r => exact .lst (cut_of q fun z => by obtain ⟨o, e⟩ := hO p z; rw [n] at e; cases e) (r.mono (cut_anti fun a z => .inr z))
    | dK kvs => cases e
    | dT kvs => cases e
end PP

namespace PP
open PySem L2
variable [KF]

inductive Rs (α : Type) where
  | ok (a : α)
  | exc (c : Str)
  | stuck
def Rs.bind {α β : Type} : Rs α → (α → Rs β) → Rs β
  | .ok a, f => f a
  | .exc c, _ => .exc c
  | .stuck, _ => .stuck
def Rs.ofO {α : Type} : Option α → Rs α
  | some a => .ok a
  | none => .stuck
def scr (ds : List D) : D := .dict [(.none, .list ds)]

/-! ### what an operation on values gives -/
/-- O covers only places that are there -/
def OIn (O : AP1) (H : Hp) : Prop := ∀ a, O a → ∃ o, H a = some o
theorem OIn.no {O : AP1} {H : Hp} (h : OIn O H) {p : Addr} (n : H p = none) : ¬ O p := fun z => by obtain ⟨o, e⟩ := h p z; rw [n] at e; cases e
theorem OIn.later {O : AP1} {H H' : Hp} (h : OIn O H) (s : Same H H') : OIn O H' := fun a z => by obtain ⟨o, e⟩ := h a z; exact ⟨o, s _ _ e⟩
theorem post_sh {O : AP1} {H : Hp} {v : V} {d : D} (h : Rp (cut H O) v d) : Post O H (.sh d) v H := ⟨Same.refl H, h⟩
theorem post_lst {O : AP1} {H : Hp} {p : Addr} {xs : List V} {ds : List D} (n : H p = none) (h : RpAll (cut H O) xs ds) : Post O H (.fr (.lst ds)) (.ref p) (upd H p (.lst xs)) :=
  ⟨same_new n _, p, _, rfl, n, upd_same, .lst (h.mono (cut_upd_new n))⟩
theorem post_tup {O : AP1} {H : Hp} {p : Addr} {xs : List V} {ds : List D} (hO : OIn O H) (n : H p = none) (h : RpAll (cut H O) xs ds) : Post O H (.sh (.tuple ds)) (.ref p) (upd H p (.tup xs)) :=
  ⟨same_new n _, .tup (cut_of upd_same (hO.no n)) (h.mono (cut_same (same_new n _)))⟩
def Wants (O : AP1) (H : Hp) (r : Rs Rv) (Q : VK) : Prop := match r with
  | .ok r => ∀ v H', Post O H r v H' → Q v H'
  | _ => False

/-! ### operators -/
inductive Op2 where
  | add | sub | mul | fdiv | mod | pow
def Op2.op : Op2 → Operator
  | .add => .Add | .sub => .Sub | .mul => .Mult | .fdiv => .FloorDiv | .mod => .Mod | .pow => .Pow
def line : Nat := 16777216
theorem line_eq : line = sizeLine := by decide
def mulOk (i j : Int) : Bool := (decide (-(2 ^ 64) < i) && decide (i < 2 ^ 64)) || (decide (-(2 ^ 64) < j) && decide (j < 2 ^ 64)) || decide (i.natAbs.log2 + j.natAbs.log2 < 1000000)
def divOk (j : Int) : Bool := decide (0 < j) && (decide (j < 1073741824) || decide (j.natAbs.log2 < 9000))
def powOk (i j : Int) : Bool := decide (0 ≤ j) && decide (j ≤ 1000000) && decide (i.natAbs < 2 ^ 64)
def binD : Op2 → D → D → Rs Rv
  | .add, .int i, .int j => .ok (.sh (.int (i + j)))
  | .add, .str x, .str y => if x.length + y.length ≤ line then .ok (.sh (.str (x ++ y))) else .stuck
  | .add, .list xs, .list ys => if xs.length + ys.length ≤ line then .ok (.fr (.lst (xs ++ ys))) else .stuck
  | .add, .tuple xs, .tuple ys => if xs.length + ys.length ≤ line then .ok (.sh (.tuple (xs ++ ys))) else .stuck
  | .sub, .int i, .int j => .ok (.sh (.int (i - j)))
  | .mul, .int i, .int j => if mulOk i j then .ok (.sh (.int (i * j))) else .stuck
  | .mul, .list xs, .int k => if decide (-(2 ^ 63) ≤ k) && decide (k < 2 ^ 63) && decide (xs.length * k.toNat ≤ line) then .ok (.fr (.lst (List.replicate k.toNat xs).flatten)) else .stuck
  | .fdiv, .int i, .int j => if divOk j then .ok (.sh (.int (i / j))) else .stuck
  | .mod, .int i, .int j => if 0 < j then .ok (.sh (.int (i % j))) else .stuck
  | .pow, .int i, .int j => if powOk i j then .ok (.sh (.int (i ^ j.toNat))) else .stuck
  | _, _, _ => .stuck
section
variable {X : Cx} {O : AP1} {H : Hp} {x y : V} {d e : D} {Q : VK}
def rBin (o : Op2) : R2 := fun x y H Q => ∃ O d e, OIn O H ∧ RpB O H x d ∧ RpB O H y e ∧ Wants O H (binD o d e) Q
theorem wants_sh {r : Rs Rv} {d : D} {v : V} (w : Wants O H r Q) (e : r = .ok (.sh d)) (h : Rp (cut H O) v d) : Q v H := by
  subst e; exact w v H (post_sh h)
theorem wants_lst {r : Rs Rv} {ds : List D} {xs : List V} {p : Addr} (w : Wants O H r Q) (e : r = .ok (.fr (.lst ds))) (n : H p = none) (h : RpAll (cut H O) xs ds) : Q (.ref p) (upd H p (.lst xs)) := by
  subst e; exact w _ _ (post_lst n h)
theorem wants_tup {r : Rs Rv} {ds : List D} {xs : List V} {p : Addr} (hO : OIn O H) (w : Wants O H r Q) (e : r = .ok (.sh (.tuple ds))) (n : H p = none) (h : RpAll (cut H O) xs ds) : Q (.ref p) (upd H p (.tup xs)) := by
  subst e; exact w _ _ (post_tup hO n h)
theorem wants_if {c : Prop} [Decidable c] {r : Rs Rv} (w : Wants O H (if c then r else .stuck) Q) : c ∧ Wants O H r Q := by
  by_cases h : c
  · rw [if_pos h] at w; exact ⟨h, w⟩
  · rw [if_neg h] at w; exact w.elim
theorem op_bin : ∀ o : Op2, OpR X (binaryOp o.op) (rBin o) := by
  intro o pins s σ H x y v u Q I rx ry h
  obtain ⟨O, d, e, hO, hd, he, w⟩ := h
  have no : ∀ {r : Rs Rv}, r = .stuck → ¬ Wants O H r Q := fun e w => by subst e; exact w
  cases o with
  | add =>
    cases d with
    | int i => cases e with
      | int j => cases hd.int; cases he.int; exact op_add pins s σ H _ _ v u Q I rx ry ⟨i, j, rfl, rfl, wants_sh w rfl (.int _)⟩
      | _ => exact (no rfl w).elim
    | str i => cases e with
      | str j =>
        cases hd.str; cases he.str
        obtain ⟨hl, w⟩ := wants_if w
        exact op_add_str pins s σ H _ _ v u Q I rx ry ⟨i, j, rfl, rfl, by rw [← line_eq]; exact hl, wants_sh w rfl (.str _)⟩
      | _ => exact (no rfl w).elim
    | list xs => cases e with
      | list ys =>
        obtain ⟨l, vs, rfl, h1, r1⟩ := hd.list
        obtain ⟨b, ws, rfl, h2, r2⟩ := he.list
        obtain ⟨hl, w⟩ := wants_if w
        exact op_cat pins s σ H _ _ v u Q I rx ry ⟨l, b, vs, ws, rfl, rfl, h1, h2, by rw [← line_eq, r1.length, r2.length]; exact hl, fun p n => wants_lst w rfl n (r1.append r2)⟩
      | _ => exact (no rfl w).elim
    | tuple xs => cases e with
      | tuple ys =>
        obtain ⟨l, vs, rfl, h1, r1⟩ := hd.tup
        obtain ⟨b, ws, rfl, h2, r2⟩ := he.tup
        obtain ⟨hl, w⟩ := wants_if w
        have sd : ∀ {l : Addr} {ds : List D}, RpB O H (.ref l) (.tuple ds) → Rp (cut H O) (.ref l) (.tuple ds) := fun q => by
          rcases q with q | ⟨_, _, _, _, _, _, z⟩
          · exact q
          · cases z
        refine op_catA pins s σ H _ _ v u Q I rx ry ⟨l, b, vs, ws, rfl, rfl, SqT.of h1, SqT.of h2, by rw [← line_eq, r1.length, r2.length]; exact hl, fun z => ?_, fun _ z => ?_, fun _ _ p n => wants_tup hO w rfl n (r1.append r2)⟩
        · subst z
          cases r1
          exact wants_sh w rfl (sd he)
        · subst z
          cases r2
          refine wants_sh w rfl ?_
          rw [List.append_nil]
          exact sd hd
      | _ => exact (no rfl w).elim
    | _ => exact (no rfl w).elim
  | sub =>
    cases d with
    | int i => cases e with
      | int j => cases hd.int; cases he.int; exact op_sub pins s σ H _ _ v u Q I rx ry ⟨i, j, rfl, rfl, wants_sh w rfl (.int _)⟩
      | _ => exact (no rfl w).elim
    | _ => exact (no rfl w).elim
  | mul =>
    cases d with
    | int i => cases e with
      | int j =>
        cases hd.int; cases he.int
        obtain ⟨hl, w⟩ := wants_if w
        have q : Q (.int (i * j)) H := wants_sh w rfl (.int _)
        unfold mulOk at hl
        simp only [Bool.or_eq_true, Bool.and_eq_true, decide_eq_true_eq] at hl
        rcases hl with (hl | hl) | hl
        · exact op_mul pins s σ H _ _ v u Q I rx ry ⟨i, j, rfl, rfl, .inl hl, q⟩
        · exact op_mul pins s σ H _ _ v u Q I rx ry ⟨i, j, rfl, rfl, .inr hl, q⟩
        · exact op_mulW pins s σ H _ _ v u Q I rx ry ⟨i, j, rfl, rfl, hl, q⟩
      | _ => exact (no rfl w).elim
    | list xs => cases e with
      | int k =>
        cases he.int
        obtain ⟨l, vs, rfl, h1, r1⟩ := hd.list
        obtain ⟨hl, w⟩ := wants_if w
        simp only [Bool.and_eq_true, decide_eq_true_eq] at hl
        exact op_rep pins s σ H _ _ v u Q I rx ry ⟨l, k, vs, rfl, rfl, h1, hl.1.1, hl.1.2, by rw [← line_eq, r1.length]; exact hl.2, fun p n => wants_lst w rfl n (r1.rep _)⟩
      | _ => exact (no rfl w).elim
    | _ => exact (no rfl w).elim
  | fdiv =>
    cases d with
    | int i => cases e with
      | int j =>
        cases hd.int; cases he.int
        obtain ⟨hl, w⟩ := wants_if w
        have q : Q (.int (i / j)) H := wants_sh w rfl (.int _)
        unfold divOk at hl
        simp only [Bool.or_eq_true, Bool.and_eq_true, decide_eq_true_eq] at hl
        obtain ⟨h0, hl | hl⟩ := hl
        · exact op_fdiv pins s σ H _ _ v u Q I rx ry ⟨i, j, rfl, rfl, ⟨h0, hl⟩, q⟩
        · exact op_fdivW pins s σ H _ _ v u Q I rx ry ⟨i, j, rfl, rfl, ⟨h0, hl⟩, q⟩
      | _ => exact (no rfl w).elim
    | _ => exact (no rfl w).elim
  | mod =>
    cases d with
    | int i => cases e with
      | int j =>
        cases hd.int; cases he.int
        obtain ⟨hl, w⟩ := wants_if w
        exact op_mod pins s σ H _ _ v u Q I rx ry ⟨i, j, rfl, rfl, hl, wants_sh w rfl (.int _)⟩
      | _ => exact (no rfl w).elim
    | _ => exact (no rfl w).elim
  | pow =>
    cases d with
    | int i => cases e with
      | int j =>
        cases hd.int; cases he.int
        obtain ⟨hl, w⟩ := wants_if w
        unfold powOk at hl
        simp only [Bool.and_eq_true, decide_eq_true_eq] at hl
        exact op_pow pins s σ H _ _ v u Q I rx ry ⟨i, j, rfl, rfl, ⟨hl.1.1, hl.1.2, hl.2⟩, wants_sh w rfl (.int _)⟩
      | _ => exact (no rfl w).elim
    | _ => exact (no rfl w).elim
end
end PP

namespace PP
open PySem L2
variable [KF]

/-! ### comparisons -/
def flatD : D → Bool
  | .none | .bool _ | .int _ | .str _ => true
  | _ => false
def intsOf : List D → Option (List Int)
  | [] => some []
  | .int i :: r => (intsOf r).map (i :: ·)
  | _ :: _ => none
theorem intsOf_eq : ∀ {ds : List D} {ns : List Int}, intsOf ds = some ns → ds = ns.map PyData.int
  | [], ns, h => by cases h; rfl
  | .int i :: r, ns, h => by
    simp only [intsOf, Option.map_eq_some_iff] at h
    obtain ⟨m, h1, h2⟩ := h
    rw [← h2, intsOf_eq h1]; rfl
  | .none :: _, _, h => by cases h
  | .bool _ :: _, _, h => by cases h
  | .str _ :: _, _, h => by cases h
  | .list _ :: _, _, h => by cases h
  | .tuple _ :: _, _, h => by cases h
  | .dict _ :: _, _, h => by cases h
def strLt (x y : Str) : Bool := decide (x.cps.toList < y.cps.toList)
def eqD (d e : D) : Rs Bool := match d, e with
  | .int i, .int j => .ok (i == j)
  | .str x, .str y => .ok (x == y)
  | .bool x, .bool y => .ok (x == y)
  | .none, .none => .ok true
  | .none, .int _ | .int _, .none | .none, .bool _ | .bool _, .none | .none, .str _ | .str _, .none | .int _, .str _ | .str _, .int _ | .bool _, .str _ | .str _, .bool _ => .ok false
  | d, e => if SeqAt.shaped d && SeqAt.shaped e then .ok (PyData.eqv d e) else .stuck
def inD (d e : D) : Rs Bool := match e with
  | .list ds => if flatD d && ds.all flatD then .ok (ds.any fun z => PyData.eqv z d) else if SeqAt.shaped d && SeqAt.shaped (.list ds) then .ok (ds.any fun z => PyData.eqv z d) else .stuck
  | .tuple ds => if flatD d && ds.all flatD then .ok (ds.any fun z => PyData.eqv z d) else .stuck
  | .str z => match d with
    | .str x => .ok (!(Builtin.Str.occurrences z x 0 z.length 1).isEmpty)
    | _ => .stuck
  | _ => .stuck
def isD (d e : D) : Rs Bool := match e with
  | .none => .ok (match d with | .none => true | _ => false)
  | .bool b => match d with
    | .bool a => .ok (a == b)
    | _ => .stuck
  | _ => .stuck
def notR : Rs Bool → Rs Bool
  | .ok b => .ok (!b)
  | .exc c => .exc c
  | .stuck => .stuck
def cmpD (o : CmpOp) (d e : D) : Rs Bool := match o with
  | .Eq => eqD d e
  | .NotEq => notR (eqD d e)
  | .Lt => match d, e with
    | .int i, .int j => .ok (decide (i < j))
    | .str x, .str y => .ok (strLt x y)
    | .tuple xs, .tuple ys => match intsOf xs, intsOf ys with
      | some ns, some ms => .ok (HT.lexLt ns ms)
      | _, _ => .stuck
    | _, _ => .stuck
  | .LtE => match d, e with
    | .int i, .int j => .ok (decide (i ≤ j))
    | _, _ => .stuck
  | .Gt => match d, e with
    | .int i, .int j => .ok (decide (j < i))
    | _, _ => .stuck
  | .GtE => match d, e with
    | .int i, .int j => .ok (decide (j ≤ i))
    | _, _ => .stuck
  | .In => inD d e
  | .NotIn => notR (inD d e)
  | .Is => isD d e
  | .IsNot => notR (isD d e)
def WantsB (H : Hp) (r : Rs Bool) (Q : VK) : Prop := match r with
  | .ok b => Q (.bl b) H
  | _ => False
def rCmp (o : CmpOp) : R2 := fun x y H Q => ∃ O d e, RpB O H x d ∧ RpB O H y e ∧ WantsB H (cmpD o d e) Q
section
variable {X : Cx}
theorem flat_rp {H : Hp} {v : V} {d : D} (h : Rp H v d) (f : flatD d = true) : flatV v = true := by
  cases h <;> first | rfl | cases f
theorem eqV_eqv {H : Hp} {v w : V} {d e : D} (h : Rp H v d) (g : Rp H w e) (f : flatD d = true) (f' : flatD e = true) : eqV v w = PyData.eqv d e := by
  cases h <;> cases g <;> first
    | exact absurd f Bool.false_ne_true
    | exact absurd f' Bool.false_ne_true
    | rfl
    | (simp only [eqV, PyData.eqv]; done)
theorem any_eqv {H : Hp} {w : V} {e : D} (g : Rp H w e) (f' : flatD e = true) : ∀ {vs : List V} {ds : List D}, RpAll H vs ds → ds.all flatD = true → inV w vs = ds.any fun z => PyData.eqv z e
  | _, _, .nil, _ => rfl
  | _, _, .cons h q, f => by
    simp only [List.all_cons, Bool.and_eq_true] at f
    have ih := any_eqv g f' q f.2
    unfold inV at ih ⊢
    rw [List.any_cons, List.any_cons, ih, eqV_eqv h g f.1 f']
theorem all_flat {H : Hp} : ∀ {vs : List V} {ds : List D}, RpAll H vs ds → ds.all flatD = true → vs.all flatV = true
  | _, _, .nil, _ => rfl
  | _, _, .cons h q, f => by
    simp only [List.all_cons, Bool.and_eq_true] at f ⊢
    exact ⟨flat_rp h f.1, all_flat q f.2⟩
theorem op_eqG (hu : X.A.units + 64 < cLine) : OpR X (compareOp .Eq) (rCmp .Eq) := by
  intro pins s σ H x y v u Q I rx ry h
  obtain ⟨O, d, e, hd, he, w⟩ := h
  have hd' := hd.full
  have he' := he.full
  have w : WantsB H (eqD d e) Q := w
  have deep : (if (SeqAt.shaped d && SeqAt.shaped e) = true then Rs.ok (PyData.eqv d e) else .stuck) = eqD d e → wpAny (model X.prog X.w) X.A (compareOp .Eq v u) (EP X pins σ Q) X.xe s := fun q => by
    rw [← q] at w
    by_cases c : (SeqAt.shaped d && SeqAt.shaped e) = true
    · rw [if_pos c] at w
      rw [Bool.and_eq_true] at c
      exact op_eqD hu pins s σ H x y v u Q I rx ry ⟨d, e, hd'.dp (SeqAt.canLay_of_shaped c.1), he'.dp (SeqAt.canLay_of_shaped c.2), c.1, c.2, w⟩
    · rw [if_neg c] at w; exact w.elim
  have sc : ∀ {b : Bool}, eqD d e = .ok b → scal x y = true → b = decide (x = y) → wpAny (model X.prog X.w) X.A (compareOp .Eq v u) (EP X pins σ Q) X.xe s := fun q1 q2 q3 => by
    rw [q1] at w
    have w : Q (.bl _) H := w
    rw [q3] at w
    exact op_eq pins s σ H x y v u Q I rx ry ⟨q2, w⟩
  cases hd' <;> cases he' <;> first
    | exact deep rfl
    | exact sc rfl rfl dec_int.symm
    | exact sc rfl rfl dec_str.symm
    | exact sc rfl rfl dec_bl.symm
    | exact sc rfl rfl (by simp)
theorem op_neG (hu : X.A.units + 64 < cLine) : OpR X (compareOp .NotEq) (rCmp .NotEq) := by
  intro pins s σ H x y v u Q I rx ry h
  obtain ⟨O, d, e, hd, he, w⟩ := h
  have hd' := hd.full
  have he' := he.full
  have w : WantsB H (notR (eqD d e)) Q := w
  have deep : (if (SeqAt.shaped d && SeqAt.shaped e) = true then Rs.ok (PyData.eqv d e) else .stuck) = eqD d e → wpAny (model X.prog X.w) X.A (compareOp .NotEq v u) (EP X pins σ Q) X.xe s := fun q => by
    rw [← q] at w
    by_cases c : (SeqAt.shaped d && SeqAt.shaped e) = true
    · rw [if_pos c] at w
      rw [Bool.and_eq_true] at c
      exact op_neD hu pins s σ H x y v u Q I rx ry ⟨d, e, hd'.dp (SeqAt.canLay_of_shaped c.1), he'.dp (SeqAt.canLay_of_shaped c.2), c.1, c.2, w⟩
    · rw [if_neg c] at w; exact w.elim
  have sc : ∀ {b : Bool}, eqD d e = .ok b → scal x y = true → b = decide (x = y) → wpAny (model X.prog X.w) X.A (compareOp .NotEq v u) (EP X pins σ Q) X.xe s := fun q1 q2 q3 => by
    rw [q1] at w
    have w : Q (.bl (!_)) H := w
    rw [q3] at w
    exact op_ne pins s σ H x y v u Q I rx ry ⟨q2, w⟩
  cases hd' <;> cases he' <;> first
    | exact deep rfl
    | exact sc rfl rfl dec_int.symm
    | exact sc rfl rfl dec_str.symm
    | exact sc rfl rfl dec_bl.symm
    | exact sc rfl rfl (by simp)
theorem op_inG (hu : X.A.units + 65 < cLine) : OpR X (compareOp .In) (rCmp .In) := by
  intro pins s σ H x y v u Q I rx ry h
  obtain ⟨O, d, e, hd, he, w⟩ := h
  have w : WantsB H (inD d e) Q := w
  cases e with
  | list ds =>
    obtain ⟨l, xs, rfl, h1, r1⟩ := he.list
    unfold inD at w
    by_cases c : (flatD d && ds.all flatD) = true
    · simp only [if_pos c] at w
      rw [Bool.and_eq_true] at c
      have r2 := r1.mono (cut_sub H O)
      refine op_in_seq pins s σ H _ _ v u Q I rx ry ⟨l, xs, rfl, .inl (SqL.of h1), flat_rp hd.full c.1, all_flat r2 c.2, ?_⟩
      rw [if_neg Bool.false_ne_true, any_eqv hd.full c.1 r2 c.2]; exact w
    · simp only [if_neg c] at w
      by_cases c2 : (SeqAt.shaped d && SeqAt.shaped (.list ds)) = true
      · rw [if_pos c2] at w
        rw [Bool.and_eq_true] at c2
        exact op_inD hu pins s σ H _ _ v u Q I rx ry ⟨d, ds, hd.full.dp (SeqAt.canLay_of_shaped c2.1), he.full.dp (SeqAt.canLay_of_shaped c2.2), c2.1, c2.2, w⟩
      · rw [if_neg c2] at w; exact w.elim
  | tuple ds =>
    obtain ⟨l, xs, rfl, h1, r1⟩ := he.tup
    unfold inD at w
    by_cases c : (flatD d && ds.all flatD) = true
    · simp only [if_pos c] at w
      rw [Bool.and_eq_true] at c
      have r2 := r1.mono (cut_sub H O)
      refine op_in_seq pins s σ H _ _ v u Q I rx ry ⟨l, xs, rfl, .inr (SqT.of h1), flat_rp hd.full c.1, all_flat r2 c.2, ?_⟩
      rw [if_neg Bool.false_ne_true, any_eqv hd.full c.1 r2 c.2]; exact w
    · simp only [if_neg c] at w; exact w.elim
  | str z =>
    cases he.str
    cases d with
    | str a => cases hd.str; exact op_in_str pins s σ H _ _ v u Q I rx ry ⟨a, z, rfl, rfl, w⟩
    | _ => exact w.elim
  | _ => exact w.elim
theorem op_notInG (hu : X.A.units + 65 < cLine) : OpR X (compareOp .NotIn) (rCmp .NotIn) := by
  intro pins s σ H x y v u Q I rx ry h
  obtain ⟨O, d, e, hd, he, w⟩ := h
  have w : WantsB H (notR (inD d e)) Q := w
  cases e with
  | list ds =>
    obtain ⟨l, xs, rfl, h1, r1⟩ := he.list
    unfold inD at w
    by_cases c : (flatD d && ds.all flatD) = true
    · simp only [if_pos c] at w
      rw [Bool.and_eq_true] at c
      have r2 := r1.mono (cut_sub H O)
      refine op_notIn_seq pins s σ H _ _ v u Q I rx ry ⟨l, xs, rfl, .inl (SqL.of h1), flat_rp hd.full c.1, all_flat r2 c.2, ?_⟩
      rw [if_pos rfl, any_eqv hd.full c.1 r2 c.2]; exact w
    · simp only [if_neg c] at w
      by_cases c2 : (SeqAt.shaped d && SeqAt.shaped (.list ds)) = true
      · rw [if_pos c2] at w
        rw [Bool.and_eq_true] at c2
        exact op_notInD hu pins s σ H _ _ v u Q I rx ry ⟨d, ds, hd.full.dp (SeqAt.canLay_of_shaped c2.1), he.full.dp (SeqAt.canLay_of_shaped c2.2), c2.1, c2.2, w⟩
      · rw [if_neg c2] at w; exact w.elim
  | tuple ds =>
    obtain ⟨l, xs, rfl, h1, r1⟩ := he.tup
    unfold inD at w
    by_cases c : (flatD d && ds.all flatD) = true
    · simp only [if_pos c] at w
      rw [Bool.and_eq_true] at c
      have r2 := r1.mono (cut_sub H O)
      refine op_notIn_seq pins s σ H _ _ v u Q I rx ry ⟨l, xs, rfl, .inr (SqT.of h1), flat_rp hd.full c.1, all_flat r2 c.2, ?_⟩
      rw [if_pos rfl, any_eqv hd.full c.1 r2 c.2]; exact w
    · simp only [if_neg c] at w; exact w.elim
  | str z =>
    cases he.str
    cases d with
    | str a => cases hd.str; exact op_notIn_str pins s σ H _ _ v u Q I rx ry ⟨a, z, rfl, rfl, w⟩
    | _ => exact w.elim
  | _ => exact w.elim
theorem op_isG : OpR X (compareOp .Is) (rCmp .Is) := by
  intro pins s σ H x y v u Q I rx ry h
  obtain ⟨O, d, e, hd, he, w⟩ := h
  have w : WantsB H (isD d e) Q := w
  cases e with
  | none =>
    cases he.non
    refine op_isN pins s σ H _ _ v u Q I rx ry ⟨rfl, ?_⟩
    have := hd.full
    cases this <;> exact w
  | bool b =>
    cases he.bl
    cases d with
    | bool a =>
      cases hd.bl
      refine op_is_bl pins s σ H _ _ v u Q I rx ry ⟨a, b, rfl, rfl, ?_⟩
      rw [← Bool.beq_eq_decide_eq]; exact w
    | _ => exact w.elim
  | _ => exact w.elim
theorem op_isNotG : OpR X (compareOp .IsNot) (rCmp .IsNot) := by
  intro pins s σ H x y v u Q I rx ry h
  obtain ⟨O, d, e, hd, he, w⟩ := h
  have w : WantsB H (notR (isD d e)) Q := w
  cases e with
  | none =>
    cases he.non
    refine op_notN pins s σ H _ _ v u Q I rx ry ⟨rfl, ?_⟩
    have := hd.full
    cases this <;> exact w
  | bool b =>
    cases he.bl
    cases d with
    | bool a =>
      cases hd.bl
      refine op_isnot_bl pins s σ H _ _ v u Q I rx ry ⟨a, b, rfl, rfl, ?_⟩
      rw [← Bool.beq_eq_decide_eq]; exact w
    | _ => exact w.elim
  | _ => exact w.elim
theorem op_ltG (hu : X.A.units < cLine) : OpR X (compareOp .Lt) (rCmp .Lt) := by
  intro pins s σ H x y v u Q I rx ry h
  obtain ⟨O, d, e, hd, he, w⟩ := h
  cases d with
  | int i => cases e with
    | int j => cases hd.int; cases he.int; exact op_lt pins s σ H _ _ v u Q I rx ry ⟨i, j, rfl, rfl, w⟩
    | _ => exact w.elim
  | str i => cases e with
    | str j => cases hd.str; cases he.str; exact op_lt_str pins s σ H _ _ v u Q I rx ry ⟨i, j, rfl, rfl, w⟩
    | _ => exact w.elim
  | tuple xs => cases e with
    | tuple ys =>
      obtain ⟨l, vs, rfl, h1, r1⟩ := hd.tup
      obtain ⟨b, ws, rfl, h2, r2⟩ := he.tup
      simp only [cmpD] at w
      cases e1 : intsOf xs with
      | none => rw [e1] at w; exact w.elim
      | some ns => cases e2 : intsOf ys with
        | none => rw [e1, e2] at w; exact w.elim
        | some ms =>
          rw [e1, e2] at w
          rw [intsOf_eq e1] at r1
          rw [intsOf_eq e2] at r2
          rw [RpAll.ints_inv ns r1] at h1
          rw [RpAll.ints_inv ms r2] at h2
          exact op_ltT hu pins s σ H _ _ v u Q I rx ry ⟨l, b, ns, ms, rfl, rfl, SqT.of h1, SqT.of h2, w⟩
    | _ => exact w.elim
  | _ => exact w.elim
theorem op_cmp (hu : X.A.units + 65 < cLine) : ∀ o : CmpOp, OpR X (compareOp o) (rCmp o)
  | .Eq => op_eqG (by omega)
  | .NotEq => op_neG (by omega)
  | .In => op_inG hu
  | .NotIn => op_notInG hu
  | .Is => op_isG
  | .IsNot => op_isNotG
  | .Lt => op_ltG (by omega)
  | .LtE => by
    intro pins s σ H x y v u Q I rx ry h
    obtain ⟨O, d, e, hd, he, w⟩ := h
    cases d with
    | int i => cases e with
      | int j => cases hd.int; cases he.int; exact op_le pins s σ H _ _ v u Q I rx ry ⟨i, j, rfl, rfl, w⟩
      | _ => exact w.elim
    | _ => exact w.elim
  | .Gt => by
    intro pins s σ H x y v u Q I rx ry h
    obtain ⟨O, d, e, hd, he, w⟩ := h
    cases d with
    | int i => cases e with
      | int j => cases hd.int; cases he.int; exact op_gt pins s σ H _ _ v u Q I rx ry ⟨i, j, rfl, rfl, w⟩
      | _ => exact w.elim
    | _ => exact w.elim
  | .GtE => by
    intro pins s σ H x y v u Q I rx ry h
    obtain ⟨O, d, e, hd, he, w⟩ := h
    cases d with
    | int i => cases e with
      | int j => cases hd.int; cases he.int; exact op_ge pins s σ H _ _ v u Q I rx ry ⟨i, j, rfl, rfl, w⟩
      | _ => exact w.elim
    | _ => exact w.elim
end

/-! ### truth, items, slices -/
def truD : D → Rs Bool
  | .none => .ok false
  | .bool b => .ok b
  | .int i => .ok (i != 0)
  | .str y => if y.length ≤ line then .ok ((y.length : Int) != 0) else .stuck
  | .list ds => .ok (!ds.isEmpty)
  | .tuple ds => .ok (!ds.isEmpty)
  | .dict _ => .stuck
theorem rpAll_empty {H : Hp} {vs : List V} {ds : List D} (h : RpAll H vs ds) : vs.isEmpty = ds.isEmpty := by cases h <;> rfl
theorem tru_of {K : PySem.W.Frag} {H : Hp} {v : V} {d : D} {b : Bool} (h : Rp H v d) (e : truD d = .ok b) : TruV K v H b := by
  cases h with
  | non => cases e; rfl
  | bl b => cases e; rfl
  | int i => cases e; rfl
  | str x =>
    unfold truD at e
    by_cases c : x.length ≤ line
    · simp only [if_pos c] at e
      cases e
      exact ⟨by rw [← line_eq]; exact c, rfl⟩
    · simp only [if_neg c] at e; cases e
  | lst h q => cases e; exact .inl ⟨_, SqL.of h, by rw [rpAll_empty q]⟩
  | tup h q => cases e; exact .inr (.inl ⟨_, SqT.of h, by rw [rpAll_empty q]⟩)
  | scr h q => cases e
def ixD (d i : D) : Rs Rv := match d, i with
  | .list ds, .int k => (Rs.ofO (atI ds k)).bind fun d => .ok (.sh d)
  | .tuple ds, .int k => (Rs.ofO (atI ds k)).bind fun d => .ok (.sh d)
  | .dict [(.none, .list ds)], .int k => (Rs.ofO (atI ds k)).bind fun d => .ok (.sh d)
  | .str z, .int k => if z.length ≤ line then (Rs.ofO (atI z.cps.toList k)).bind fun c => .ok (.sh (.str ⟨#[c]⟩)) else .stuck
  | _, _ => .stuck
theorem rpAll_atI {H : Hp} {vs : List V} {ds : List D} {k : Int} {d : D} (h : RpAll H vs ds) (e : atI ds k = some d) : ∃ v, atI vs k = some v ∧ Rp H v d := by
  unfold atI at e ⊢
  rw [h.length]
  cases q : ixN ds.length k with
  | none => rw [q] at e; cases e
  | some j =>
    rw [q] at e
    obtain ⟨v, h1, h2⟩ := h.get e
    exact ⟨v, h1, h2⟩
def rIxG : R2 := fun x y H Q => ∃ O d e, RpB O H x d ∧ RpB O H y e ∧ Wants O H (ixD d e) Q
theorem ix_G {X : Cx} (hK : X.K = KF.K) : IxR X rIxG := by
  intro ve se pins s σ H x y v u Q I rx ry h hs
  obtain ⟨O, d, e, hd, he, w⟩ := h
  have go : ∀ {ds : List D} {k : Int} {xs : List V}, RpAll (cut H O) xs ds → Wants O H ((Rs.ofO (atI ds k)).bind fun d => .ok (.sh d)) Q → ∃ v, atI xs k = some v ∧ Q v H := fun {ds k xs} r w => by
    cases q : atI ds k with
    | none => rw [q] at w; exact w.elim
    | some z =>
      rw [q] at w
      obtain ⟨v, h1, h2⟩ := rpAll_atI r q
      exact ⟨v, h1, wants_sh w rfl h2⟩
  cases e with
  | int k =>
    cases he.int
    cases d with
    | list ds =>
      obtain ⟨l, xs, rfl, h1, r1⟩ := hd.list
      obtain ⟨v', e1, q⟩ := go r1 w
      exact ix_list ve se pins s σ H _ _ v u Q I rx ry ⟨l, xs, k, v', rfl, rfl, SqL.of h1, e1, q⟩ hs
    | tuple ds =>
      obtain ⟨l, xs, rfl, h1, r1⟩ := hd.tup
      obtain ⟨v', e1, q⟩ := go r1 w
      exact ix_tup ve se pins s σ H _ _ v u Q I rx ry ⟨l, xs, k, v', rfl, rfl, SqT.of h1, e1, q⟩ hs
    | str z =>
      cases hd.str
      unfold ixD at w
      obtain ⟨c, w⟩ := wants_if w
      cases q : atI z.cps.toList k with
      | none => rw [q] at w; exact w.elim
      | some c' =>
        rw [q] at w
        exact ix_str ve se pins s σ H _ _ v u Q I rx ry ⟨z, k, c', rfl, rfl, by rw [← line_eq]; exact c, q, wants_sh w rfl (.str _)⟩ hs
    | dict kvs =>
      match kvs, w, hd with
      | [(.none, .list ds)], w, hd =>
        obtain ⟨l, xs, rfl, h1, r1⟩ := hd.scr
        obtain ⟨v', e1, q⟩ := go r1 w
        exact ix_list ve se pins s σ H _ _ v u Q I rx ry ⟨l, xs, k, v', rfl, rfl, by rw [hK]; exact h1, e1, q⟩ hs
      | [], w, _ => exact w.elim
      | _ :: _ :: _, w, _ => exact absurd w (by simp [ixD, Wants])
      | [(.bool _, _)], w, _ => exact absurd w (by simp [ixD, Wants])
      | [(.int _, _)], w, _ => exact absurd w (by simp [ixD, Wants])
      | [(.str _, _)], w, _ => exact absurd w (by simp [ixD, Wants])
      | [(.list _, _)], w, _ => exact absurd w (by simp [ixD, Wants])
      | [(.tuple _, _)], w, _ => exact absurd w (by simp [ixD, Wants])
      | [(.dict _, _)], w, _ => exact absurd w (by simp [ixD, Wants])
      | [(.none, .none)], w, _ => exact absurd w (by simp [ixD, Wants])
      | [(.none, .bool _)], w, _ => exact absurd w (by simp [ixD, Wants])
      | [(.none, .int _)], w, _ => exact absurd w (by simp [ixD, Wants])
      | [(.none, .str _)], w, _ => exact absurd w (by simp [ixD, Wants])
      | [(.none, .tuple _)], w, _ => exact absurd w (by simp [ixD, Wants])
      | [(.none, .dict _)], w, _ => exact absurd w (by simp [ixD, Wants])
    | _ => exact w.elim
  | _ =>
    exfalso
    revert w
    cases d <;> simp [ixD, Wants]
def cutD (xs : List D) (lo hi : Option Int) : List D := (xs.drop (HT.sIx xs.length 0 lo)).take (HT.sIx xs.length xs.length hi - HT.sIx xs.length 0 lo)
theorem rp_cut {H : Hp} {vs : List V} {ds : List D} (h : RpAll H vs ds) (lo hi : Option Int) : RpAll H (cutV vs lo hi) (cutD ds lo hi) := by
  unfold cutV cutD
  rw [h.length]
  exact (h.drop _).take _
def slD (d : D) (lo hi : Option Int) : Rs Rv := match d with
  | .list ds => .ok (.fr (.lst (cutD ds lo hi)))
  | .tuple ds => .ok (.sh (.tuple (cutD ds lo hi)))
  | .str z => if z.length ≤ line then .ok (.sh (.str (cutS z lo hi))) else .stuck
  | _ => .stuck
def rSlG : V → Option Int → Option Int → Hp → VK → Prop := fun x lo hi H Q => ∃ O d, OIn O H ∧ RpB O H x d ∧ Wants O H (slD d lo hi) Q
theorem sl_G {X : Cx} : SlR X rSlG := by
  intro pins s σ H x v vl vu lo hi sl Q I rx hs pl pu h
  obtain ⟨O, d, hO, hd, w⟩ := h
  cases d with
  | list ds =>
    obtain ⟨l, xs, rfl, h1, r1⟩ := hd.list
    exact sl_list pins s σ H _ v vl vu lo hi sl Q I rx hs pl pu ⟨l, xs, rfl, SqL.of h1, fun p n => wants_lst w rfl n (rp_cut r1 lo hi)⟩
  | tuple ds =>
    have hd' : Rp (cut H O) x (.tuple ds) := by
      rcases hd with q | ⟨_, _, _, _, _, _, z⟩
      · exact q
      · cases z
    obtain ⟨l, xs, rfl, h1, r1⟩ := hd.tup
    refine sl_tupA pins s σ H _ v vl vu lo hi sl Q I rx hs pl pu ⟨l, xs, rfl, SqT.of h1, fun z => ?_, fun _ p n => wants_tup hO w rfl n (rp_cut r1 lo hi)⟩
    refine wants_sh w rfl ?_
    have e : cutD ds lo hi = ds := by
      unfold cutD
      rw [← r1.length, z.1, z.2, Nat.sub_zero, List.drop_zero, r1.length, List.take_length]
    rw [e]
    exact hd'
  | str z =>
    cases hd.str
    unfold slD at w
    obtain ⟨c, w⟩ := wants_if w
    exact sl_str pins s σ H _ v vl vu lo hi sl Q I rx hs pl pu ⟨z, rfl, by rw [← line_eq]; exact c, wants_sh w rfl (.str _)⟩
  | _ => exact w.elim
end PP

namespace PP
open PySem L2
variable [KF]

/-! ### built-ins of one argument -/
inductive B1 where
  | len | int | list | tuple | str | sum
def B1.name : B1 → Str
  | .len => "len" | .int => "int" | .list => "list" | .tuple => "tuple" | .str => "str" | .sum => "sum"
def B1.val : B1 → Value
  | .len => .builtin "len" | .int => .type "int" | .list => .type "list" | .tuple => .type "tuple" | .str => .type "str" | .sum => .builtin "sum"
theorem B1.boot : ∀ b : B1, bootBuiltins b.name = some b.val := by intro b; cases b <;> decide +kernel
theorem B1.fair : ∀ b : B1, b.name ≠ "__name__" ∧ (b.name == ("__debug__" : Str)) = false := by intro b; cases b <;> decide +kernel
def lenD : D → Rs Int
  | .list ds => .ok ds.length
  | .tuple ds => .ok ds.length
  | .dict [(.none, .list ds)] => .ok ds.length
  | .str z => if z.length ≤ line then .ok z.length else .stuck
  | _ => .stuck
def b1D : B1 → D → Rs Rv
  | .len, d => (lenD d).bind fun n => .ok (.sh (.int n))
  | .int, .int i => .ok (.sh (.int i))
  | .int, .bool b => .ok (.sh (.int (if b then 1 else 0)))
  | .int, .str x => if x.length ≤ 640 then (Rs.ofO (PySem.intText? x)).bind fun n => .ok (.sh (.int n)) else .stuck
  | .list, .list ds => .ok (.fr (.lst ds))
  | .list, .tuple ds => .ok (.fr (.lst ds))
  | .tuple, .list ds => .ok (.sh (.tuple ds))
  | .tuple, .tuple ds => .ok (.sh (.tuple ds))
  | .str, .int i => if i.natAbs.log2 < 1920 then .ok (.sh (.str (toString i))) else .stuck
  | .sum, .list ds => (Rs.ofO (intsOf ds)).bind fun ns => .ok (.sh (.int ns.sum))
  | _, _ => .stuck
def rB1 (b : B1) : List V → Hp → VK → Prop := fun xs H Q => ∃ O x d, xs = [x] ∧ OIn O H ∧ RpB O H x d ∧ Wants O H (b1D b d) Q
theorem RpB.tupRp {O : AP1} {H : Hp} {v : V} {ds : List D} (h : RpB O H v (.tuple ds)) : Rp (cut H O) v (.tuple ds) := by
  rcases h with q | ⟨_, _, _, _, _, _, z⟩
  · exact q
  · cases z
theorem call_b1 {X : Cx} (hc : X.calm = true) (hK : X.K = KF.K) : ∀ b : B1, CallR X b.val (rB1 b) := by
  intro b pins s σ H xs us Q I r h
  obtain ⟨O, x, d, rfl, hO, hd, w⟩ := h
  cases b with
  | len =>
    have go : ∀ {n : Int}, lenD d = .ok n → (∃ k : Nat, n = k ∧ LenV X.K x H k) → wpAny (model X.prog X.w) X.A (call (.builtin "len") us) (EP X pins σ Q) X.xe s := fun {n} e ⟨k, e2, l⟩ => by
      have w : Wants O H ((lenD d).bind fun n => .ok (.sh (.int n))) Q := w
      rw [e, e2] at w
      exact call_len pins s σ H [x] us Q I r ⟨x, k, rfl, l, wants_sh w rfl (.int _)⟩
    have no : lenD d = .stuck → False := fun e => by
      have w : Wants O H ((lenD d).bind fun n => .ok (.sh (.int n))) Q := w
      rw [e] at w; exact w
    have hd' := hd.full
    cases hd' with
    | lst h q => exact go rfl ⟨_, rfl, .inl ⟨_, SqL.of h, q.length.symm⟩⟩
    | tup h q => exact go rfl ⟨_, rfl, .inr ⟨_, SqT.of h, q.length.symm⟩⟩
    | scr h q => exact go rfl ⟨_, rfl, .inl ⟨_, by rw [hK]; exact h, q.length.symm⟩⟩
    | str z =>
      by_cases c : z.length ≤ line
      · exact go (if_pos c) ⟨_, rfl, by rw [line_eq] at c; exact ⟨c, rfl⟩⟩
      · exact (no (if_neg c)).elim
    | _ => exact (no rfl).elim
  | int =>
    cases d with
    | int i => cases hd.int; exact call_int1 pins s σ H _ us Q I r (.inl ⟨i, rfl, wants_sh w rfl (.int _)⟩)
    | bool b => cases hd.bl; exact call_int1 pins s σ H _ us Q I r (.inr ⟨b, rfl, wants_sh w rfl (.int _)⟩)
    | str a =>
      cases hd.str
      obtain ⟨hl, w⟩ := wants_if w
      cases e : PySem.intText? a with
      | none => rw [e] at w; exact w.elim
      | some n =>
        rw [e] at w
        exact call_int_str pins s σ H _ us Q I r ⟨a, n, rfl, e, hl, wants_sh w rfl (.int _)⟩
    | _ => exact w.elim
  | list =>
    cases d with
    | list ds =>
      obtain ⟨l, vs, rfl, h1, r1⟩ := hd.list
      exact call_list_of pins s σ H _ us Q I r ⟨l, vs, rfl, .inl (SqL.of h1), fun p n => wants_lst w rfl n r1⟩
    | tuple ds =>
      obtain ⟨l, vs, rfl, h1, r1⟩ := hd.tup
      exact call_list_of pins s σ H _ us Q I r ⟨l, vs, rfl, .inr (SqT.of h1), fun p n => wants_lst w rfl n r1⟩
    | _ => exact w.elim
  | tuple =>
    cases d with
    | list ds =>
      obtain ⟨l, vs, rfl, h1, r1⟩ := hd.list
      exact call_tuple_of pins s σ H _ us Q I r ⟨l, vs, rfl, .inl ⟨SqL.of h1, fun p n => wants_tup hO w rfl n r1⟩⟩
    | tuple ds =>
      have t := hd.tupRp
      obtain ⟨l, vs, rfl, h1, r1⟩ := hd.tup
      exact call_tuple_of pins s σ H _ us Q I r ⟨l, vs, rfl, .inr ⟨SqT.of h1, wants_sh w rfl t⟩⟩
    | _ => exact w.elim
  | str =>
    cases d with
    | int i =>
      cases hd.int
      obtain ⟨hl, w⟩ := wants_if w
      exact call_str_int pins s σ H _ us Q I r ⟨i, rfl, hl, wants_sh w rfl (.str _)⟩
    | _ => exact w.elim
  | sum =>
    cases d with
    | list ds =>
      obtain ⟨l, vs, rfl, h1, r1⟩ := hd.list
      have w : Wants O H ((Rs.ofO (intsOf ds)).bind fun ns => .ok (.sh (.int ns.sum))) Q := w
      cases e : intsOf ds with
      | none => rw [e] at w; exact w.elim
      | some ns =>
        rw [e] at w
        rw [intsOf_eq e] at r1
        rw [RpAll.ints_inv ns r1] at h1
        exact cr_sum hc pins s σ H _ us Q I r ⟨l, ns, rfl, SqL.of h1, wants_sh w rfl (.int _)⟩
    | _ => exact w.elim

/-! ### built-ins of two arguments -/
inductive B2 where
  | max | min
def B2.name : B2 → Str
  | .max => "max" | .min => "min"
def B2.val : B2 → Value
  | .max => .builtin "max" | .min => .builtin "min"
theorem B2.boot : ∀ b : B2, bootBuiltins b.name = some b.val := by intro b; cases b <;> decide +kernel
theorem B2.fair : ∀ b : B2, b.name ≠ "__name__" ∧ (b.name == ("__debug__" : Str)) = false := by intro b; cases b <;> decide +kernel
def b2D : B2 → D → D → Rs Rv
  | .max, .int i, .int j => .ok (.sh (.int (if i < j then j else i)))
  | .min, .int i, .int j => .ok (.sh (.int (if j < i then j else i)))
  | _, _, _ => .stuck
def rB2 (b : B2) : List V → Hp → VK → Prop := fun xs H Q => ∃ O x y d e, xs = [x, y] ∧ OIn O H ∧ RpB O H x d ∧ RpB O H y e ∧ Wants O H (b2D b d e) Q
theorem call_b2 {X : Cx} (hc : X.calm = true) : ∀ b : B2, CallR X b.val (rB2 b) := by
  intro b pins s σ H xs us Q I r h
  obtain ⟨O, x, y, d, e, rfl, hO, hd, he, w⟩ := h
  cases b with
  | max =>
    cases d with
    | int i => cases e with
      | int j => cases hd.int; cases he.int; exact call_max2 hc pins s σ H _ us Q I r ⟨i, j, rfl, wants_sh w rfl (.int _)⟩
      | _ => exact w.elim
    | _ => exact w.elim
  | min =>
    cases d with
    | int i => cases e with
      | int j => cases hd.int; cases he.int; exact call_min2 hc pins s σ H _ us Q I r ⟨i, j, rfl, wants_sh w rfl (.int _)⟩
      | _ => exact w.elim
    | _ => exact w.elim
/-! ### len(set(..)), ints -/
def dd (ns : List Int) : List Int := ns.foldr (fun x l => if l.contains x then l else x :: l) []
theorem dd_mem : ∀ (ns : List Int) (k : Int), k ∈ dd ns ↔ k ∈ ns
  | [], k => Iff.rfl
  | x :: r, k => by
    have ih := dd_mem r k
    show k ∈ (if (dd r).contains x then dd r else x :: dd r) ↔ _
    split
    · rename_i h
      have hx : x ∈ dd r := by simpa using h
      rw [ih, List.mem_cons]
      exact ⟨fun h => .inr h, fun h => by
        rcases h with rfl | h
        · exact (dd_mem r k).mp hx
        · exact h⟩
    · rw [List.mem_cons, List.mem_cons, ih]
theorem dd_nodup : ∀ (ns : List Int), (dd ns).Nodup
  | [] => List.nodup_nil
  | x :: r => by
    have ih := dd_nodup r
    show (if (dd r).contains x then dd r else x :: dd r).Nodup
    split
    · exact ih
    · rename_i h
      exact List.nodup_cons.mpr ⟨by simpa using h, ih⟩
theorem dd_len {ns L : List Int} (h : L.Nodup) (m : ∀ k, k ∈ L ↔ k ∈ ns) : L.length = (dd ns).length :=
  Nat.le_antisymm (List.Nodup.length_le_of_subset h fun k hk => (dd_mem ns k).mpr ((m k).mp hk)) (List.Nodup.length_le_of_subset (dd_nodup ns) fun k hk => (m k).mpr ((dd_mem ns k).mp hk))
def lenSetD : D → Rs Rv
  | .list ds => (Rs.ofO (intsOf ds)).bind fun ns => if ns.length ≤ 1000 then .ok (.sh (.int (dd ns).length)) else .stuck
  | .tuple ds => (Rs.ofO (intsOf ds)).bind fun ns => if ns.length ≤ 1000 then .ok (.sh (.int (dd ns).length)) else .stuck
  | _ => .stuck
section
open PySem.Spec PyProof.Rows
theorem firstMet_nd (val : Nat → Int) : ∀ i, (firstMet val i).Nodup
  | 0 => List.nodup_nil
  | i + 1 => by
    rw [firstMet_succ]
    unfold step_dedup
    have ih := firstMet_nd val i
    split
    · exact ih
    · rename_i h
      refine List.nodup_append.mpr ⟨ih, by simp, fun a ha b hb => ?_⟩
      have : b = val i := by simpa using hb
      subst this
      intro e; subst e
      exact h (List.any_eq_true.mpr ⟨_, ha, by simp⟩)
theorem firstMet_mem (val : Nat → Int) (i : Nat) (k : Int) : k ∈ firstMet val i ↔ k ∈ (List.range i).map val := by
  have h := firstMet_any val i k
  have a : ∀ l : List Int, l.any (· == k) = true ↔ k ∈ l := fun l => by simp
  rw [← a, ← a, h]
theorem firstMet_all (ns : List Int) : (List.range ns.length).map (fun i => ns.getD i 0) = ns := by
  apply List.ext_getElem?
  intro i
  rw [List.getElem?_map]
  by_cases h : i < ns.length
  · rw [List.getElem?_range h]; simp [List.getD_eq_getElem?_getD, h]
  · rw [List.getElem?_eq_none (by simpa using h), List.getElem?_eq_none (by omega)]; rfl
def tLenSet (K : PySem.W.Frag) (ta : TE) : TE := fun σ H Q => ta σ H fun x H1 => ∃ (l : Addr) (ns : List Int), x = V.ref l ∧ (SqL K H1 l (ns.map V.int) ∨ SqT K H1 l (ns.map V.int)) ∧ ns.length ≤ 1000 ∧ Q (.int (dd ns).length) H1
theorem dd_le (ns : List Int) : (dd ns).length ≤ ns.length := List.Nodup.length_le_of_subset (dd_nodup ns) fun k hk => (dd_mem ns k).mp hk
theorem pe_lenSetG {X : Cx} {a : Expr} {ta : TE} {p p2 q pos : Pos} (hc : X.calm = true) (hg : Gl X "len") (hm : X.mg "len" = none) (hg2 : Gl X "set") (hm2 : X.mg "set" = none) (ha : PE X a ta)
    (na : starEach [a] X.env = (false, eval a X.env) :: starEach [] X.env := by rfl) : PE X (.Call (.Name "len" p) [.Call (.Name "set" p2) [a] [] q] [] pos) (tLenSet X.K ta) := by
  refine ⟨fun pins s σ H Q I h => ?_⟩
  refine Call_ (ld_blt I hg hm PySem.boot_len ?_)
  refine PyProof.Rows.callWith_builtin1 (PyProof.Rows.args_cons ?_ rfl) rfl rfl
  refine Call_ (ld_blt I hg2 hm2 PyProof.Rows.boot_set ?_)
  refine PyProof.Rows.callWith_type1 (PyProof.Rows.args_cons (thn (ha.run pins s σ H _ I h) fun v s1 ⟨x, H1, I1, r1, q1⟩ => PyProof.Rows.args_nil ?_) na) na rfl
  obtain ⟨l, ns, rfl, hq, h1, q1⟩ := q1
  cases r1
  have dl := dd_le ns
  rcases hq with hq | hq
  · obtain ⟨its, r, pl, hz⟩ := I1.list hq
    have hl : its.toArray.size = ns.length := by rw [List.size_toArray, ← r.length, List.length_map]
    refine call_set_list (I1.ok.hd hc) pl.isList (ns := ns) (by simpa using r.ints) (by unfold scanBound; omega) fun h' tk hS hk => ?_
    refine PyProof.Rows.args_nil ?_
    obtain ⟨o, es, ep, t, ho, hex, hd, x1, x2, x3, hf, hn⟩ := hS
    have I2 : Inv X pins σ H1 { s1 with heap := h', toks := tk } := I1.kept fun b o e => hk b o (Heap.lt_size e) e
    have en : es.size = (dd ns).length := by
      rw [hn, hl]
      exact dd_len (firstMet_nd _ _) fun k => by rw [firstMet_mem, firstMet_all ns]
    exact call_len_set ho hex hd hf (by omega) ⟨.int (dd ns).length, H1, I2.tok _, ⟨_, by rw [en]⟩, q1⟩
  · obtain ⟨its, rv, pt, hz⟩ := I1.tuple hq
    refine call_set_tupI ns (I1.ok.hd hc) (show s1.heap.IsTuple l its.toArray from pt) (ints_of_vals rv) (by unfold scanBound; omega) fun h' tk c R1 hcn k => ?_
    refine PyProof.Rows.args_nil ?_
    obtain ⟨o, es, ep, t, ho, hex, hdt, g, nd, hm3, hb, hf, hn, hr, hl2⟩ := R1
    have I2 : Inv X pins σ H1 { s1 with heap := h', toks := tk } := I1.kept fun b o e => k b o e
    have en : es.size = (dd ns).length := by
      have z := dd_len (ns := ns) nd fun j => by rw [← hm3 j, decide_eq_true_eq]
      rw [List.length_map, Array.length_toList] at z; exact z
    exact call_len_set ho hex hdt hf (by omega) ⟨.int (dd ns).length, H1, I2.tok _, ⟨_, by rw [en]⟩, q1⟩
end
/-! ### isinstance -/
inductive Ty where
  | int | bool | tuple | str | list
def Ty.name : Ty → String
  | .int => "int" | .bool => "bool" | .tuple => "tuple" | .str => "str" | .list => "list"
theorem Ty.boot : ∀ t : Ty, bootBuiltins (Str.ofString t.name) = some (.type t.name) := by intro b; cases b <;> decide +kernel
def isinD : Ty → D → Bool
  | .int, .int _ | .int, .bool _ | .bool, .bool _ | .tuple, .tuple _ | .str, .str _ | .list, .list _ | .list, .dict _ => true
  | _, _ => false
def tyN : D → String
  | .none => "NoneType" | .bool _ => "bool" | .int _ => "int" | .str _ => "str" | .list _ => "list" | .tuple _ => "tuple" | .dict _ => "list"
theorem tyN_of {H : Hp} {v : V} {d : D} (h : Rp H v d) : TyX KF.K H v (.type (tyN d)) := by
  cases h with
  | non => exact .base .non
  | bl b => exact .base (.bl b)
  | int i => exact .base (.int i)
  | str x => exact .base (.str x)
  | lst h _ => exact .base (.lst h)
  | tup h _ => exact .base (.tup h)
  | scr h _ =>
    rcases h with (h | ⟨o, h⟩) | ⟨o, its, n, h, c, _⟩
    · exact .base (.lst h)
    · exact .base (.frz h)
    · exact .kList h c
theorem kit_D (t : Ty) (d : D) : kitB (tyN d) t.name = some (isinD t d) := by
  cases t <;> cases d <;> (simp only [tyN, Ty.name, isinD]; decide +kernel)

/-! ### slots -/
inductive Sl where
  | sh (d : D)
  | ow (o : OO)
abbrev En := List (Option Sl)
def getS (env : En) (i : Nat) : Option Sl := env.getD i none
structure ER (H0 : Hp) (O0 : AP1) (env : En) (O : AP1) (σ : St) (H : Hp) : Prop where
  len : σ.length = env.length
  sub : ∀ a, O0 a → O a
  in0 : OIn O0 H0
  own : OIn O H
  same : Same H0 H
  sh : ∀ i d, getS env i = some (.sh d) → ∃ v, σ[i]? = some (some v) ∧ Rp (cut H O) v d
  ow : ∀ i o, getS env i = some (.ow o) → ∃ l ho, σ[i]? = some (some (.ref l)) ∧ O l ∧ H0 l = none ∧ H l = some ho ∧ ORp (cut H O) o ho
  inj : ∀ i j o o' l, getS env i = some (.ow o) → getS env j = some (.ow o') → σ[i]? = some (some (.ref l)) → σ[j]? = some (some (.ref l)) → i = j
theorem ER.later {H0 H H' : Hp} {O0 O : AP1} {env : En} {σ : St} (e : ER H0 O0 env O σ H) (s : Same H H') : ER H0 O0 env O σ H' :=
  ⟨e.len, e.sub, e.in0, e.own.later s, e.same.trans s, fun i d h => by obtain ⟨v, h1, h2⟩ := e.sh i d h; exact ⟨v, h1, h2.mono (cut_same s)⟩,
    fun i o h => by obtain ⟨l, ho, h1, h2, h3, h4, h5⟩ := e.ow i o h; exact ⟨l, ho, h1, h2, h3, s _ _ h4, h5.mono (cut_same s)⟩, e.inj⟩

/-! ### the texts -/
mutual
inductive SE where
  | var (i : Nat)
  | non | bl (b : Bool) | int (i : Int) | str (s : Str)
  | gint (x : Str) (n : Int)
  | gstr (x : Str) (s : Str)
  | bin (o : Op2) (a b : SE)
  | neg (a : SE)
  | cmp (o : CmpOp) (a b : SE)
  | chain (o p : CmpOp) (a b c : SE)
  | and (a b : SE)
  | or (a b : SE)
  | not (a : SE)
  | ite (c : ST) (a b : SE)
  | tup (as : SA)
  | lst (as : SA)
  | ix (a i : SE)
  | sl (a : SE) (lo hi : SO)
  | call (f : Nat) (as : SA)
  | b1 (b : B1) (a : SE)
  | b2 (b : B2) (a c : SE)
  | lenSet (a : SE)
  | isin (a : SE) (t : Ty)
  | listRg (r : SI)
  | tupRg (r : SI)
  | comp (elt : SE) (tg : List Nat) (it : SI) (c : SC) (own : List (Str × Nat))
inductive ST where
  | and (a b : ST)
  | or (a b : ST)
  | not (a : ST)
  | cmp (o : CmpOp) (a b : SE)
  | chain (o p : CmpOp) (a b c : SE)
  | tru (e : SE)
inductive SA where
  | nil
  | cons (a : SE) (r : SA)
inductive SO where
  | no
  | so (a : SE)
inductive SI where
  | of (a : SE)
  | range1 (a : SE)
  | range2 (a b : SE)
inductive SC where
  | no
  | so (c : ST)
end
def bor (env : En) (e : SE) (r : Rs Rv) : Rs D := match e with
  | .var i => match getS env i with
    | some (.sh d) => .ok d
    | some (.ow (.lst ds)) => .ok (.list ds)
    | _ => .stuck
  | _ => r.bind fun r => Rs.ofO r.toD?
def rgD (a b : Int) : List D := (List.range (b - a).toNat).map fun i => .int (a + (i : Nat))
def rgOk (a b : Int) : Bool := decide (-(2 ^ 62) ≤ a) && decide (a < 2 ^ 62) && decide (-(2 ^ 62) ≤ b) && decide (b < 2 ^ 62) && decide ((b - a).toNat ≤ line)
def itemsD : D → Rs (List D)
  | .list ds => .ok ds
  | .tuple ds => .ok ds
  | .dict [(.none, .list ds)] => .ok ds
  | .str z => .ok (z.cps.toList.map fun c => .str ⟨#[c]⟩)
  | _ => .stuck
/-- the slots of a target -/
def setTs (is : List Nat) (d : D) (env : En) : Rs En := match d with
  | .tuple ds => if ds.length = is.length then .ok ((is.zip ds).foldl (fun e p => e.set p.1 (some (.sh p.2))) env) else .stuck
  | _ => .stuck
def setT (tg : List Nat) (d : D) (env : En) : Rs En := match tg with
  | [i] => .ok (env.set i (some (.sh d)))
  | is => setTs is d env
def wipeE (env : En) : List Nat → En
  | [] => env
  | v :: vs => (wipeE env vs).set v none
def compGo (f : D → Rs (Option D)) : List D → Rs (List D)
  | [] => .ok []
  | x :: r => match f x with
    | .ok (some d) => (compGo f r).bind fun l => .ok (d :: l)
    | .ok none => compGo f r
    | _ => .stuck
/-- a comprehension's turn: the target set, the test, the element -/
def compF (g : D → Rs En) (c : En → Rs Bool) (el : En → Rs Rv) (d : D) : Rs (Option D) := match g d with
  | .ok e => match c e with
    | .ok true => (el e).bind fun r => (Rs.ofO r.toD?).bind fun d => .ok (some d)
    | .ok false => .ok none
    | _ => .stuck
  | _ => .stuck
def isInt : D → Rs Int
  | .int i => .ok i
  | _ => .stuck
mutual
def denE (call : Nat → List D → Rs Rv) : SE → En → Rs Rv
  | .var i, env => match getS env i with
    | some (.sh d) => .ok (.sh d)
    | _ => .stuck
  | .non, _ => .ok (.sh .none)
  | .bl b, _ => .ok (.sh (.bool b))
  | .int i, _ => .ok (.sh (.int i))
  | .str s, _ => .ok (.sh (.str s))
  | .gint _ n, _ => .ok (.sh (.int n))
  | .gstr _ s, _ => .ok (.sh (.str s))
  | .bin o a b, env => (bor env a (denE call a env)).bind fun x => (bor env b (denE call b env)).bind fun y => binD o x y
  | .neg a, env => (bor env a (denE call a env)).bind fun x => (isInt x).bind fun i => .ok (.sh (.int (-i)))
  | .cmp o a b, env => (bor env a (denE call a env)).bind fun x => (bor env b (denE call b env)).bind fun y => (cmpD o x y).bind fun k => .ok (.sh (.bool k))
  | .chain o p a b c, env => (bor env a (denE call a env)).bind fun x => (bor env b (denE call b env)).bind fun y => (cmpD o x y).bind fun k =>
      if k = true then (bor env c (denE call c env)).bind fun z => (cmpD p y z).bind fun k => .ok (.sh (.bool k)) else .ok (.sh (.bool false))
  | .and a b, env => (denE call a env).bind fun r => match r with
    | .sh (.bool true) => denE call b env
    | .sh (.bool false) => .ok (.sh (.bool false))
    | _ => .stuck
  | .or a b, env => (denE call a env).bind fun r => match r with
    | .sh (.bool true) => .ok (.sh (.bool true))
    | .sh (.bool false) => denE call b env
    | _ => .stuck
  | .not a, env => (bor env a (denE call a env)).bind fun x => (truD x).bind fun k => .ok (.sh (.bool (!k)))
  | .ite c a b, env => (denT call c env).bind fun k => if k = true then denE call a env else denE call b env
  | .tup as, env => (denA call as env).bind fun ds => if ds.length ≤ line then .ok (.sh (.tuple ds)) else .stuck
  | .lst as, env => (denA call as env).bind fun ds => if ds.length ≤ line then .ok (.fr (.lst ds)) else .stuck
  | .ix a i, env => (bor env a (denE call a env)).bind fun x => (bor env i (denE call i env)).bind fun y => ixD x y
  | .sl a lo hi, env => (bor env a (denE call a env)).bind fun x => (denO call lo env).bind fun l => (denO call hi env).bind fun h => slD x l h
  | .call f as, env => (denA call as env).bind fun ds => call f ds
  | .b1 b a, env => (bor env a (denE call a env)).bind fun x => b1D b x
  | .lenSet a, env => (bor env a (denE call a env)).bind fun x => lenSetD x
  | .b2 b a c, env => (bor env a (denE call a env)).bind fun x => (bor env c (denE call c env)).bind fun y => b2D b x y
  | .isin a t, env => (bor env a (denE call a env)).bind fun x => .ok (.sh (.bool (isinD t x)))
  | .listRg r, env => match r with
    | .of _ => .stuck
    | r => (denI call false r env).bind fun ds => .ok (.fr (.lst ds))
  | .tupRg r, env => match r with
    | .of _ => .stuck
    | r => (denI call false r env).bind fun ds => .ok (.sh (.tuple ds))
  | .comp elt tg it c own, env => (denI call false it env).bind fun items =>
      (compGo (compF (fun d => setT tg d (wipeE env (own.map (·.2)))) (fun e => denC call c e) (fun e => denE call elt e)) items).bind fun l => if l.length ≤ line then .ok (.fr (.lst l)) else .stuck
def denT (call : Nat → List D → Rs Rv) : ST → En → Rs Bool
  | .and a b, env => (denT call a env).bind fun k => if k = true then denT call b env else .ok false
  | .or a b, env => (denT call a env).bind fun k => if k = true then .ok true else denT call b env
  | .not a, env => (denT call a env).bind fun k => .ok (!k)
  | .cmp o a b, env => (bor env a (denE call a env)).bind fun x => (bor env b (denE call b env)).bind fun y => cmpD o x y
  | .chain o p a b c, env => (bor env a (denE call a env)).bind fun x => (bor env b (denE call b env)).bind fun y => (cmpD o x y).bind fun k =>
      if k = true then (bor env c (denE call c env)).bind fun z => cmpD p y z else .ok false
  | .tru e, env => (bor env e (denE call e env)).bind fun x => truD x
def denA (call : Nat → List D → Rs Rv) : SA → En → Rs (List D)
  | .nil, _ => .ok []
  | .cons a r, env => (denE call a env).bind fun x => (Rs.ofO x.toD?).bind fun d => (denA call r env).bind fun ds => .ok (d :: ds)
def denO (call : Nat → List D → Rs Rv) : SO → En → Rs (Option Int)
  | .no, _ => .ok none
  | .so a, env => (bor env a (denE call a env)).bind fun x => (isInt x).bind fun i => .ok (some i)
def denI (call : Nat → List D → Rs Rv) (loop : Bool) : SI → En → Rs (List D)
  | .of a, env => if loop = true then (denE call a env).bind fun r => (Rs.ofO r.toD?).bind fun d => itemsD d else (bor env a (denE call a env)).bind fun d => itemsD d
  | .range1 a, env => (bor env a (denE call a env)).bind fun x => (isInt x).bind fun n => if rgOk 0 n = true then .ok (rgD 0 n) else .stuck
  | .range2 a b, env => (bor env a (denE call a env)).bind fun x => (bor env b (denE call b env)).bind fun y => (isInt x).bind fun m => (isInt y).bind fun n => if rgOk m n = true then .ok (rgD m n) else .stuck
def denC (call : Nat → List D → Rs Rv) : SC → En → Rs Bool
  | .no, _ => .ok true
  | .so c, env => denT call c env
end
end PP

namespace PP
open PySem L2
variable [KF]

/-! ### a text stands for an expression -/
structure Cf where
  fn : List Str
  bn : List Str
  gi : List (Str × Int)
  gs : List (Str × Str)
def visB (sc : Scope) (x : Str) : Bool := match sc.names.lookup x with
  | some .local | some .cell | some .free => true
  | _ => false
def glB (sc : Scope) (x : Str) : Bool := match sc.names.lookup x with
  | some .globalImplicit => true
  | _ => false
def ndb (x : Str) : Bool := !(x == ("__debug__" : Str))
def bltB (cf : Cf) (sc : Scope) (x y : Str) : Bool := x == y && cf.bn.contains x && glB sc x
/-- an argument that is no star -/
def noStar : Expr → Bool
  | .Starred _ _ => false
  | _ => true
def plainT : Expr → Bool
  | .BoolOp _ _ _ | .UnaryOp .Not _ _ | .Compare _ _ _ _ | .IfExp _ _ _ _ => false
  | _ => true
def notSlice : Expr → Bool
  | .Slice _ _ _ _ => false
  | _ => true
def noSet : Expr → Bool
  | .Set _ _ _ => false
  | _ => true
def tgB (N : List Str) (sc : Scope) (fn : Bool) : List Nat → Expr → Bool
  | [i], .Name x _ => N[i]? == some x && (match sc.names.lookup x with | some .local => true | some .cell => fn | _ => false)
  | [_], _ => false
  | is, .Tuple es _ _ => is.length == es.length && (is.zip es).all fun p => match p.2 with
    | .Name x _ => N[p.1]? == some x && (match sc.names.lookup x with | some .local => true | some .cell => fn | _ => false)
    | _ => false
  | _, _ => false
mutual
def mtE (cf : Cf) (N : List Str) (sc : Scope) : SE → Expr → Bool
  | .var i, .Name x _ => N[i]? == some x && visB sc x && ndb x && !(x == ("__classdict__" : Str))
  | .non, .Constant .none _ _ => true
  | .bl b, .Constant (.bool c) _ _ => b == c
  | .int i, .Constant (.int j) _ _ => i == j
  | .str s, .Constant (.str t) _ _ => s == t
  | .gint x n, .Name y _ => x == y && cf.gi.contains (x, n) && glB sc x && ndb x
  | .gstr x n, .Name y _ => x == y && cf.gs.contains (x, n) && glB sc x && ndb x
  | .bin o a b, .BinOp l p r _ => o.op == p && mtE cf N sc a l && mtE cf N sc b r
  | .neg a, .UnaryOp .USub l _ => mtE cf N sc a l
  | .cmp o a b, .Compare l [p] [r] _ => o == p && mtE cf N sc a l && mtE cf N sc b r && !behindInMarks o r
  | .chain o o2 a b c, .Compare l [p, p2] [r, r2] _ => o == p && o2 == p2 && mtE cf N sc a l && mtE cf N sc b r && mtE cf N sc c r2 && !behindInMarks o r && !behindInMarks o2 r2
  | .and a b, .BoolOp .And (l :: r :: rest) pos => mtE cf N sc a l && (match rest with | [] => mtE cf N sc b r | _ :: _ => mtE cf N sc b (.BoolOp .And (r :: rest) pos))
  | .or a b, .BoolOp .Or (l :: r :: rest) pos => mtE cf N sc a l && (match rest with | [] => mtE cf N sc b r | _ :: _ => mtE cf N sc b (.BoolOp .Or (r :: rest) pos))
  | .not a, .UnaryOp .Not l _ => mtE cf N sc a l
  | .ite c a b, .IfExp t l r _ => mtT cf N sc c t && mtE cf N sc a l && mtE cf N sc b r
  | .tup as, .Tuple es _ _ => mtA cf N sc as es
  | .lst as, .List es _ => mtA cf N sc as es
  | .ix a i, .Subscript l r _ => mtE cf N sc a l && mtE cf N sc i r && notSlice r
  | .sl a lo hi, .Subscript l (.Slice x y none _) _ => mtE cf N sc a l && mtO cf N sc lo x && mtO cf N sc hi y
  | .call f as, .Call (.Name x _) (e :: es) [] _ => cf.fn[f]? == some x && glB sc x && ndb x && mtA cf N sc as (e :: es)
  | .b1 b a, .Call (.Name x _) [l] [] _ => bltB cf sc x b.name && mtE cf N sc a l
  | .lenSet a, .Call (.Name x _) [.Call (.Name y _) [l] [] _] [] _ => bltB cf sc x "len" && bltB cf sc y "set" && mtE cf N sc a l
  | .b2 b a c, .Call (.Name x _) [l, r] [] _ => bltB cf sc x b.name && mtE cf N sc a l && mtE cf N sc c r
  | .isin a t, .Call (.Name x _) [l, .Name y _] [] _ => bltB cf sc x "isinstance" && bltB cf sc y (Str.ofString t.name) && mtE cf N sc a l
  | .listRg r, .Call (.Name x _) [l] [] _ => bltB cf sc x "list" && mtI cf N sc r l && noStar l
  | .tupRg r, .Call (.Name x _) [l] [] _ => bltB cf sc x "tuple" && mtI cf N sc r l && noStar l
  | .comp elt tg it c own, .ListComp e [⟨t, i, fs, a⟩] scope _ => a == 0 && blkC N sc scope own && tgB N (relS scope sc) false tg t && mtI cf N sc it i && mtC cf N (relS scope sc) c fs && mtE cf N (relS scope sc) elt e && noSet i &&
      tg.all (fun k => (own.map (·.2)).contains k)
  | _, _ => false
def mtT (cf : Cf) (N : List Str) (sc : Scope) : ST → Expr → Bool
  | .and a b, .BoolOp .And (l :: r :: rest) pos => mtT cf N sc a l && (match rest with | [] => mtT cf N sc b r | _ :: _ => mtT cf N sc b (.BoolOp .And (r :: rest) pos))
  | .or a b, .BoolOp .Or (l :: r :: rest) pos => mtT cf N sc a l && (match rest with | [] => mtT cf N sc b r | _ :: _ => mtT cf N sc b (.BoolOp .Or (r :: rest) pos))
  | .not a, .UnaryOp .Not l _ => mtT cf N sc a l
  | .cmp o a b, .Compare l [p] [r] _ => o == p && mtE cf N sc a l && mtE cf N sc b r && !behindInMarks o r
  | .chain o o2 a b c, .Compare l [p, p2] [r, r2] _ => o == p && o2 == p2 && mtE cf N sc a l && mtE cf N sc b r && mtE cf N sc c r2 && !behindInMarks o r && !behindInMarks o2 r2
  | .tru e, l => plainT l && mtE cf N sc e l
  | _, _ => false
def mtA (cf : Cf) (N : List Str) (sc : Scope) : SA → List Expr → Bool
  | .nil, [] => true
  | .cons a r, e :: es => mtE cf N sc a e && noStar e && mtA cf N sc r es
  | _, _ => false
def mtO (cf : Cf) (N : List Str) (sc : Scope) : SO → Option Expr → Bool
  | .no, none => true
  | .so a, some e => mtE cf N sc a e
  | _, _ => false
def mtI (cf : Cf) (N : List Str) (sc : Scope) : SI → Expr → Bool
  | .of a, e => mtE cf N sc a e
  | .range1 a, .Call (.Name x _) [l] [] _ => bltB cf sc x "range" && mtE cf N sc a l && noStar l
  | .range2 a b, .Call (.Name x _) [l, r] [] _ => bltB cf sc x "range" && mtE cf N sc a l && noStar l && mtE cf N sc b r && noStar r
  | _, _ => false
def mtC (cf : Cf) (N : List Str) (sc : Scope) : SC → List Expr → Bool
  | .no, [] => true
  | .so c, [e] => mtT cf N sc c e
  | _, _ => false
end
end PP

namespace PP
open PySem L2
variable [KF]

/-! ### no exception of an operation's own -/
def NoX {α : Type} (r : Rs α) : Prop := ∀ c, r ≠ .exc c
theorem NoX.bind {α β : Type} {r : Rs α} {f : α → Rs β} (h : NoX r) (g : ∀ a, NoX (f a)) : NoX (r.bind f) := by
  intro c
  cases r with
  | ok a => exact g a c
  | exc d => exact absurd rfl (h d)
  | stuck => intro e; cases e
theorem nox_ok {α : Type} {a : α} : NoX (.ok a) := fun _ e => by cases e
theorem nox_stuck {α : Type} : NoX (.stuck : Rs α) := fun _ e => by cases e
theorem nox_ofO {α : Type} (o : Option α) : NoX (Rs.ofO o) := by cases o <;> first | exact nox_ok | exact nox_stuck
theorem nox_ite {α : Type} {c : Prop} [Decidable c] {r : Rs α} (h : NoX r) : NoX (if c then r else .stuck) := by
  by_cases q : c
  · rw [if_pos q]; exact h
  · rw [if_neg q]; exact nox_stuck
theorem nox_bin (o : Op2) (d e : D) : NoX (binD o d e) := by
  cases o <;> cases d <;> cases e <;> first | exact nox_stuck | exact nox_ok | exact nox_ite nox_ok
theorem nox_eq (d e : D) : NoX (eqD d e) := by
  cases d <;> cases e <;> first | exact nox_ok | exact nox_stuck | exact nox_ite nox_ok
theorem nox_not {r : Rs Bool} (h : NoX r) : NoX (notR r) := by
  intro c
  cases r with
  | ok a => intro e; cases e
  | exc d => exact absurd rfl (h d)
  | stuck => intro e; cases e
theorem nox_in (d e : D) : NoX (inD d e) := by
  cases e with
  | list ds =>
    unfold inD
    by_cases c : (flatD d && ds.all flatD) = true
    · simp only [if_pos c]; exact nox_ok
    · simp only [if_neg c]; exact nox_ite nox_ok
  | tuple ds => exact nox_ite nox_ok
  | str z => cases d <;> first | exact nox_ok | exact nox_stuck
  | _ => exact nox_stuck
theorem nox_is (d e : D) : NoX (isD d e) := by
  cases e <;> cases d <;> first | exact nox_ok | exact nox_stuck
theorem nox_cmp (o : CmpOp) (d e : D) : NoX (cmpD o d e) := by
  cases o with
  | Eq => exact nox_eq d e
  | NotEq => exact nox_not (nox_eq d e)
  | In => exact nox_in d e
  | NotIn => exact nox_not (nox_in d e)
  | Is => exact nox_is d e
  | IsNot => exact nox_not (nox_is d e)
  | Lt =>
    cases d <;> cases e <;> first
      | exact nox_ok
      | exact nox_stuck
      | (rename_i xs ys
         simp only [cmpD]
         cases intsOf xs <;> cases intsOf ys <;> first | exact nox_ok | exact nox_stuck)
  | _ => cases d <;> cases e <;> first | exact nox_ok | exact nox_stuck
theorem nox_tru (d : D) : NoX (truD d) := by
  cases d <;> first | exact nox_ok | exact nox_stuck | exact nox_ite nox_ok
theorem nox_ix (d i : D) : NoX (ixD d i) := by
  unfold ixD
  split <;> first | exact (nox_ofO _).bind fun _ => nox_ok | exact nox_ite ((nox_ofO _).bind fun _ => nox_ok) | exact nox_stuck
theorem nox_sl (d : D) (lo hi : Option Int) : NoX (slD d lo hi) := by
  cases d <;> first | exact nox_ok | exact nox_stuck | exact nox_ite nox_ok
theorem nox_len (d : D) : NoX (lenD d) := by
  unfold lenD
  split <;> first | exact nox_ok | exact nox_stuck | exact nox_ite nox_ok
theorem nox_b1 (b : B1) (d : D) : NoX (b1D b d) := by
  cases b with
  | len => exact (nox_len d).bind fun _ => nox_ok
  | _ => cases d <;> first | exact nox_ok | exact nox_stuck | exact nox_ite nox_ok | exact (nox_ofO _).bind fun _ => nox_ok | exact nox_ite ((nox_ofO _).bind fun _ => nox_ok)
theorem nox_b2 (b : B2) (d e : D) : NoX (b2D b d e) := by
  unfold b2D
  split <;> first | exact nox_ok | exact nox_stuck
theorem nox_lenSet (d : D) : NoX (lenSetD d) := by
  unfold lenSetD
  split <;> first | exact (nox_ofO _).bind fun _ => nox_ite nox_ok | exact nox_stuck
theorem nox_items (d : D) : NoX (itemsD d) := by
  unfold itemsD
  split <;> first | exact nox_ok | exact nox_stuck

/-! ### readings by den -/
def Kx (mg : Str → Option Value) (W : WX) (σ : St) (H : Hp) (c : Str) : Prop := ∀ C H', Same H H' → mg c = some (.ref C) → W (.ref C) none σ H'
def fin {α : Type} (mg : Str → Option Value) (W : WX) (σ : St) (H : Hp) (r : Rs α) (k : α → Prop) : Prop := match r with
  | .ok a => k a
  | .exc c => Kx mg W σ H c
  | .stuck => False
section
variable {mg : Str → Option Value} {W : WX} {σ : St} {H H1 : Hp} {α β : Type} {r : Rs α} {k k' : α → Prop}
theorem fin.bind {f : α → Rs β} {k : β → Prop} (h : fin mg W σ H (r.bind f) k) : fin mg W σ H r fun a => fin mg W σ H (f a) k := by
  cases r with
  | ok a => exact h
  | exc c => exact h
  | stuck => exact h
theorem fin.imp (h : fin mg W σ H r k) (i : ∀ a, k a → k' a) : fin mg W σ H r k' := by
  cases r with
  | ok a => exact i a h
  | exc c => exact h
  | stuck => exact h
theorem fin.later (h : fin mg W σ H r k) (s : Same H H1) : fin mg W σ H1 r k := by
  cases r with
  | ok a => exact h
  | exc c => exact fun C H' s' e => h C H' (s.trans s') e
  | stuck => exact h
theorem fin.nox (h : fin mg W σ H r k) (n : NoX r) : ∃ a, r = .ok a ∧ k a := by
  cases r with
  | ok a => exact ⟨a, rfl, h⟩
  | exc c => exact absurd rfl (n c)
  | stuck => exact h.elim
end
/-- what comes from a later heap -/
theorem post_back {O : AP1} {H H1 H' : Hp} {r : Rv} {v : V} (s : Same H H1) (p : Post O H1 r v H') : Post O H r v H' := by
  refine ⟨s.trans p.1, ?_⟩
  cases r with
  | sh d => exact p.2
  | fr o =>
    obtain ⟨p', ho, e1, e2, e3, e4⟩ := p.2
    exact ⟨p', ho, e1, s.free e2, e3, e4⟩
theorem fin.wants {mg : Str → Option Value} {W : WX} {σ : St} {H H1 H2 : Hp} {O : AP1} {r : Rs Rv} {Q : VK} (h : fin mg W σ H1 r fun r => ∀ v H', Post O H r v H' → Q v H') (n : NoX r) (s : Same H H2) : Wants O H2 r Q := by
  obtain ⟨a, rfl, q⟩ := h.nox n
  exact fun v H' p => q v H' (post_back s p)
section
variable (mg : Str → Option Value) (call : Nat → List D → Rs Rv) (W : WX) (H0 : Hp) (O0 : AP1)
def tE (e : SE) : TE := fun σ H Q => ∃ env O, ER H0 O0 env O σ H ∧ fin mg W σ H (denE call e env) fun r => ∀ v H', Post O H r v H' → Q v H'
def tB (e : SE) : TE := fun σ H Q => ∃ env O, ER H0 O0 env O σ H ∧ fin mg W σ H (bor env e (denE call e env)) fun d => ∀ v H', Same H H' → RpB O H' v d → Q v H'
def tT (e : ST) : TT := fun σ H Q => ∃ env O, ER H0 O0 env O σ H ∧ fin mg W σ H (denT call e env) fun b => ∀ H', Same H H' → Q b H'
def tAs (as : SA) : TA := fun σ H Q => ∃ env O, ER H0 O0 env O σ H ∧ fin mg W σ H (denA call as env) fun ds => ∀ vs H', Same H H' → RpAll (cut H' O) vs ds → Q vs H'
def tPo (o : SO) : TO := fun σ H Q => ∃ env O, ER H0 O0 env O σ H ∧ fin mg W σ H (denO call o env) fun i => ∀ H', Same H H' → Q i H'
def tC' (c : SC) : TT := fun σ H Q => ∃ env O, ER H0 O0 env O σ H ∧ fin mg W σ H (denC call c env) fun b => ∀ H', Same H H' → Q b H'
/-- a walk over items -/
structure ItOk (J : It) (G F : Hp) (items : List D) : Prop where
  goes : ∀ i H, i < items.length → Same G H → J.go i H
  stops : ∀ H, Same G H → J.stop items.length H
  yields : ∀ i H x H' d O, items[i]? = some d → OIn O H → Same G H → Same F (cut H O) → J.yld i H x H' → Same H H' ∧ Rp (cut H' O) x d
/-- loop: nothing that is owned is walked -/
def tI (loop : Bool) (it : SI) : TI := fun σ H R => ∃ env O, ER H0 O0 env O σ H ∧ fin mg W σ H (denI call loop it env) fun items => ∀ J H', Same H H' → ItOk J (if loop = true then cut H' O else H') (cut H' O) items → R J H'
/-- what a def promises -/
def spD (f : Nat) (ps : List Str) : Sp := fun vs H Q E => ∃ O ds, vs.length = ps.length ∧ OIn O H ∧ RpAll (cut H O) vs ds ∧ match call f ds with
  | .ok r => ∀ v H', Post O H r v H' → Q v H'
  | .exc c => ∀ C H', Same H H' → mg c = some (.ref C) → E (.ref C) none H'
  | .stuck => False
end
structure Th (cf : Cf) (call : Nat → List D → Rs Rv) (n : Nat) (W : WX) (X : Cx) : Prop where
  hK : X.K = KF.K
  nd : X.N.Nodup
  calm : X.calm = true
  room : Room n X.A
  blt : ∀ x, cf.bn.contains x = true → X.mg x = none
  gi : ∀ x i, cf.gi.contains (x, i) = true → ∃ t, X.mg x = some (.int i t)
  gs : ∀ x s, cf.gs.contains (x, s) = true → ∃ t, X.mg x = some (.str s t)
  fns : ∀ f x, cf.fn[f]? = some x → ∃ a fd ps, X.mg x = some (.ref a) ∧ PySem.W.keepIn X.K (.ref a) = true ∧ Binds X.K fd ps [] ∧ FnOk X.prog X.w X.K X.mg X.base (L2.CX X.prog X.w) n a fd ps (spD X.mg call f ps) ∧ ∀ ds : List D, ds.length ≠ ps.length → call f ds = .stuck
  tk : Takes X W
theorem pe_mono {X : Cx} {e : Expr} {t t' : TE} (h : PE X e t) (i : ∀ σ H Q, t' σ H Q → t σ H Q) : PE X e t' := ⟨fun pins s σ H Q I q => h.run pins s σ H Q I (i σ H Q q)⟩
theorem pt_mono {X : Cx} {e : Expr} {t t' : TT} (h : PT X e t) (i : ∀ σ H Q, t' σ H Q → t σ H Q) : PT X e t' := ⟨fun pins s σ H Q I q => h.run pins s σ H Q I (i σ H Q q)⟩
theorem pw_mono {X : Cx} {e : Expr} {t t' : TT} (h : PW X e t) (i : ∀ σ H Q, t' σ H Q → t σ H Q) : PW X e t' := ⟨fun wh pins s σ H Q I q => h.run wh pins s σ H Q I (i σ H Q q)⟩
theorem pa_mono {X : Cx} {e : List Expr} {t t' : TA} (h : PA X e t) (i : ∀ σ H Q, t' σ H Q → t σ H Q) : PA X e t' := ⟨fun pos pins s σ H Q I q => h.run pos pins s σ H Q I (i σ H Q q)⟩
theorem po_mono {X : Cx} {e : Option Expr} {t t' : TO} (h : PO X e t) (i : ∀ σ H Q, t' σ H Q → t σ H Q) : PO X e t' := ⟨fun pins s σ H Q I q => h.run pins s σ H Q I (i σ H Q q)⟩
theorem vis_of {sc : Scope} {x : Str} (h : visB sc x = true) : Vis sc x := by
  unfold visB at h
  unfold Vis
  split at h
  · rename_i e; exact .inl e
  · rename_i e; exact .inr (.inl e)
  · rename_i e; exact .inr (.inr e)
  · cases h
theorem gl_of {X : Cx} {x : Str} (h : glB X.env.scope x = true) : Gl X x := by
  unfold glB at h
  unfold Gl Env.kindOf
  split at h
  · assumption
  · cases h
theorem star_of {e : Expr} {es : List Expr} {env : Env} (h : noStar e = true) : starEach (e :: es) env = (false, eval e env) :: starEach es env := by
  cases e <;> first | rfl | cases h
section
variable {X : Cx} {call : Nat → List D → Rs Rv} {W : WX} {H0 : Hp} {O0 : AP1}
theorem er_var {env : En} {O : AP1} {σ : St} {H : Hp} {i : Nat} {d : D} (er : ER H0 O0 env O σ H) (e : getS env i = some (.sh d)) : ∃ v, σ[i]? = some (some v) ∧ Rp (cut H O) v d := er.sh i d e
/-- borrowed -/
theorem sB_of {e : SE} {ex : Expr} (h : PE X ex (tE X.mg call W H0 O0 e)) (hv : ∀ i, e = .var i → PE X ex (tVar i)) : PE X ex (tB X.mg call W H0 O0 e) := by
  by_cases q : ∃ i, e = .var i
  · obtain ⟨i, rfl⟩ := q
    refine pe_mono (hv i rfl) fun σ H Q ⟨env, O, er, f⟩ => ?_
    simp only [bor] at f
    cases g : getS env i with
    | none => rw [g] at f; exact f.elim
    | some s => cases s with
      | sh d =>
        rw [g] at f
        obtain ⟨v, h1, h2⟩ := er.sh i d g
        exact ⟨v, h1, f v H (Same.refl H) (.inl h2)⟩
      | ow o => cases o with
        | lst ds =>
          rw [g] at f
          obtain ⟨l, ho, h1, h2, h3, h4, h5⟩ := er.ow i _ g
          cases h5 with
          | lst r => exact ⟨.ref l, h1, f _ H (Same.refl H) (.inr ⟨l, _, ds, rfl, h4, r, rfl⟩)⟩
        | dK _ => rw [g] at f; exact f.elim
        | dT _ => rw [g] at f; exact f.elim
  · refine pe_mono h fun σ H Q ⟨env, O, er, f⟩ => ⟨env, O, er, ?_⟩
    have f : fin X.mg W σ H ((denE call e env).bind fun r => Rs.ofO r.toD?) fun d => ∀ v H', Same H H' → RpB O H' v d → Q v H' := by
      cases e with
      | var i => exact absurd ⟨i, rfl⟩ q
      | _ => exact f
    refine f.bind.imp fun r hr v H' p => ?_
    cases g : r.toD? with
    | none => rw [g] at hr; exact hr.elim
    | some d =>
      rw [g] at hr
      exact hr v H' p.1 (.inl (p.rp er.own g))
end
end PP

namespace PP
open PySem L2
variable [KF]

/-! ### slots that are set -/
theorem getS_set {env : En} {i j : Nat} {x : Option Sl} : getS (env.set i x) j = if i = j ∧ i < env.length then x else getS env j := by
  unfold getS
  rw [List.getD_eq_getElem?_getD, List.getD_eq_getElem?_getD, List.getElem?_set]
  by_cases h : i = j
  · subst h
    by_cases q : i < env.length
    · simp [q]
    · simp [q]
  · simp [h]
theorem st_set {σ : St} {i j : Nat} {x : Option V} : (σ.set i x)[j]? = if i = j ∧ i < σ.length then some x else σ[j]? := by
  rw [List.getElem?_set]
  by_cases h : i = j
  · subst h
    by_cases q : i < σ.length
    · simp [q]
    · simp [q]
  · simp [h]
section
variable {H0 : Hp} {O0 O O' : AP1} {env : En} {σ : St} {H H' : Hp}
theorem ER.set (e : ER H0 O0 env O σ H) {i : Nat} {v : V} {d : D} (r : Rp (cut H O) v d) : ER H0 O0 (env.set i (some (.sh d))) O (σ.set i (some v)) H := by
  refine ⟨by rw [List.length_set, List.length_set]; exact e.len, e.sub, e.in0, e.own, e.same, fun j c h => ?_, fun j o h => ?_, fun j k o o' l h1 h2 h3 h4 => ?_⟩
  · rw [getS_set] at h
    rw [st_set, e.len]
    by_cases q : i = j ∧ i < env.length
    · rw [if_pos q] at h ⊢; cases h; exact ⟨v, rfl, r⟩
    · rw [if_neg q] at h ⊢; exact e.sh j c h
  · rw [getS_set] at h
    rw [st_set, e.len]
    by_cases q : i = j ∧ i < env.length
    · rw [if_pos q] at h; cases h
    · rw [if_neg q] at h ⊢; exact e.ow j o h
  · rw [getS_set] at h1 h2
    rw [st_set, e.len] at h3 h4
    by_cases q : i = j ∧ i < env.length
    · rw [if_pos q] at h1; cases h1
    · by_cases q' : i = k ∧ i < env.length
      · rw [if_pos q'] at h2; cases h2
      · rw [if_neg q] at h1 h3
        rw [if_neg q'] at h2 h4
        exact e.inj j k o o' l h1 h2 h3 h4
/-- a slot forgotten -/
theorem ER.forget (e : ER H0 O0 env O σ H) (i : Nat) {x : Option V} : ER H0 O0 (env.set i none) O (σ.set i x) H := by
  refine ⟨by rw [List.length_set, List.length_set]; exact e.len, e.sub, e.in0, e.own, e.same, fun j c h => ?_, fun j o h => ?_, fun j k o o' l h1 h2 h3 h4 => ?_⟩
  · rw [getS_set] at h
    rw [st_set, e.len]
    by_cases q : i = j ∧ i < env.length
    · rw [if_pos q] at h; cases h
    · rw [if_neg q] at h ⊢; exact e.sh j c h
  · rw [getS_set] at h
    rw [st_set, e.len]
    by_cases q : i = j ∧ i < env.length
    · rw [if_pos q] at h; cases h
    · rw [if_neg q] at h ⊢; exact e.ow j o h
  · rw [getS_set] at h1 h2
    rw [st_set, e.len] at h3 h4
    by_cases q : i = j ∧ i < env.length
    · rw [if_pos q] at h1; cases h1
    · by_cases q' : i = k ∧ i < env.length
      · rw [if_pos q'] at h2; cases h2
      · rw [if_neg q] at h1 h3
        rw [if_neg q'] at h2 h4
        exact e.inj j k o o' l h1 h2 h3 h4
theorem ER.wipe (e : ER H0 O0 env O σ H) : ∀ vs : List Nat, ER H0 O0 (wipeE env vs) O (L2.wipe σ vs) H
  | [] => e
  | v :: vs => (e.wipe vs).forget v
/-- more is owned, the rest stays -/
theorem ER.move (e : ER H0 O0 env O σ H) (hs : ∀ a, O a → O' a) (ho : OIn O' H') (s : Same H H') (sc : Same (cut H O) (cut H' O')) : ER H0 O0 env O' σ H' :=
  ⟨e.len, fun a h => hs a (e.sub a h), e.in0, ho, e.same.trans s, fun i d h => by obtain ⟨v, h1, h2⟩ := e.sh i d h; exact ⟨v, h1, h2.mono sc⟩,
    fun i o h => by obtain ⟨l, hh, h1, h2, h3, h4, h5⟩ := e.ow i o h; exact ⟨l, hh, h1, hs _ h2, h3, s _ _ h4, h5.mono sc⟩, e.inj⟩
end
theorem wipe_eq : ∀ {vs : List Nat} {σ σ' : St}, σ'.length = σ.length → (∀ k, k ∉ vs → σ'[k]? = σ[k]?) → L2.wipe σ' vs = L2.wipe σ vs := by
  intro vs σ σ' hl h
  apply List.ext_getElem?
  intro k
  have all : ∀ (us : List Nat) (τ : St), (L2.wipe τ us)[k]? = if k ∈ us ∧ k < τ.length then some none else τ[k]? := by
    intro us
    induction us with
    | nil => intro τ; simp [L2.wipe]
    | cons v us ih =>
      intro τ
      unfold L2.wipe
      rw [st_set, ih, wipe_length]
      by_cases q : v = k
      · subst q
        by_cases z : v < τ.length <;> simp [z]
      · have : ¬ k = v := fun e => q e.symm
        simp [q, this]
  rw [all, all, hl]
  by_cases q : k ∈ vs
  · by_cases z : k < σ.length
    · rw [if_pos ⟨q, z⟩, if_pos ⟨q, z⟩]
    · rw [if_neg (fun y => z y.2), if_neg (fun y => z y.2), List.getElem?_eq_none (by omega), List.getElem?_eq_none (by omega)]
  · rw [if_neg (fun y => q y.1), if_neg (fun y => q y.1)]
    exact h k q

/-! ### targets -/
def gsN : List Nat → TGs
  | [] => gNil
  | i :: r => gCons (gName i) (gsN r)
def nmB (N : List Str) (sc : Scope) (fn : Bool) (p : Nat × Expr) : Bool := match p.2 with
  | .Name x _ => N[p.1]? == some x && (match sc.names.lookup x with | some .local => true | some .cell => fn | _ => false)
  | _ => false
theorem pg_of {X : Cx} {i : Nat} {e : Expr} {fn : Bool} (nd : X.N.Nodup) (hf : fn = true → ∀ x, X.fn x = true) (h : nmB X.N X.env.scope fn (i, e) = true) : PG X e (gName i) := by
  unfold nmB at h
  cases e with
  | Name x pos =>
    simp only [Bool.and_eq_true, beq_iff_eq] at h
    obtain ⟨h1, h2⟩ := h
    split at h2
    · rename_i q; exact pg_name nd h1 (.inl q) (.inr q)
    · rename_i q; exact pg_name nd h1 (.inr q) (.inl (hf h2 x))
    · cases h2
  | _ => cases h
theorem assignEach_name {e : Expr} {es : List Expr} {env : Env} {N : List Str} {sc : Scope} {fn : Bool} {i : Nat} (h : nmB N sc fn (i, e) = true) : assignEach (e :: es) env = (false, assign e env) :: assignEach es env := by
  cases e <;> first | rfl | cases h
theorem pgs_of {X : Cx} {fn : Bool} (nd : X.N.Nodup) (hf : fn = true → ∀ x, X.fn x = true) : ∀ (is : List Nat) (es : List Expr), is.length = es.length → (is.zip es).all (nmB X.N X.env.scope fn) = true →
    PGs X es (gsN is) ∧ (assignEach es X.env).length = is.length ∧ (assignEach es X.env).findIdx? (·.1) = none
  | [], [], _, _ => ⟨pgs_nil, rfl, rfl⟩
  | [], _ :: _, h, _ => by cases h
  | _ :: _, [], h, _ => by cases h
  | i :: is, e :: es, hl, h => by
    rw [List.zip_cons_cons, List.all_cons, Bool.and_eq_true] at h
    obtain ⟨p, q1, q2⟩ := pgs_of nd hf is es (by simpa using hl) h.2
    have a := assignEach_name (es := es) (env := X.env) h.1
    refine ⟨pgs_cons (pg_of nd hf h.1) p (by rw [a]; rfl), by rw [a, List.length_cons, q1, List.length_cons], ?_⟩
    rw [a, List.findIdx?_cons]
    simp [q2]
/-- a target's reading -/
def tG (H0 : Hp) (O0 : AP1) (tg : List Nat) : TG := fun v σ H Q => ∃ env O d env', ER H0 O0 env O σ H ∧ Rp (cut H O) v d ∧ setT tg d env = .ok env' ∧
  ∀ σ', σ'.length = σ.length → (∀ k, k ∉ tg → σ'[k]? = σ[k]?) → ER H0 O0 env' O σ' H → Q σ' H
theorem gsN_run {H0 : Hp} {O0 O : AP1} {H : Hp} : ∀ (is : List Nat) (vs : List V) (ds : List D) (env : En) (σ : St) (Q : St → Hp → Prop), ER H0 O0 env O σ H → RpAll (cut H O) vs ds → ds.length = is.length →
    (∀ σ', σ'.length = σ.length → (∀ k, k ∉ is → σ'[k]? = σ[k]?) → ER H0 O0 ((is.zip ds).foldl (fun e p => e.set p.1 (some (.sh p.2))) env) O σ' H → Q σ' H) → gsN is vs σ H Q
  | [], _, [], env, σ, Q, er, r, _, q => by
    cases r
    exact ⟨rfl, q σ rfl (fun _ _ => rfl) er⟩
  | [], _, _ :: _, _, _, _, _, _, h, _ => by cases h
  | _ :: _, _, [], _, _, _, _, _, h, _ => by cases h
  | i :: is, _, d :: ds, env, σ, Q, er, r, hl, q => by
    cases r with
    | cons r rr =>
      refine ⟨_, _, rfl, ?_⟩
      refine gsN_run is _ ds (env.set i (some (.sh d))) (σ.set i (some _)) Q (er.set r) rr (by simpa using hl) fun σ' hl' ho er' => q σ' (by rw [hl', List.length_set]) (fun k hk => ?_) er'
      simp only [List.mem_cons, not_or] at hk
      rw [ho k hk.2, st_set, if_neg (fun z => hk.1 z.1.symm)]
theorem setTs_ok {is : List Nat} {d : D} {env env' : En} (h : setTs is d env = .ok env') : ∃ ds, d = .tuple ds ∧ ds.length = is.length ∧ env' = (is.zip ds).foldl (fun e p => e.set p.1 (some (.sh p.2))) env := by
  cases d with
  | tuple ds =>
    unfold setTs at h
    by_cases c : ds.length = is.length
    · simp only [if_pos c] at h; cases h; exact ⟨ds, rfl, c, rfl⟩
    · simp only [if_neg c] at h; cases h
  | _ => cases h
theorem setT_more {tg : List Nat} {d : D} {env env' : En} (hne : ∀ i, tg ≠ [i]) (h : setT tg d env = .ok env') : ∃ ds, d = .tuple ds ∧ ds.length = tg.length ∧ env' = (tg.zip ds).foldl (fun e p => e.set p.1 (some (.sh p.2))) env := by
  rcases tg with _ | ⟨i, _ | ⟨j, r⟩⟩
  · exact setTs_ok h
  · exact absurd rfl (hne i)
  · exact setTs_ok h
theorem pg_tg {X : Cx} {H0 : Hp} {O0 : AP1} {fn : Bool} {tg : List Nat} {e : Expr} (nd : X.N.Nodup) (hc : X.calm = true) (hf : fn = true → ∀ x, X.fn x = true) (h : tgB X.N X.env.scope fn tg e = true) : PG X e (tG H0 O0 tg) := by
  have one : ∀ {i : Nat}, tg = [i] → nmB X.N X.env.scope fn (i, e) = true → PG X e (tG H0 O0 tg) := fun {i} et hn => by
    subst et
    refine ⟨fun pins s σ H v u Q I r hw => ?_⟩
    obtain ⟨env, O, d, env', er, rp, es, q⟩ := hw
    cases es
    refine (pg_of nd hf hn).run pins s σ H v u Q I r (q _ (List.length_set) (fun k hk => ?_) (er.set rp))
    rw [st_set, if_neg (fun z => hk (by simp [z.1]))]
  have more : ∀ {es : List Expr} {k : Nat} {pos : Pos}, e = .Tuple es k pos → (∀ i, tg ≠ [i]) → tg.length = es.length → (tg.zip es).all (nmB X.N X.env.scope fn) = true → PG X e (tG H0 O0 tg) := fun {es k pos} ee ht hl hn => by
    subst ee
    obtain ⟨p, q1, q2⟩ := pgs_of nd hf tg es hl hn
    refine ⟨fun pins s σ H v u Q I r hw => ?_⟩
    obtain ⟨env, O, d, env', er, rp, est, q⟩ := hw
    have ed := setT_more ht est
    obtain ⟨ds, rfl, hd, rfl⟩ := ed
    cases rp with
    | tup h1 r1 => exact (pg_tup hc p q1 q2).run pins s σ H _ u Q I r ⟨_, _, rfl, SqT.of (cut_sub H O _ _ h1), by rw [r1.length]; exact hd, gsN_run tg _ ds env σ Q er r1 hd q⟩
  rcases tg with _ | ⟨i, _ | ⟨j, r⟩⟩
  · cases e with
    | Tuple es k pos =>
      simp only [tgB, Bool.and_eq_true, beq_iff_eq] at h
      exact more rfl (fun i z => by cases z) h.1 h.2
    | _ => cases h
  · refine one rfl ?_
    cases e <;> first | exact h | cases h
  · cases e with
    | Tuple es k pos =>
      simp only [tgB, Bool.and_eq_true, beq_iff_eq] at h
      exact more rfl (fun i z => by cases z) h.1 h.2
    | _ => cases h

/-! ### comprehensions, turn by turn -/
theorem compGo_take {f : D → Rs (Option D)} : ∀ {xs : List D} {l : List D}, compGo f xs = .ok l → ∀ (i : Nat) (x : D), xs[i]? = some x →
    ∃ ds o, compGo f (xs.take i) = .ok ds ∧ f x = .ok o ∧ compGo f (xs.take (i + 1)) = .ok (ds ++ o.toList) ∧ (ds ++ o.toList).length ≤ l.length
  | [], _, _, _, _, h => by simp at h
  | y :: r, l, e, i, x, h => by
    unfold compGo at e
    cases q : f y with
    | ok o =>
      rw [q] at e
      have key : ∃ l', compGo f r = .ok l' ∧ l = o.toList ++ l' := by
        cases o with
        | some d =>
          simp only at e
          cases q2 : compGo f r with
          | ok l' => rw [q2] at e; cases e; exact ⟨l', rfl, rfl⟩
          | exc c => rw [q2] at e; cases e
          | stuck => rw [q2] at e; cases e
        | none => exact ⟨l, e, rfl⟩
      obtain ⟨l', e', rfl⟩ := key
      have cons : ∀ {zs : List D} {m : List D}, compGo f zs = .ok m → compGo f (y :: zs) = .ok (o.toList ++ m) := fun {zs m} g => by
        unfold compGo
        rw [q]
        cases o with
        | some d => simp only [g]; rfl
        | none => exact g
      cases i with
      | zero =>
        simp at h
        subst h
        refine ⟨[], o, rfl, q, ?_, ?_⟩
        · have := cons (zs := []) (m := []) rfl
          simpa using this
        · simp
      | succ i =>
        obtain ⟨ds, o', h1, h2, h3, h4⟩ := compGo_take e' i x (by simpa using h)
        refine ⟨o.toList ++ ds, o', by rw [List.take_succ_cons]; exact cons h1, h2, by rw [List.take_succ_cons, List.append_assoc]; exact cons h3, ?_⟩
        simp only [List.append_assoc, List.length_append] at h4 ⊢
        omega
    | exc c => rw [q] at e; cases e
    | stuck => rw [q] at e; cases e
end PP

namespace PP
open PySem L2
variable [KF]
section
variable {X : Cx} {call : Nat → List D → Rs Rv} {W : WX} {H0 : Hp} {O0 : AP1} {cf : Cf} {n : Nat}
theorem Th.blt_of (T : Th cf call n W X) {x y : Str} (h : bltB cf X.env.scope x y = true) : x = y ∧ X.mg x = none ∧ Gl X x := by
  unfold bltB at h
  simp only [Bool.and_eq_true, beq_iff_eq] at h
  exact ⟨h.1.1, T.blt x h.1.2, gl_of h.2⟩
theorem ndb_of {x : Str} (h : ndb x = true) : (x == ("__debug__" : Str)) = false := by
  unfold ndb at h
  simpa using h
/-- a list that is walked -/
theorem itok_list {K : PySem.W.Frag} {a : Addr} {xs : List V} {ds : List D} {G F : Hp} (hq : SqL K G a xs) (r : RpAll F xs ds) : ItOk (Itl K a) G F ds where
  goes := fun i H hi s => ⟨xs, xs[i]'(by rw [r.length]; exact hi), s.seq hq, by simp [r.length, hi]⟩
  stops := fun H s => ⟨xs, s.seq hq, by rw [r.length]; exact Nat.le_refl _⟩
  yields := fun i H x H' d O e _ s sf y => by
    obtain ⟨e1, y⟩ := y
    subst e1
    obtain ⟨d', h1, h2⟩ := r.getV (y xs (s.seq hq))
    rw [e] at h1
    cases h1
    exact ⟨Same.refl _, h2.mono sf⟩
theorem same_tup {K : PySem.W.Frag} {H H' : Hp} {a : Addr} {xs : List V} (e : Same H H') (h : SqT K H a xs) : SqT K H' a xs := by
  rcases h with (h | ⟨o, h⟩) | h
  · exact .inl (.inl (e _ _ h))
  · exact .inl (.inr ⟨o, e _ _ h⟩)
  · exact .inr h
theorem itok_tup {K : PySem.W.Frag} {a : Addr} {xs : List V} {ds : List D} {G F : Hp} (hq : SqT K G a xs) (r : RpAll F xs ds) : ItOk (Itt K a) G F ds where
  goes := fun i H hi s => ⟨xs, xs[i]'(by rw [r.length]; exact hi), same_tup s hq, by simp [r.length, hi]⟩
  stops := fun H s => ⟨xs, same_tup s hq, by rw [r.length]; exact Nat.le_refl _⟩
  yields := fun i H x H' d O e _ s sf y => by
    obtain ⟨e1, y⟩ := y
    subst e1
    obtain ⟨d', h1, h2⟩ := r.getV (y xs (same_tup s hq))
    rw [e] at h1
    cases h1
    exact ⟨Same.refl _, h2.mono sf⟩
theorem itok_str {z : Str} {G F : Hp} : ItOk (Its z) G F (z.cps.toList.map fun c => .str ⟨#[c]⟩) where
  goes := fun i H hi _ => by show i < z.cps.size; simpa using hi
  stops := fun H _ => by show z.cps.size ≤ _; simp
  yields := fun i H x H' d O e _ _ _ y => by
    obtain ⟨e1, c, h1, h2⟩ := y
    subst e1 h2
    rw [List.getElem?_map, Array.getElem?_toList, h1] at e
    cases e
    exact ⟨Same.refl _, .str _⟩
theorem rgD_length (a b : Int) : (rgD a b).length = (b - a).toNat := by unfold rgD; rw [List.length_map, List.length_range]
theorem itok_range {a b : Int} {G F : Hp} : ItOk (Itr a (b - a).toNat) G F (rgD a b) where
  goes := fun i H hi _ => by rw [rgD_length] at hi; exact hi
  stops := fun H _ => by show (b - a).toNat ≤ _; rw [rgD_length]; exact Nat.le_refl _
  yields := fun i H x H' d O e _ _ _ y => by
    obtain ⟨e1, h1⟩ := y
    subst e1 h1
    unfold rgD at e
    rw [List.getElem?_map] at e
    cases q : (List.range (b - a).toNat)[i]? with
    | none => rw [q] at e; cases e
    | some k =>
      rw [q] at e
      cases e
      have : k = i := by
        have := List.getElem?_eq_some_iff.mp q
        obtain ⟨h, e⟩ := this
        simpa using e.symm
      subst this
      exact ⟨Same.refl _, .int _⟩
theorem rgD_map (a b : Int) {H : Hp} : RpAll H (rgV a b) (rgD a b) := by
  unfold rgV rgD
  generalize List.range (b - a).toNat = l
  induction l with
  | nil => exact .nil
  | cons x r ih => exact .cons (.int _) ih
theorem rg_ok {a b : Int} (h : rgOk a b = true) : RgOk a b := by
  unfold rgOk at h
  simp only [Bool.and_eq_true, decide_eq_true_eq] at h
  exact ⟨h.1.1.1.1, h.1.1.1.2, h.1.1.2, h.1.2, h.2⟩
/-- things that are walked by their data -/
theorem pi_data {tg e : Expr} {it : SI} {a : SE} {loop : Bool} (hK : X.K = KF.K) (hit : it = .of a) (hE : PE X e (tE X.mg call W H0 O0 a)) (hB : PE X e (tB X.mg call W H0 O0 a)) : PI X tg e (tI X.mg call W H0 O0 loop it) := by
  subst hit
  refine ⟨fun pins s σ H R I h => ?_⟩
  obtain ⟨env, O, er, f⟩ := h
  -- a borrowed thing, by its kind
  have go : ∀ (t : TE) (d : D) (items : List D), PE X e t → itemsD d = .ok items →
      (∀ Q : VK, (∀ v H', Same H H' → RpB O H' v d → (loop = true → Rp (cut H' O) v d) → Q v H') → t σ H Q) → (∀ J H', Same H H' → ItOk J (if loop = true then cut H' O else H') (cut H' O) items → R J H') →
      wpAny (model X.prog X.w) X.A (eval e X.env) (fun v s1 => wpAny (model X.prog X.w) X.A (pyIter v) (PIE X pins σ tg R) X.xe s1) X.xe s := fun t d items pt hi ht hR => by
    cases d with
    | list ds =>
      cases hi
      refine (pi_list (tg := tg) pt).run pins s σ H R I (ht _ fun v H' s1 rb rl => ?_)
      obtain ⟨l, xs, rfl, h1, r1⟩ := rb.list
      refine ⟨l, rfl, ⟨xs, SqL.of h1⟩, hR _ H' s1 (itok_list ?_ r1)⟩
      by_cases c : loop = true
      · rw [if_pos c]
        have q := rl c
        cases q with
        | lst h2 r2 =>
          have := cut_sub H' O _ _ h2
          rw [h1] at this
          cases this
          exact SqL.of h2
      · rw [if_neg c]; exact SqL.of h1
    | tuple ds =>
      cases hi
      refine (pi_tup (tg := tg) pt).run pins s σ H R I (ht _ fun v H' s1 rb rl => ?_)
      have q := rb.tupRp
      cases q with
      | tup h1 r1 =>
        refine ⟨_, rfl, ⟨_, SqT.of (cut_sub H' O _ _ h1)⟩, hR _ H' s1 (itok_tup ?_ r1)⟩
        by_cases c : loop = true
        · rw [if_pos c]; exact SqT.of h1
        · rw [if_neg c]; exact SqT.of (cut_sub H' O _ _ h1)
    | str z =>
      cases hi
      refine (pi_str (tg := tg) pt).run pins s σ H R I (ht _ fun v H' s1 rb rl => ?_)
      cases rb.str
      exact ⟨z, rfl, hR _ H' s1 itok_str⟩
    | dict kvs =>
      have hk : ∃ ds, kvs = [(.none, .list ds)] ∧ items = ds := by
        unfold itemsD at hi
        split at hi
        · rename_i z; cases z
        · rename_i z; cases z
        · rename_i ds z; cases z; cases hi; exact ⟨_, rfl, rfl⟩
        · rename_i z; cases z
        · cases hi
      obtain ⟨ds, rfl, rfl⟩ := hk
      refine (pi_list (tg := tg) pt).run pins s σ H R I (ht _ fun v H' s1 rb rl => ?_)
      have q : Rp (cut H' O) v (.dict [(.none, .list items)]) := by
        rcases rb with q | ⟨_, _, _, _, _, _, z⟩
        · exact q
        · cases z
      cases q with
      | scr h1 r1 =>
        have h1 := h1
        rw [← hK] at h1
        have h1' := (cut_sub H' O).seq h1
        refine ⟨_, rfl, ⟨_, h1'⟩, hR _ H' s1 (itok_list ?_ r1)⟩
        by_cases c : loop = true
        · rw [if_pos c]; exact h1
        · rw [if_neg c]; exact h1'
    | _ => cases hi
  by_cases c : loop = true
  · simp only [denI, if_pos c] at f
    cases hr : denE call a env with
    | ok r =>
      rw [hr] at f
      cases hd : r.toD? with
      | none => have f : fin X.mg W σ H ((Rs.ofO r.toD?).bind fun d => itemsD d) _ := f; rw [hd] at f; exact f.elim
      | some d =>
        have f : fin X.mg W σ H ((Rs.ofO r.toD?).bind fun d => itemsD d) _ := f
        rw [hd] at f
        obtain ⟨items, e1, hR⟩ := f.nox (nox_items d)
        refine go _ d items hE e1 (fun Q hQ => ⟨env, O, er, ?_⟩) (fun J H' s' k => hR J H' s' (by rw [if_pos c] at k; exact k))
        rw [hr]
        intro v H' p
        exact hQ v H' p.1 (.inl (p.rp er.own hd)) fun _ => p.rp er.own hd
    | exc c' =>
      rw [hr] at f
      refine (pi_list (tg := tg) hE).run pins s σ H R I ⟨env, O, er, ?_⟩
      rw [hr]
      exact f
    | stuck => rw [hr] at f; exact f.elim
  · simp only [denI, if_neg c] at f
    cases hr : bor env a (denE call a env) with
    | ok d =>
      rw [hr] at f
      obtain ⟨items, e1, hR⟩ := f.nox (nox_items d)
      refine go _ d items hB e1 (fun Q hQ => ⟨env, O, er, ?_⟩) (fun J H' s' k => hR J H' s' (by rw [if_neg c] at k; exact k))
      rw [hr]
      intro v H' s1 p
      exact hQ v H' s1 p fun z => absurd z c
    | exc c' =>
      rw [hr] at f
      refine (pi_list (tg := tg) hB).run pins s σ H R I ⟨env, O, er, ?_⟩
      rw [hr]
      exact f
    | stuck => rw [hr] at f; exact f.elim
/-- a comprehension's reading -/
theorem lc_read {mg : Str → Option Value} {elt : SE} {tg : List Nat} {it : SI} {c : SC} {own : List (Str × Nat)} (ho : tg.all (fun k => (own.map (·.2)).contains k) = true) {σ : St} {H : Hp} {Q : VK}
    (h : tE mg call W H0 O0 (.comp elt tg it c own) σ H Q) : tLc (tI mg call W H0 O0 false it) (tG H0 O0 tg) (tC' mg call (fun _ _ _ _ => False) H0 O0 c) (tE mg call (fun _ _ _ _ => False) H0 O0 elt) (own.map (·.2)) σ H Q := by
  obtain ⟨env, O, er, f⟩ := h
  refine ⟨env, O, er, ?_⟩
  simp only [denE] at f
  refine f.bind.imp fun items hf J H1 s1 ok Dd hD => ?_
  generalize hfun : compF (fun d => setT tg d (wipeE env (own.map (·.2)))) (fun e => denC call c e) (fun e => denE call elt e) = F at hf
  rw [if_neg Bool.false_ne_true] at ok
  -- the whole list
  have hl : ∃ l, compGo F items = .ok l ∧ l.length ≤ line ∧ ∀ v H', Post O H (.fr (.lst l)) v H' → Q v H' := by
    have nx : ∀ xs : List D, NoX (compGo F xs) := by
      intro xs
      induction xs with
      | nil => exact nox_ok
      | cons x r ih =>
        unfold compGo
        cases F x with
        | ok o => cases o with
          | some d => exact ih.bind fun _ => nox_ok
          | none => exact ih
        | exc c => exact nox_stuck
        | stuck => exact nox_stuck
    obtain ⟨l, e1, q⟩ := hf.bind.nox (nx items)
    by_cases z : l.length ≤ line
    · rw [if_pos z] at q; exact ⟨l, e1, z, q⟩
    · rw [if_neg z] at q; exact q.elim
  obtain ⟨l, el, hll, hQ⟩ := hl
  have er1 := er.later s1
  let Pv : Nat → Hp → Prop := fun i H' => ∃ acc ds, H' Dd = some (.lst acc) ∧ compGo F (items.take i) = .ok ds ∧ RpAll (cut H' (ins O Dd)) acc ds ∧ Same H1 H'
  refine ⟨fun i m H' => m = items.length - i ∧ i ≤ items.length ∧ Pv i H', ⟨items.length, by simp, Nat.zero_le _, [], [], upd_same, rfl, .nil, same_new hD _⟩, ?_⟩
  rintro i m H2 ⟨rfl, hle, acc, ds, hacc, hds, racc, s2⟩
  have own2 : OIn (ins O Dd) H2 := fun a z => by
    rcases z with z | z
    · rw [z]; exact ⟨_, hacc⟩
    · exact er1.own.later s2 a z
  have sc2 : ∀ {H3 : Hp}, Same H1 H3 → Same (cut H1 O) (cut H3 (ins O Dd)) := fun {H3} s3 a o q => by
    refine cut_of (s3 _ _ (cut_some q).1) fun z => ?_
    rcases z with z | z
    · have q' := (cut_some q).1
      rw [z, hD] at q'; cases q'
    · exact (cut_some q).2 z
  by_cases hlt : i < items.length
  · refine .inr ⟨ok.goes i H2 hlt s2, Pv (i + 1), fun H' p' => ⟨items.length - (i + 1), by omega, rfl, hlt, p'⟩, fun x H3 y => ?_⟩
    have hd : items[i]? = some items[i] := by simp [hlt]
    obtain ⟨s3, rx⟩ := ok.yields i H2 x H3 _ (ins O Dd) hd own2 s2 (sc2 s2) y
    obtain ⟨ds', o, g1, g2, g3, g4⟩ := compGo_take el i _ hd
    rw [hds] at g1
    cases g1
    rw [← hfun] at g2
    simp only [compF] at g2
    cases q1 : setT tg items[i] (wipeE env (own.map (·.2))) with
    | exc c => rw [q1] at g2; cases g2
    | stuck => rw [q1] at g2; cases g2
    | ok e2 =>
      rw [q1] at g2
      simp only at g2
      have er3 : ER H0 O0 (wipeE env (own.map (·.2))) (ins O Dd) (L2.wipe σ (own.map (·.2))) H3 := (er1.wipe _).move (fun a z => .inr z) (own2.later s3) (s2.trans s3) (sc2 (s2.trans s3))
      refine ⟨_, ins O Dd, _, e2, er3, rx, q1, fun σ' hl' hk er4 => ⟨?_, e2, ins O Dd, er4, ?_⟩⟩
      · have w1 := wipe_eq (vs := own.map (·.2)) hl' fun k hkn => hk k fun z => hkn (by
          have := List.all_eq_true.mp ho k z
          simpa using this)
        rw [w1]
        refine wipe_eq (wipe_length σ _) fun k hkn => ?_
        exact wipe_out hkn
      · cases q2 : denC call c e2 with
        | exc c => rw [q2] at g2; cases g2
        | stuck => rw [q2] at g2; cases g2
        | ok b =>
          rw [q2] at g2
          show ∀ H', _
          intro H4 s4
          cases b with
          | false =>
            cases g2
            rw [if_neg Bool.false_ne_true]
            refine ⟨acc, ds, s4 _ _ (s3 _ _ hacc), by simpa using g3, racc.mono (cut_same (s3.trans s4)), s2.trans (s3.trans s4)⟩
          | true =>
            rw [if_pos rfl]
            refine ⟨e2, ins O Dd, er4.later s4, ?_⟩
            cases q3 : denE call elt e2 with
            | exc c => rw [q3] at g2; cases g2
            | stuck => rw [q3] at g2; cases g2
            | ok r =>
              rw [q3] at g2
              have g2 : (Rs.ofO r.toD?).bind (fun d => .ok (some d)) = .ok o := g2
              cases q4 : r.toD? with
              | none => rw [q4] at g2; cases g2
              | some dd =>
                rw [q4] at g2
                cases g2
                intro v H5 p5
                have ry := p5.rp (er4.later s4).own q4
                have s5 := s3.trans (s4.trans p5.1)
                have hD5 : H5 Dd = some (.lst acc) := s5 _ _ hacc
                refine ⟨acc, hD5, ?_, acc ++ [v], ds ++ [dd], upd_same, by simpa using g3, ?_, fun b o hb => ?_⟩
                · have : acc.length = ds.length := racc.length
                  simp at g4
                  have := line_eq
                  omega
                · rw [cut_upd (show ins O Dd Dd from .inl rfl)]
                  exact (racc.mono (cut_same s5)).append (.cons ry .nil)
                · have : b ≠ Dd := fun z => by rw [z, hD] at hb; cases hb
                  rw [upd_ne this]
                  exact (s2.trans s5) _ _ hb
  · have e : i = items.length := by omega
    subst e
    refine .inl ⟨ok.stops H2 s2, hQ _ _ ⟨s1.trans s2, Dd, _, rfl, s1.free hD, hacc, ?_⟩⟩
    rw [List.take_length, el] at hds
    cases hds
    exact .lst racc
/-- a comprehension, from its parts -/
theorem s_comp {elt : SE} {tg : List Nat} {it : SI} {c : SC} {own : List (Str × Nat)} {e t i : Expr} {fs : List Expr} {scope : Scope} {pos : Pos} (T : Th cf call n W X) (hb : blkC X.N X.env.scope scope own = true)
    (hi : PI X t i (tI X.mg call W H0 O0 false it)) (hg : ∀ (s : Shared) (H : Hp) (C : Addr) (cl : List (Str × Addr)) (fp : List Addr), PG (X.blk s H scope (compEnvC scope cl C X.env) fp) t (tG H0 O0 tg))
    (ht : ∀ (s : Shared) (H : Hp) (C : Addr) (cl : List (Str × Addr)) (fp : List Addr), PTs (X.blk s H scope (compEnvC scope cl C X.env) fp) fs (tC' X.mg call (fun _ _ _ _ => False) H0 O0 c))
    (he : ∀ (s : Shared) (H : Hp) (C : Addr) (cl : List (Str × Addr)) (fp : List Addr), PE (X.blk s H scope (compEnvC scope cl C X.env) fp) e (tE X.mg call (fun _ _ _ _ => False) H0 O0 elt))
    (hs : noSet i = true) (ho : tg.all (fun k => (own.map (·.2)).contains k) = true) : PE X (.ListComp e [⟨t, i, fs, 0⟩] scope pos) (tE X.mg call W H0 O0 (.comp elt tg it c own)) :=
  pe_mono (pe_lc T.calm T.nd hi (blkOk_by hb) hg ht he (fun x => by cases i <;> first | rfl | cases hs)) fun σ H Q h => lc_read ho h
end
end PP

namespace PP
open PySem L2
variable [KF]
/-- within a comprehension's block -/
theorem Th.blk {X : Cx} {call : Nat → List D → Rs Rv} {W : WX} {cf : Cf} {n : Nat} (T : Th cf call n W X) (s : Shared) (H : Hp) (scope : Scope) (cenv : Env) (fp : List Addr) :
    Th cf call n (fun _ _ _ _ => False) (X.blk s H scope cenv fp) := ⟨T.hK, T.nd, T.calm, T.room, T.blt, T.gi, T.gs, T.fns, takes0⟩
theorem any_star {es : List Expr} {as : SA} {cf : Cf} {N : List Str} {sc : Scope} {pos : Pos} {env : Env} (h : mtA cf N sc as es = true) : (backTo pos (starEach es env)).any (·.1) = false := by
  induction es generalizing as with
  | nil => rfl
  | cons e es ih =>
    cases as with
    | nil => cases h
    | cons a r =>
      simp only [mtA, Bool.and_eq_true] at h
      rw [star_of h.1.2]
      show (false || (backTo pos (starEach es env)).any (·.1)) = false
      rw [ih h.2]; rfl
theorem mtE_star {cf : Cf} {N : List Str} {sc : Scope} {e : SE} {x : Expr} {p : Pos} : mtE cf N sc e (.Starred x p) = false := by
  cases e <;> simp [mtE]
theorem Th.hu {X : Cx} {call : Nat → List D → Rs Rv} {W : WX} {cf : Cf} {n : Nat} (T : Th cf call n W X) : X.A.units + 65 < cLine := by have := T.room.un; omega
section
variable {call : Nat → List D → Rs Rv} {H0 : Hp} {O0 : AP1} {cf : Cf} {n : Nat}
/-- what has been borrowed stays -/
theorem pv_of {X : Cx} {W : WX} {i : Nat} {ex : Expr} (h : mtE cf X.N X.env.scope (.var i) ex = true) : PE X ex (tVar i) := by
  cases ex with
  | Name x pos =>
    simp only [mtE, Bool.and_eq_true, beq_iff_eq] at h
    exact pe_var h.1.1.1 (vis_of h.1.1.2) (ndb_of h.1.2) (by simpa using h.2)
  | _ => simp [mtE] at h
theorem sB {X : Cx} {W : WX} {e : SE} {ex : Expr} (h : PE X ex (tE X.mg call W H0 O0 e)) (m : mtE cf X.N X.env.scope e ex = true) : PE X ex (tB X.mg call W H0 O0 e) :=
  sB_of h fun i ei => by subst ei; exact pv_of (W := W) m
theorem lenSet_inv {cf : Cf} {N : List Str} {sc : Scope} {a : SE} {ex : Expr} (h : mtE cf N sc (.lenSet a) ex = true) : ∃ x p y p2 l q pos, ex = .Call (.Name x p) [.Call (.Name y p2) [l] [] q] [] pos ∧
    mtE cf N sc (.lenSet a) (.Call (.Name x p) [.Call (.Name y p2) [l] [] q] [] pos) = true := by
  have h' := h
  unfold mtE at h
  split at h <;> first
    | (rename_i q; cases q; done)
    | (rename_i q; cases q; exact ⟨_, _, _, _, _, _, _, rfl, h'⟩)
    | cases h
mutual
theorem sE : ∀ (e : SE) (ex : Expr) (X : Cx) (W : WX), Th cf call n W X → mtE cf X.N X.env.scope e ex = true → PE X ex (tE X.mg call W H0 O0 e)
  | .var i, ex, X, W, T, h => by
    refine pe_mono (pv_of (W := W) h) fun σ H Q ⟨env, O, er, f⟩ => ?_
    simp only [denE] at f
    cases g : getS env i with
    | none => rw [g] at f; exact f.elim
    | some s => cases s with
      | sh d =>
        rw [g] at f
        obtain ⟨v, h1, h2⟩ := er.sh i d g
        exact ⟨v, h1, f v H (post_sh h2)⟩
      | ow o => rw [g] at f; exact f.elim
  | .non, ex, X, W, T, h => by
    cases ex with
    | Constant c k pos => cases c with
      | none => exact pe_mono pe_non fun σ H Q ⟨env, O, er, f⟩ => f _ H (post_sh .non)
      | _ => simp [mtE] at h
    | _ => simp [mtE] at h
  | .bl b, ex, X, W, T, h => by
    cases ex with
    | Constant c k pos => cases c with
      | bool b' =>
        simp only [mtE, beq_iff_eq] at h
        subst h
        exact pe_mono pe_bl fun σ H Q ⟨env, O, er, f⟩ => f _ H (post_sh (.bl _))
      | _ => simp [mtE] at h
    | _ => simp [mtE] at h
  | .int i, ex, X, W, T, h => by
    cases ex with
    | Constant c k pos => cases c with
      | int b' =>
        simp only [mtE, beq_iff_eq] at h
        subst h
        exact pe_mono pe_int fun σ H Q ⟨env, O, er, f⟩ => f _ H (post_sh (.int _))
      | _ => simp [mtE] at h
    | _ => simp [mtE] at h
  | .str i, ex, X, W, T, h => by
    cases ex with
    | Constant c k pos => cases c with
      | str b' =>
        simp only [mtE, beq_iff_eq] at h
        subst h
        exact pe_mono pe_str fun σ H Q ⟨env, O, er, f⟩ => f _ H (post_sh (.str _))
      | _ => simp [mtE] at h
    | _ => simp [mtE] at h
  | .gint x i, ex, X, W, T, h => by
    cases ex with
    | Name y pos =>
      simp only [mtE, Bool.and_eq_true, beq_iff_eq] at h
      obtain ⟨⟨⟨rfl, h1⟩, h2⟩, h3⟩ := h
      obtain ⟨t, ht⟩ := T.gi x i h1
      exact pe_mono (pe_glob (v := .int i) (gl_of h2) ht ⟨t, rfl⟩ (ndb_of h3)) fun σ H Q ⟨env, O, er, f⟩ => f _ H (post_sh (.int _))
    | _ => simp [mtE] at h
  | .gstr x i, ex, X, W, T, h => by
    cases ex with
    | Name y pos =>
      simp only [mtE, Bool.and_eq_true, beq_iff_eq] at h
      obtain ⟨⟨⟨rfl, h1⟩, h2⟩, h3⟩ := h
      obtain ⟨t, ht⟩ := T.gs x i h1
      exact pe_mono (pe_glob (v := .str i) (gl_of h2) ht ⟨t, rfl⟩ (ndb_of h3)) fun σ H Q ⟨env, O, er, f⟩ => f _ H (post_sh (.str _))
    | _ => simp [mtE] at h
  | .bin o a b, ex, X, W, T, h => by
    cases ex with
    | BinOp l p r pos =>
      simp only [mtE, Bool.and_eq_true, beq_iff_eq] at h
      obtain ⟨⟨rfl, h1⟩, h2⟩ := h
      refine pe_mono (pe_op (op_bin o) (sB (sE a l X W T h1) h1) (sB (sE b r X W T h2) h2)) fun σ H Q ⟨env, O, er, f⟩ => ⟨env, O, er, ?_⟩
      simp only [denE] at f
      refine f.bind.imp fun x hx v H1 s1 r1 => ⟨env, O, er.later s1, ?_⟩
      refine (hx.later s1).bind.imp fun y hy u H2 s2 r2 => ⟨O, x, y, er.own.later (s1.trans s2), r1.later s2, r2, ?_⟩
      exact hy.wants (nox_bin o x y) (s1.trans s2)
    | _ => simp [mtE] at h
  | .neg a, ex, X, W, T, h => by
    cases ex with
    | UnaryOp op l pos =>
      cases op with
      | USub =>
        simp only [mtE] at h
        refine pe_mono (pe_un un_neg (sB (sE a l X W T h) h)) fun σ H Q ⟨env, O, er, f⟩ => ⟨env, O, er, ?_⟩
        simp only [denE] at f
        refine f.bind.imp fun x hx v H1 s1 r1 => ?_
        cases x with
        | int i => cases r1.int; exact ⟨i, rfl, hx _ H1 ⟨s1, .int _⟩⟩
        | _ => exact hx.elim
      | _ => simp [mtE] at h
    | _ => simp [mtE] at h
  | .cmp o a b, ex, X, W, T, h => by
    cases ex with
    | Compare l ops rs pos =>
      match ops, rs, h with
      | [p], [r], h =>
        simp only [mtE, Bool.and_eq_true, beq_iff_eq, Bool.not_eq_true'] at h
        obtain ⟨⟨⟨rfl, h1⟩, h2⟩, h3⟩ := h
        refine pe_mono (pe_cmpR (op_cmp T.hu o) (sB (sE a l X W T h1) h1) (sB (sE b r X W T h2) h2) h3) fun σ H Q ⟨env, O, er, f⟩ => ⟨env, O, er, ?_⟩
        simp only [denE] at f
        refine f.bind.imp fun x hx v H1 s1 r1 => ⟨env, O, er.later s1, ?_⟩
        refine (hx.later s1).bind.imp fun y hy u H2 s2 r2 => ⟨O, x, y, r1.later s2, r2, ?_⟩
        obtain ⟨k, e, q⟩ := hy.bind.nox (nox_cmp o x y)
        rw [e]
        exact q _ H2 ⟨s1.trans s2, .bl _⟩
      | [], _, h => simp [mtE] at h
      | [_], [], h => simp [mtE] at h
      | [_], _ :: _ :: _, h => simp [mtE] at h
      | _ :: _ :: _, _, h => simp [mtE] at h
    | _ => simp [mtE] at h
  | .chain o o2 a b c, ex, X, W, T, h => by
    cases ex with
    | Compare l ops rs pos =>
      match ops, rs, h with
      | [p, p2], [r, r2], h =>
        simp only [mtE, Bool.and_eq_true, beq_iff_eq, Bool.not_eq_true'] at h
        obtain ⟨⟨⟨⟨⟨⟨rfl, rfl⟩, h1⟩, h2⟩, h3⟩, h4⟩, h5⟩ := h
        refine pe_mono (pe_chain (op_cmp T.hu o) (op_cmp T.hu o2) (sB (sE a l X W T h1) h1) (sB (sE b r X W T h2) h2) (sB (sE c r2 X W T h3) h3) h5) fun σ H Q ⟨env, O, er, f⟩ => ⟨env, O, er, ?_⟩
        simp only [denE] at f
        refine f.bind.imp fun x hx v H1 s1 r1 => ⟨env, O, er.later s1, ?_⟩
        refine (hx.later s1).bind.imp fun y hy u H2 s2 r2 => ⟨O, x, y, r1.later s2, r2, ?_⟩
        obtain ⟨k, e, q⟩ := hy.bind.nox (nox_cmp o x y)
        rw [e]
        refine ⟨k, rfl, ?_⟩
        cases k with
        | false =>
          rw [if_neg Bool.false_ne_true] at q ⊢
          exact q _ H2 ⟨s1.trans s2, .bl _⟩
        | true =>
          rw [if_pos rfl] at q ⊢
          refine ⟨env, O, er.later (s1.trans s2), ?_⟩
          refine ((q.later s2).bind).imp fun z hz w H3 s3 r3 => ⟨O, y, z, r2.later s3, r3, ?_⟩
          obtain ⟨k, e, q⟩ := hz.bind.nox (nox_cmp o2 y z)
          rw [e]
          exact q _ H3 ⟨s1.trans (s2.trans s3), .bl _⟩
      | [], _, h => simp [mtE] at h
      | [_], _, h => simp [mtE] at h
      | _ :: _ :: _ :: _, _, h => simp [mtE] at h
      | [_, _], [], h => simp [mtE] at h
      | [_, _], [_], h => simp [mtE] at h
      | [_, _], _ :: _ :: _ :: _, h => simp [mtE] at h
    | _ => simp [mtE] at h
  | .and a b, ex, X, W, T, h => by
    cases ex with
    | BoolOp op vs pos =>
      cases op with
      | And =>
        match vs, h with
        | l :: r :: rest, h =>
          simp only [mtE, Bool.and_eq_true] at h
          have hb : PE X (.BoolOp .And (r :: rest) pos) (tE X.mg call W H0 O0 b) := by
            cases rest with
            | nil => exact pe_one (sE b r X W T h.2)
            | cons r2 rest => exact sE b _ X W T h.2
          refine pe_mono (pe_and (sE a l X W T h.1) hb) fun σ H Q ⟨env, O, er, f⟩ => ⟨env, O, er, ?_⟩
          simp only [denE] at f
          refine f.bind.imp fun x hx v H1 p1 => ?_
          cases x with
          | fr o => exact hx.elim
          | sh d => cases d with
            | bool k =>
              have e : v = .bl k := by have := p1.2; cases this; rfl
              subst e
              refine ⟨k, rfl, ?_⟩
              cases k with
              | false => rw [if_neg Bool.false_ne_true]; exact hx _ H1 ⟨p1.1, .bl _⟩
              | true =>
                rw [if_pos rfl]
                exact ⟨env, O, er.later p1.1, (fin.later hx p1.1).imp fun r k v H' p => k v H' (post_back p1.1 p)⟩
            | _ => exact hx.elim
        | [], h => simp [mtE] at h
        | [_], h => simp [mtE] at h
      | Or => simp [mtE] at h
    | _ => simp [mtE] at h
  | .or a b, ex, X, W, T, h => by
    cases ex with
    | BoolOp op vs pos =>
      cases op with
      | Or =>
        match vs, h with
        | l :: r :: rest, h =>
          simp only [mtE, Bool.and_eq_true] at h
          have hb : PE X (.BoolOp .Or (r :: rest) pos) (tE X.mg call W H0 O0 b) := by
            cases rest with
            | nil => exact pe_one (sE b r X W T h.2)
            | cons r2 rest => exact sE b _ X W T h.2
          refine pe_mono (pe_or (sE a l X W T h.1) hb) fun σ H Q ⟨env, O, er, f⟩ => ⟨env, O, er, ?_⟩
          simp only [denE] at f
          refine f.bind.imp fun x hx v H1 p1 => ?_
          cases x with
          | fr o => exact hx.elim
          | sh d => cases d with
            | bool k =>
              have e : v = .bl k := by have := p1.2; cases this; rfl
              subst e
              refine ⟨k, rfl, ?_⟩
              cases k with
              | true => rw [if_pos rfl]; exact hx _ H1 ⟨p1.1, .bl _⟩
              | false =>
                rw [if_neg Bool.false_ne_true]
                exact ⟨env, O, er.later p1.1, (fin.later hx p1.1).imp fun r k v H' p => k v H' (post_back p1.1 p)⟩
            | _ => exact hx.elim
        | [], h => simp [mtE] at h
        | [_], h => simp [mtE] at h
      | And => simp [mtE] at h
    | _ => simp [mtE] at h
  | .not a, ex, X, W, T, h => by
    cases ex with
    | UnaryOp op l pos =>
      cases op with
      | Not =>
        simp only [mtE] at h
        refine pe_mono (pe_notT (sB (sE a l X W T h) h)) fun σ H Q ⟨env, O, er, f⟩ => ⟨env, O, er, ?_⟩
        simp only [denE] at f
        refine f.bind.imp fun x hx v H1 s1 r1 => ?_
        obtain ⟨k, e, q⟩ := hx.bind.nox (nox_tru x)
        exact ⟨k, tru_of r1.full e, q _ H1 ⟨s1, .bl _⟩⟩
      | _ => simp [mtE] at h
    | _ => simp [mtE] at h
  | .ite c a b, ex, X, W, T, h => by
    cases ex with
    | IfExp t l r pos =>
      simp only [mtE, Bool.and_eq_true] at h
      refine pe_mono (pe_ifExp (sT c t X W T h.1.1).1 (sE a l X W T h.1.2) (sE b r X W T h.2)) fun σ H Q ⟨env, O, er, f⟩ => ⟨env, O, er, ?_⟩
      simp only [denE] at f
      refine f.bind.imp fun k hk H1 s1 => ?_
      cases k with
      | true => rw [if_pos rfl] at hk ⊢; exact ⟨env, O, er.later s1, (fin.later hk s1).imp fun r k v H' p => k v H' (post_back s1 p)⟩
      | false => rw [if_neg Bool.false_ne_true] at hk ⊢; exact ⟨env, O, er.later s1, (fin.later hk s1).imp fun r k v H' p => k v H' (post_back s1 p)⟩
    | _ => simp [mtE] at h
  | .tup as, ex, X, W, T, h => by
    cases ex with
    | Tuple es k pos =>
      simp only [mtE] at h
      refine pe_mono (pe_tup (sA as es X W T h)) fun σ H Q ⟨env, O, er, f⟩ => ⟨env, O, er, ?_⟩
      simp only [denE] at f
      refine f.bind.imp fun ds hds vs H1 s1 r1 => ?_
      by_cases c : ds.length ≤ line
      · rw [if_pos c] at hds
        exact ⟨by rw [r1.length, ← line_eq]; exact c, fun p hp => hds _ _ (post_back s1 (post_tup (er.own.later s1) hp r1))⟩
      · rw [if_neg c] at hds; exact hds.elim
    | _ => simp [mtE] at h
  | .lst as, ex, X, W, T, h => by
    cases ex with
    | List es pos =>
      simp only [mtE] at h
      refine pe_mono (pe_lst (sA as es X W T h)) fun σ H Q ⟨env, O, er, f⟩ => ⟨env, O, er, ?_⟩
      simp only [denE] at f
      refine f.bind.imp fun ds hds vs H1 s1 r1 => ?_
      by_cases c : ds.length ≤ line
      · rw [if_pos c] at hds
        exact ⟨by rw [r1.length, ← line_eq]; exact c, fun p hp => hds _ _ (post_back s1 (post_lst hp r1))⟩
      · rw [if_neg c] at hds; exact hds.elim
    | _ => simp [mtE] at h
  | .ix a i, ex, X, W, T, h => by
    cases ex with
    | Subscript l r pos =>
      simp only [mtE, Bool.and_eq_true] at h
      refine pe_mono (pe_ix (ix_G T.hK) (sB (sE a l X W T h.1.1) h.1.1) (sB (sE i r X W T h.1.2) h.1.2) (fun o i => by cases r <;> first | rfl | (have := h.2; simp [notSlice] at this))) fun σ H Q ⟨env, O, er, f⟩ => ⟨env, O, er, ?_⟩
      simp only [denE] at f
      refine f.bind.imp fun x hx v H1 s1 r1 => ⟨env, O, er.later s1, ?_⟩
      refine (hx.later s1).bind.imp fun y hy u H2 s2 r2 => ⟨O, x, y, r1.later s2, r2, ?_⟩
      exact hy.wants (nox_ix x y) (s1.trans s2)
    | _ => simp [mtE] at h
  | .sl a lo hi, ex, X, W, T, h => by
    cases ex with
    | Subscript l s pos =>
      cases s with
      | Slice x y z p2 =>
        cases z with
        | none =>
          simp only [mtE, Bool.and_eq_true] at h
          refine pe_mono (pe_slice sl_G (sB (sE a l X W T h.1.1) h.1.1) (sO lo x X W T h.1.2) (sO hi y X W T h.2)) fun σ H Q ⟨env, O, er, f⟩ => ⟨env, O, er, ?_⟩
          simp only [denE] at f
          refine f.bind.imp fun x hx v H1 s1 r1 => ⟨env, O, er.later s1, ?_⟩
          refine (hx.later s1).bind.imp fun i hi H2 s2 => ⟨env, O, er.later (s1.trans s2), ?_⟩
          refine (hi.later s2).bind.imp fun j hj H3 s3 => ⟨O, x, er.own.later (s1.trans (s2.trans s3)), r1.later (s2.trans s3), ?_⟩
          exact hj.wants (nox_sl x i j) (s1.trans (s2.trans s3))
        | some z => simp [mtE] at h
      | _ => simp [mtE] at h
    | _ => simp [mtE] at h
  | .call f as, ex, X, W, T, h => by
    cases ex with
    | Call g es kws pos =>
      cases g with
      | Name x p =>
        match es, kws, h with
        | e :: es, [], h =>
          simp only [mtE, Bool.and_eq_true, beq_iff_eq] at h
          obtain ⟨⟨⟨h1, h2⟩, h3⟩, h4⟩ := h
          obtain ⟨a, fd, ps, g1, g2, g3, g4, g5⟩ := T.fns f x h1
          have hst : noStar e = true ∧ ∃ r, mtA cf X.N X.env.scope r es = true := by
            cases as with
            | nil => simp [mtA] at h4
            | cons a r => simp only [mtA, Bool.and_eq_true] at h4; exact ⟨h4.1.2, r, h4.2⟩
          obtain ⟨hst1, r', hst2⟩ := hst
          refine pe_mono (pe_callS (E := WE W) g4 T.room (gl_of h2) g1 g2 g3 (fun σ => passAt T.tk σ) (sA as (e :: es) X W T h4) (ndb_of h3) (star_of hst1) (any_star hst2)) fun σ H Q ⟨env, O, er, fi⟩ => ⟨env, O, er, ?_⟩
          simp only [denE] at fi
          refine fi.bind.imp fun ds hds vs H1 s1 r1 => ⟨O, ds, ?_, er.own.later s1, r1, ?_⟩
          · by_cases c : ds.length = ps.length
            · rw [r1.length]; exact c
            · rw [g5 ds c] at hds; exact hds.elim
          · cases q : call f ds with
            | ok r => rw [q] at hds; exact fun v H' p => hds v H' (post_back s1 p)
            | exc c => rw [q] at hds; exact fun C H' s' e => hds C H' (s1.trans s') e
            | stuck => rw [q] at hds; exact hds
        | [], _, h => simp [mtE] at h
        | _ :: _, _ :: _, h => simp [mtE] at h
      | _ => simp [mtE] at h
    | _ => simp [mtE] at h
  | .b1 b a, ex, X, W, T, h => by
    cases ex with
    | Call g es kws pos =>
      cases g with
      | Name x p =>
        match es, kws, h with
        | [l], [], h =>
          simp only [mtE, Bool.and_eq_true] at h
          obtain ⟨rfl, h1, h2⟩ := T.blt_of h.1
          have hns : noStar l = true := by
            cases l <;> first | rfl | (have := h.2; simp [mtE_star] at this)
          have ha : PA X [l] (tCons (tB X.mg call W H0 O0 a) tNil) := pa_cons (sB (sE a l X W T h.2) h.2) pa_nil (star_of hns)
          have pc : PE X (.Call (.Name b.name p) [l] [] pos) (tCB (rB1 b) (tCons (tB X.mg call W H0 O0 a) tNil)) := by
            have cb := call_b1 (X := X) T.calm T.hK b
            have bo := b.boot
            have fa := b.fair
            cases b with
            | len => exact pe_callB cb h2 h1 bo ha fa.1 fa.2 (star_of hns)
            | sum => exact pe_callB cb h2 h1 bo ha fa.1 fa.2 (star_of hns)
            | _ => exact pe_callTy cb h2 h1 bo ha fa.1 fa.2 (star_of hns)
          refine pe_mono pc fun σ H Q ⟨env, O, er, f⟩ => ⟨env, O, er, ?_⟩
          simp only [denE] at f
          exact f.bind.imp fun x hx v H1 s1 r1 => ⟨O, v, x, rfl, er.own.later s1, r1, hx.wants (nox_b1 b x) s1⟩
        | [], _, h => simp [mtE] at h
        | _ :: _ :: _, _, h => simp [mtE] at h
        | [_], _ :: _, h => simp [mtE] at h
      | _ => simp [mtE] at h
    | _ => simp [mtE] at h
  | .lenSet a, ex, X, W, T, h => by
    obtain ⟨x, p, y, p2, l, q, pos, rfl, h⟩ := lenSet_inv h
    simp only [mtE, Bool.and_eq_true] at h
    obtain ⟨⟨h0, h00⟩, hl⟩ := h
    obtain ⟨rfl, h1, h2⟩ := T.blt_of h0
    obtain ⟨rfl, h3, h4⟩ := T.blt_of h00
    have hns : noStar l = true := by
      cases l <;> first | rfl | (have := hl; simp [mtE_star] at this)
    refine pe_mono (pe_lenSetG T.calm h2 h1 h4 h3 (sB (sE a l X W T hl) hl) (star_of hns)) fun σ H Q ⟨env, O, er, f⟩ => ⟨env, O, er, ?_⟩
    simp only [denE] at f
    refine f.bind.imp fun x hx v H1 s1 r1 => ?_
    cases x with
    | list ds =>
      obtain ⟨l0, vs, rfl, k1, k2⟩ := r1.list
      simp only [lenSetD] at hx
      cases e : intsOf ds with
      | none => rw [e] at hx; exact hx.elim
      | some ns =>
        rw [e] at hx
        rw [intsOf_eq e] at k2
        rw [RpAll.ints_inv ns k2] at k1
        by_cases c : ns.length ≤ 1000
        · simp only [Rs.ofO, Rs.bind, if_pos c] at hx
          exact ⟨l0, ns, rfl, .inl (SqL.of k1), c, hx _ H1 ⟨s1, .int _⟩⟩
        · simp only [Rs.ofO, Rs.bind, if_neg c] at hx; exact hx.elim
    | tuple ds =>
      obtain ⟨l0, vs, rfl, k1, k2⟩ := r1.tup
      simp only [lenSetD] at hx
      cases e : intsOf ds with
      | none => rw [e] at hx; exact hx.elim
      | some ns =>
        rw [e] at hx
        rw [intsOf_eq e] at k2
        rw [RpAll.ints_inv ns k2] at k1
        by_cases c : ns.length ≤ 1000
        · simp only [Rs.ofO, Rs.bind, if_pos c] at hx
          exact ⟨l0, ns, rfl, .inr (SqT.of k1), c, hx _ H1 ⟨s1, .int _⟩⟩
        · simp only [Rs.ofO, Rs.bind, if_neg c] at hx; exact hx.elim
    | _ => exact hx.elim
  | .b2 b a c, ex, X, W, T, h => by
    cases ex with
    | Call g es kws pos =>
      cases g with
      | Name x p =>
        match es, kws, h with
        | [l, r], [], h =>
          simp only [mtE, Bool.and_eq_true] at h
          obtain ⟨⟨h0, hl⟩, hr⟩ := h
          obtain ⟨rfl, h1, h2⟩ := T.blt_of h0
          have hns : noStar l = true := by
            cases l <;> first | rfl | (have := hl; simp [mtE_star] at this)
          have hnr : noStar r = true := by
            cases r <;> first | rfl | (have := hr; simp [mtE_star] at this)
          have hrest : mtA cf X.N X.env.scope (.cons c .nil) [r] = true := by simp only [mtA, hr, hnr, Bool.and_self]
          have ha : PA X [l, r] (tCons (tB X.mg call W H0 O0 a) (tCons (tB X.mg call W H0 O0 c) tNil)) := pa_cons (sB (sE a l X W T hl) hl) (pa_cons (sB (sE c r X W T hr) hr) pa_nil (star_of hnr)) (star_of hns)
          have pc : PE X (.Call (.Name b.name p) [l, r] [] pos) (tCB (rB2 b) (tCons (tB X.mg call W H0 O0 a) (tCons (tB X.mg call W H0 O0 c) tNil))) := by
            have cb := call_b2 (X := X) T.calm b
            have bo := b.boot
            have fa := b.fair
            cases b with
            | max => exact pe_callB cb h2 h1 bo ha fa.1 fa.2 (star_of hns) (any_star hrest)
            | min => exact pe_callB cb h2 h1 bo ha fa.1 fa.2 (star_of hns) (any_star hrest)
          refine pe_mono pc fun σ H Q ⟨env, O, er, f⟩ => ⟨env, O, er, ?_⟩
          simp only [denE] at f
          refine f.bind.imp fun x hx v H1 s1 r1 => ⟨env, O, er.later s1, ?_⟩
          refine (hx.later s1).bind.imp fun y hy u H2 s2 r2 => ⟨O, v, u, x, y, rfl, er.own.later (s1.trans s2), r1.later s2, r2, ?_⟩
          exact hy.wants (nox_b2 b x y) (s1.trans s2)
        | [], _, h => simp [mtE] at h
        | [_], _, h => simp [mtE] at h
        | _ :: _ :: _ :: _, _, h => simp [mtE] at h
        | [_, _], _ :: _, h => simp [mtE] at h
      | _ => simp [mtE] at h
    | _ => simp [mtE] at h
  | .isin a t, ex, X, W, T, h => by
    cases ex with
    | Call g es kws pos =>
      cases g with
      | Name x p =>
        match es, kws, h with
        | [l, e2], [], h =>
          cases e2 with
          | Name y q =>
            simp only [mtE, Bool.and_eq_true] at h
            obtain ⟨⟨h0, h00⟩, hm⟩ := h
            obtain ⟨rfl, h1, h2⟩ := T.blt_of h0
            obtain ⟨rfl, h3, h4⟩ := T.blt_of h00
            have hns : noStar l = true := by
              cases l <;> first | rfl | (simp [mtE_star] at hm)
            have pt : PE X (.Name (Str.ofString t.name) q) (tC (.ty t.name)) := pe_bltn h4 h3 t.boot rfl (by cases t <;> decide) (by cases t <;> decide)
            refine pe_mono (pe_callB call_isi h2 h1 (by decide +kernel) (pa_cons (sB (sE a l X W T hm) hm) (pa_cons pt pa_nil) (star_of hns)) (by decide) (by decide) (star_of hns)) fun σ H Q ⟨env, O, er, f⟩ => ⟨env, O, er, ?_⟩
            simp only [denE] at f
            exact f.bind.imp fun x hx v H1 s1 r1 => ⟨v, .ty t.name, .type (tyN x), .type t.name, isinD t x, rfl, .ty _, (by rw [T.hK]; exact tyN_of r1.full), kit_ty (kit_D t x), hx _ H1 ⟨s1, .bl _⟩⟩
          | _ => simp [mtE] at h
        | [], _, h => simp [mtE] at h
        | [_], _, h => simp [mtE] at h
        | _ :: _ :: _ :: _, _, h => simp [mtE] at h
        | [_, e2], _ :: _, h => cases e2 <;> simp [mtE] at h
      | _ => simp [mtE] at h
    | _ => simp [mtE] at h
  | .listRg r, ex, X, W, T, h => by
    cases ex with
    | Call g es kws pos =>
      cases g with
      | Name x p =>
        match es, kws, h with
        | [l], [], h =>
          simp only [mtE, Bool.and_eq_true] at h
          obtain ⟨⟨h0, hm⟩, hns⟩ := h
          obtain ⟨rfl, h1, h2⟩ := T.blt_of h0
          have key := sRg r l X W T hm
          rcases key with ⟨a, rfl⟩ | pr
          · exact ⟨fun pins s σ H Q I ⟨env, O, er, f⟩ => by simp only [denE] at f; exact f.elim⟩
          · obtain ⟨hne, pr⟩ := pr
            refine pe_mono (pe_listRg T.calm h2 h1 pr (star_of hns)) fun σ H Q ⟨env, O, er, f⟩ => ⟨env, O, er, ?_⟩
            have f : fin X.mg W σ H ((denI call false r env).bind fun ds => .ok (.fr (.lst ds))) fun r => ∀ v H', Post O H r v H' → Q v H' := by
              cases r with
              | of a => exact absurd rfl (hne a)
              | _ => simpa only [denE] using f
            exact f.bind.imp fun ds hds i j H1 s1 ok e => ⟨rg_ok ok, fun q hq => hds _ _ (by subst e; exact post_back s1 (post_lst hq (rgD_map i j)))⟩
        | [], _, h => simp [mtE] at h
        | _ :: _ :: _, _, h => simp [mtE] at h
        | [_], _ :: _, h => simp [mtE] at h
      | _ => simp [mtE] at h
    | _ => simp [mtE] at h
  | .tupRg r, ex, X, W, T, h => by
    cases ex with
    | Call g es kws pos =>
      cases g with
      | Name x p =>
        match es, kws, h with
        | [l], [], h =>
          simp only [mtE, Bool.and_eq_true] at h
          obtain ⟨⟨h0, hm⟩, hns⟩ := h
          obtain ⟨rfl, h1, h2⟩ := T.blt_of h0
          have key := sRg r l X W T hm
          rcases key with ⟨a, rfl⟩ | pr
          · exact ⟨fun pins s σ H Q I ⟨env, O, er, f⟩ => by simp only [denE] at f; exact f.elim⟩
          · obtain ⟨hne, pr⟩ := pr
            refine pe_mono (pe_tupRg T.calm h2 h1 pr (star_of hns)) fun σ H Q ⟨env, O, er, f⟩ => ⟨env, O, er, ?_⟩
            have f : fin X.mg W σ H ((denI call false r env).bind fun ds => .ok (.sh (.tuple ds))) fun r => ∀ v H', Post O H r v H' → Q v H' := by
              cases r with
              | of a => exact absurd rfl (hne a)
              | _ => simpa only [denE] using f
            exact f.bind.imp fun ds hds i j H1 s1 ok e => ⟨rg_ok ok, fun q hq => hds _ _ (by subst e; exact post_back s1 (post_tup (er.own.later s1) hq (rgD_map i j)))⟩
        | [], _, h => simp [mtE] at h
        | _ :: _ :: _, _, h => simp [mtE] at h
        | [_], _ :: _, h => simp [mtE] at h
      | _ => simp [mtE] at h
    | _ => simp [mtE] at h
  | .comp elt tg it c own, ex, X, W, T, h => by
    cases ex with
    | ListComp e gs scope pos =>
      match gs, h with
      | [⟨t, i, fs, a⟩], h =>
        simp only [mtE, Bool.and_eq_true, beq_iff_eq] at h
        obtain ⟨⟨⟨⟨⟨⟨⟨rfl, hb⟩, hg⟩, hi⟩, hc⟩, he⟩, hs⟩, ho⟩ := h
        exact s_comp T hb (sI false it t i X W T hi) (fun s H C cl fp => pg_tg (fn := false) T.nd T.calm (fun z => nomatch z) hg) (fun s H C cl fp => sC c fs _ _ (T.blk s H scope (compEnvC scope cl C X.env) fp) hc)
          (fun s H C cl fp => sE elt e _ _ (T.blk s H scope (compEnvC scope cl C X.env) fp) he) hs ho
      | [], h => simp [mtE] at h
      | _ :: _ :: _, h => simp [mtE] at h
    | _ => simp [mtE] at h
theorem sT : ∀ (e : ST) (ex : Expr) (X : Cx) (W : WX), Th cf call n W X → mtT cf X.N X.env.scope e ex = true → PT X ex (tT X.mg call W H0 O0 e) ∧ ∀ op vs pos, ex = .BoolOp op vs pos → PW X ex (tT X.mg call W H0 O0 e)
  | .and a b, ex, X, W, T, h => by
    cases ex with
    | BoolOp op vs pos =>
      cases op with
      | And =>
        match vs, h with
        | l :: r :: rest, h =>
          simp only [mtT, Bool.and_eq_true] at h
          have hb : PW X (.BoolOp .And (r :: rest) pos) (tT X.mg call W H0 O0 b) := by
            cases rest with
            | nil => exact pw_and1 (sT b r X W T h.2).1
            | cons r2 rest => exact (sT b _ X W T h.2).2 _ _ _ rfl
          have key : PW X (.BoolOp .And (l :: r :: rest) pos) (tT X.mg call W H0 O0 (.and a b)) := by
            refine pw_mono (pw_and (sT a l X W T h.1).1 hb) fun σ H Q ⟨env, O, er, f⟩ => ⟨env, O, er, ?_⟩
            simp only [denT] at f
            refine f.bind.imp fun k hk H1 s1 => ?_
            cases k with
            | true => rw [if_pos rfl] at hk ⊢; exact ⟨env, O, er.later s1, (fin.later hk s1).imp fun b q H' p => q H' (s1.trans p)⟩
            | false => rw [if_neg Bool.false_ne_true] at hk ⊢; exact hk H1 s1
          exact ⟨key.pt, fun _ _ _ _ => key⟩
        | [], h => simp [mtT] at h
        | [_], h => simp [mtT] at h
      | Or => simp [mtT] at h
    | _ => simp [mtT] at h
  | .or a b, ex, X, W, T, h => by
    cases ex with
    | BoolOp op vs pos =>
      cases op with
      | Or =>
        match vs, h with
        | l :: r :: rest, h =>
          simp only [mtT, Bool.and_eq_true] at h
          have hb : PW X (.BoolOp .Or (r :: rest) pos) (tT X.mg call W H0 O0 b) := by
            cases rest with
            | nil => exact pw_or1 (sT b r X W T h.2).1
            | cons r2 rest => exact (sT b _ X W T h.2).2 _ _ _ rfl
          have key : PW X (.BoolOp .Or (l :: r :: rest) pos) (tT X.mg call W H0 O0 (.or a b)) := by
            refine pw_mono (pw_or (sT a l X W T h.1).1 hb) fun σ H Q ⟨env, O, er, f⟩ => ⟨env, O, er, ?_⟩
            simp only [denT] at f
            refine f.bind.imp fun k hk H1 s1 => ?_
            cases k with
            | false => rw [if_neg Bool.false_ne_true] at hk ⊢; exact ⟨env, O, er.later s1, (fin.later hk s1).imp fun b q H' p => q H' (s1.trans p)⟩
            | true => rw [if_pos rfl] at hk ⊢; exact hk H1 s1
          exact ⟨key.pt, fun _ _ _ _ => key⟩
        | [], h => simp [mtT] at h
        | [_], h => simp [mtT] at h
      | And => simp [mtT] at h
    | _ => simp [mtT] at h
  | .not a, ex, X, W, T, h => by
    cases ex with
    | UnaryOp op l pos =>
      cases op with
      | Not =>
        simp only [mtT] at h
        refine ⟨pt_mono (pt_not (sT a l X W T h).1) fun σ H Q ⟨env, O, er, f⟩ => ⟨env, O, er, ?_⟩, fun _ _ _ z => by cases z⟩
        simp only [denT] at f
        exact f.bind.imp fun k hk H1 s1 => hk H1 s1
      | _ => simp [mtT] at h
    | _ => simp [mtT] at h
  | .cmp o a b, ex, X, W, T, h => by
    cases ex with
    | Compare l ops rs pos =>
      match ops, rs, h with
      | [p], [r], h =>
        simp only [mtT, Bool.and_eq_true, beq_iff_eq, Bool.not_eq_true'] at h
        obtain ⟨⟨⟨rfl, h1⟩, h2⟩, h3⟩ := h
        refine ⟨pt_mono (pt_cmpR (op_cmp T.hu o) (sB (sE a l X W T h1) h1) (sB (sE b r X W T h2) h2) h3) fun σ H Q ⟨env, O, er, f⟩ => ⟨env, O, er, ?_⟩, fun _ _ _ z => by cases z⟩
        simp only [denT] at f
        refine f.bind.imp fun x hx v H1 s1 r1 => ⟨env, O, er.later s1, ?_⟩
        refine (hx.later s1).bind.imp fun y hy u H2 s2 r2 => ⟨O, x, y, r1.later s2, r2, ?_⟩
        obtain ⟨k, e, q⟩ := hy.nox (nox_cmp o x y)
        rw [e]
        exact ⟨k, rfl, q H2 (s1.trans s2)⟩
      | [], _, h => simp [mtT] at h
      | [_], [], h => simp [mtT] at h
      | [_], _ :: _ :: _, h => simp [mtT] at h
      | _ :: _ :: _, _, h => simp [mtT] at h
    | _ => simp [mtT] at h
  | .chain o o2 a b c, ex, X, W, T, h => by
    cases ex with
    | Compare l ops rs pos =>
      match ops, rs, h with
      | [p, p2], [r, r2], h =>
        simp only [mtT, Bool.and_eq_true, beq_iff_eq, Bool.not_eq_true'] at h
        obtain ⟨⟨⟨⟨⟨⟨rfl, rfl⟩, h1⟩, h2⟩, h3⟩, h4⟩, h5⟩ := h
        refine ⟨pt_mono (pt_chain (op_cmp T.hu o) (op_cmp T.hu o2) (sB (sE a l X W T h1) h1) (sB (sE b r X W T h2) h2) (sB (sE c r2 X W T h3) h3) h5) fun σ H Q ⟨env, O, er, f⟩ => ⟨env, O, er, ?_⟩, fun _ _ _ z => by cases z⟩
        simp only [denT] at f
        refine f.bind.imp fun x hx v H1 s1 r1 => ⟨env, O, er.later s1, ?_⟩
        refine (hx.later s1).bind.imp fun y hy u H2 s2 r2 => ⟨O, x, y, r1.later s2, r2, ?_⟩
        obtain ⟨k, e, q⟩ := hy.bind.nox (nox_cmp o x y)
        rw [e]
        refine ⟨k, rfl, ?_⟩
        cases k with
        | false =>
          rw [if_neg Bool.false_ne_true] at q ⊢
          exact ⟨false, rfl, q H2 (s1.trans s2)⟩
        | true =>
          rw [if_pos rfl] at q ⊢
          refine ⟨env, O, er.later (s1.trans s2), ?_⟩
          refine ((q.later s2).bind).imp fun z hz w H3 s3 r3 => ⟨O, y, z, r2.later s3, r3, ?_⟩
          obtain ⟨k, e, q⟩ := hz.nox (nox_cmp o2 y z)
          rw [e]
          exact ⟨k, rfl, q H3 (s1.trans (s2.trans s3))⟩
      | [], _, h => simp [mtT] at h
      | [_], _, h => simp [mtT] at h
      | _ :: _ :: _ :: _, _, h => simp [mtT] at h
      | [_, _], [], h => simp [mtT] at h
      | [_, _], [_], h => simp [mtT] at h
      | [_, _], _ :: _ :: _ :: _, h => simp [mtT] at h
    | _ => simp [mtT] at h
  | .tru e, ex, X, W, T, h => by
    simp only [mtT, Bool.and_eq_true] at h
    refine ⟨pt_mono (pt_truth (sB (sE e ex X W T h.2) h.2) (fun whole => ?_)) fun σ H Q ⟨env, O, er, f⟩ => ⟨env, O, er, ?_⟩, fun _ _ _ z => by subst z; simp [plainT] at h⟩
    · cases ex with
      | UnaryOp op l pos => cases op <;> first | rfl | (simp [plainT] at h)
      | BoolOp _ _ _ => simp [plainT] at h
      | Compare _ _ _ _ => simp [plainT] at h
      | IfExp _ _ _ _ => simp [plainT] at h
      | _ => rfl
    · simp only [denT] at f
      refine f.bind.imp fun x hx v H1 s1 r1 => ?_
      obtain ⟨k, e, q⟩ := hx.nox (nox_tru x)
      exact ⟨k, tru_of r1.full e, q H1 s1⟩
theorem sA : ∀ (as : SA) (es : List Expr) (X : Cx) (W : WX), Th cf call n W X → mtA cf X.N X.env.scope as es = true → PA X es (tAs X.mg call W H0 O0 as)
  | .nil, es, X, W, T, h => by
    cases es with
    | nil => exact pa_mono pa_nil fun σ H Q ⟨env, O, er, f⟩ => f [] H (Same.refl H) .nil
    | cons e es => simp [mtA] at h
  | .cons a r, es, X, W, T, h => by
    cases es with
    | nil => simp [mtA] at h
    | cons e es =>
      simp only [mtA, Bool.and_eq_true] at h
      refine pa_mono (pa_cons (sE a e X W T h.1.1) (sA r es X W T h.2) (star_of h.1.2)) fun σ H Q ⟨env, O, er, f⟩ => ⟨env, O, er, ?_⟩
      simp only [denA] at f
      refine f.bind.imp fun x hx v H1 p1 => ?_
      cases q : x.toD? with
      | none => rw [q] at hx; exact hx.elim
      | some d =>
        rw [q] at hx
        have hx : fin X.mg W σ H ((denA call r env).bind fun ds => .ok (d :: ds)) _ := hx
        refine ⟨env, O, er.later p1.1, ?_⟩
        exact ((fin.later hx p1.1).bind).imp fun ds hds vs H2 s2 r2 => hds (v :: vs) H2 (p1.1.trans s2) (.cons ((p1.rp er.own q).mono (cut_same s2)) r2)
theorem sO : ∀ (o : SO) (e : Option Expr) (X : Cx) (W : WX), Th cf call n W X → mtO cf X.N X.env.scope o e = true → PO X e (tPo X.mg call W H0 O0 o)
  | .no, e, X, W, T, h => by
    cases e with
    | none => exact po_mono po_none fun σ H Q ⟨env, O, er, f⟩ => f H (Same.refl H)
    | some e => simp [mtO] at h
  | .so a, e, X, W, T, h => by
    cases e with
    | none => simp [mtO] at h
    | some e =>
      simp only [mtO] at h
      refine po_mono (po_some (sB (sE a e X W T h) h)) fun σ H Q ⟨env, O, er, f⟩ => ⟨env, O, er, ?_⟩
      simp only [denO] at f
      refine f.bind.imp fun x hx v H1 s1 r1 => ?_
      cases x with
      | int i => cases r1.int; exact ⟨i, rfl, hx H1 s1⟩
      | _ => exact hx.elim
theorem sI : ∀ (loop : Bool) (it : SI) (tg e : Expr) (X : Cx) (W : WX), Th cf call n W X → mtI cf X.N X.env.scope it e = true → PI X tg e (tI X.mg call W H0 O0 loop it)
  | loop, .of a, tg, e, X, W, T, h => pi_data T.hK rfl (sE a e X W T h) (sB (sE a e X W T h) h)
  | loop, .range1 a, tg, e, X, W, T, h => by
    cases e with
    | Call g es kws pos =>
      cases g with
      | Name x p =>
        match es, kws, h with
        | [l], [], h =>
          simp only [mtI, Bool.and_eq_true] at h
          obtain ⟨rfl, h1, h2⟩ := T.blt_of h.1.1
          have pi := pi_range1 (tg := tg) (p := p) (pos := pos) h2 h1 (pa_cons (sB (sE a l X W T h.1.2) h.1.2) pa_nil (star_of h.2)) (star_of h.2)
          refine ⟨fun pins s σ H R I ⟨env, O, er, f⟩ => pi.run pins s σ H R I ⟨env, O, er, ?_⟩⟩
          simp only [denI] at f
          refine f.bind.imp fun x hx v H1 s1 r1 => ?_
          cases x with
          | int i =>
            cases r1.int
            have hx : fin X.mg W σ H (if rgOk 0 i = true then .ok (rgD 0 i) else .stuck) _ := hx
            by_cases c : rgOk 0 i = true
            · rw [if_pos c] at hx
              obtain ⟨_, _, b3, b4, _⟩ := rg_ok c
              have := hx (Itr 0 i.toNat) H1 s1 (by have := itok_range (a := 0) (b := i) (G := if loop = true then cut H1 O else H1) (F := cut H1 O); rw [Int.sub_zero] at this; exact this)
              exact ⟨i, rfl, b3, b4, this⟩
            · rw [if_neg c] at hx; exact hx.elim
          | _ => exact hx.elim
        | [], _, h => simp [mtI] at h
        | _ :: _ :: _, _, h => simp [mtI] at h
        | [_], _ :: _, h => simp [mtI] at h
      | _ => simp [mtI] at h
    | _ => simp [mtI] at h
  | loop, .range2 a b, tg, e, X, W, T, h => by
    cases e with
    | Call g es kws pos =>
      cases g with
      | Name x p =>
        match es, kws, h with
        | [l, r], [], h =>
          simp only [mtI, Bool.and_eq_true] at h
          obtain ⟨⟨⟨⟨h0, ha⟩, hna⟩, hb⟩, hnb⟩ := h
          obtain ⟨rfl, h1, h2⟩ := T.blt_of h0
          have pi := pi_range2 (tg := tg) (p := p) (pos := pos) h2 h1 (pa_cons (sB (sE a l X W T ha) ha) (pa_cons (sB (sE b r X W T hb) hb) pa_nil (star_of hnb)) (star_of hna)) (by rw [star_of hna, star_of hnb]; rfl) (star_of hnb)
          refine ⟨fun pins s σ H R I ⟨env, O, er, f⟩ => pi.run pins s σ H R I ⟨env, O, er, ?_⟩⟩
          simp only [denI] at f
          refine f.bind.imp fun x hx v H1 s1 r1 => ⟨env, O, er.later s1, ?_⟩
          refine (hx.later s1).bind.imp fun y hy u H2 s2 r2 => ?_
          cases x with
          | int i => cases y with
            | int j =>
              cases r1.int; cases r2.int
              have hy : fin X.mg W σ H1 (if rgOk i j = true then .ok (rgD i j) else .stuck) _ := hy
              by_cases c : rgOk i j = true
              · rw [if_pos c] at hy
                obtain ⟨b1, b2, b3, b4, _⟩ := rg_ok c
                exact ⟨i, j, rfl, ⟨b1, b2, b3, b4⟩, hy _ H2 (s1.trans s2) itok_range⟩
              · rw [if_neg c] at hy; exact hy.elim
            | _ => exact hy.elim
          | _ => exact hy.elim
        | [], _, h => simp [mtI] at h
        | [_], _, h => simp [mtI] at h
        | _ :: _ :: _ :: _, _, h => simp [mtI] at h
        | [_, _], _ :: _, h => simp [mtI] at h
      | _ => simp [mtI] at h
    | _ => simp [mtI] at h
theorem sRg : ∀ (it : SI) (e : Expr) (X : Cx) (W : WX), Th cf call n W X → mtI cf X.N X.env.scope it e = true → (∃ a, it = .of a) ∨ ((∀ a, it ≠ .of a) ∧
    PRg X e fun σ H Q => ∃ env O, ER H0 O0 env O σ H ∧ fin X.mg W σ H (denI call false it env) fun ds => ∀ i j H', Same H H' → rgOk i j = true → ds = rgD i j → Q i j H')
  | .of a, e, X, W, T, h => .inl ⟨a, rfl⟩
  | .range1 a, e, X, W, T, h => by
    refine .inr ⟨(fun _ z => by cases z), ?_⟩
    cases e with
    | Call g es kws pos =>
      cases g with
      | Name x p =>
        match es, kws, h with
        | [l], [], h =>
          simp only [mtI, Bool.and_eq_true] at h
          obtain ⟨rfl, h1, h2⟩ := T.blt_of h.1.1
          intro pins s σ H Q I ⟨env, O, er, f⟩
          refine prg_1 (p := p) (pos := pos) h2 h1 (sB (sE a l X W T h.1.2) h.1.2) (star_of h.2) pins s σ H Q I ⟨env, O, er, ?_⟩
          simp only [denI] at f
          refine f.bind.imp fun x hx v H1 s1 r1 => ?_
          cases x with
          | int i =>
            cases r1.int
            have hx : fin X.mg W σ H (if rgOk 0 i = true then .ok (rgD 0 i) else .stuck) _ := hx
            by_cases c : rgOk 0 i = true
            · rw [if_pos c] at hx
              exact ⟨i, rfl, hx 0 i H1 s1 c rfl⟩
            · rw [if_neg c] at hx; exact hx.elim
          | _ => exact hx.elim
        | [], _, h => simp [mtI] at h
        | _ :: _ :: _, _, h => simp [mtI] at h
        | [_], _ :: _, h => simp [mtI] at h
      | _ => simp [mtI] at h
    | _ => simp [mtI] at h
  | .range2 a b, e, X, W, T, h => by
    refine .inr ⟨(fun _ z => by cases z), ?_⟩
    cases e with
    | Call g es kws pos =>
      cases g with
      | Name x p =>
        match es, kws, h with
        | [l, r], [], h =>
          simp only [mtI, Bool.and_eq_true] at h
          obtain ⟨⟨⟨⟨h0, ha⟩, hna⟩, hb⟩, hnb⟩ := h
          obtain ⟨rfl, h1, h2⟩ := T.blt_of h0
          intro pins s σ H Q I ⟨env, O, er, f⟩
          refine prg_2 (p := p) (pos := pos) h2 h1 (sB (sE a l X W T ha) ha) (sB (sE b r X W T hb) hb) (star_of hna) (star_of hnb) (by rw [star_of hnb]; rfl) pins s σ H Q I ⟨env, O, er, ?_⟩
          simp only [denI] at f
          refine f.bind.imp fun x hx v H1 s1 r1 => ⟨env, O, er.later s1, ?_⟩
          refine (hx.later s1).bind.imp fun y hy u H2 s2 r2 => ?_
          cases x with
          | int i => cases y with
            | int j =>
              cases r1.int; cases r2.int
              have hy : fin X.mg W σ H1 (if rgOk i j = true then .ok (rgD i j) else .stuck) _ := hy
              by_cases c : rgOk i j = true
              · rw [if_pos c] at hy
                exact ⟨i, j, rfl, rfl, hy i j H2 (s1.trans s2) c rfl⟩
              · rw [if_neg c] at hy; exact hy.elim
            | _ => exact hy.elim
          | _ => exact hy.elim
        | [], _, h => simp [mtI] at h
        | [_], _, h => simp [mtI] at h
        | _ :: _ :: _ :: _, _, h => simp [mtI] at h
        | [_, _], _ :: _, h => simp [mtI] at h
      | _ => simp [mtI] at h
    | _ => simp [mtI] at h
theorem sC : ∀ (c : SC) (fs : List Expr) (X : Cx) (W : WX), Th cf call n W X → mtC cf X.N X.env.scope c fs = true → PTs X fs (tC' X.mg call W H0 O0 c)
  | .no, fs, X, W, T, h => by
    cases fs with
    | nil => exact ⟨fun pins s σ H Q I ⟨env, O, er, f⟩ => pts_nil.run pins s σ H Q I (f H (Same.refl H))⟩
    | cons e es => simp [mtC] at h
  | .so c, fs, X, W, T, h => by
    match fs, h with
    | [e], h =>
      simp only [mtC] at h
      exact ⟨fun pins s σ H Q I ⟨env, O, er, f⟩ => (pts_one (sT c e X W T h).1).run pins s σ H Q I ⟨env, O, er, by simpa only [denC] using f⟩⟩
    | [], h => simp [mtC] at h
    | _ :: _ :: _, h => simp [mtC] at h
end
end
end PP

namespace PP
open PySem L2
variable [KF]

/-! ### statements -/
/-- a row of an except suite -/
inductive SH where
  | set (i : Nat) (d : SE)
  | inc (i : Nat) (n : Int)
mutual
inductive SS where
  | pass
  | set (tg : List Nat) (e : SE)
  | par (i j : Nat) (a b : SE)
  | aug (i : Nat) (o : Op2) (e : SE)
  | setIx (i : Nat) (k e : SE)
  | augIx (i : Nat) (k e : SE)
  | app (i : Nat) (e : SE)
  | ext (i : Nat) (e : SE)
  | pop (j i : Nat)
  | expr (e : SE)
  | ret (e : SE)
  | retN
  | iff (c : ST) (a b : SB)
  | loop (tg : List Nat) (it : SI) (b : SB)
  | whil (fuel : Nat) (c : ST) (b : SB)
  | raise (c : Str)
  | tri (b : SB) (hs : List (Str × List SH))
  | brk
  | cont
inductive SB where
  | nil
  | cons (s : SS) (r : SB)
  | frz (i : Nat) (r : SB)
end
def mulOk64 (i j : Int) : Bool := (decide (-(2 ^ 64) < i) && decide (i < 2 ^ 64)) || (decide (-(2 ^ 64) < j) && decide (j < 2 ^ 64))
inductive Rt where
  | nx (e : En)
  | rt (r : Rv)
  | bk (e : En)
  | ct (e : En)
  | exc (c : Str) (e : En)
  | stuck
def Rs.st {α : Type} (r : Rs α) (e : En) (f : α → Rt) : Rt := match r with
  | .ok a => f a
  | .exc c => .exc c e
  | .stuck => .stuck
def augD (o : Op2) (d x : D) (i : Nat) (env : En) : Rt := match o, d, x with
  | .add, .int m, .int n => .nx (env.set i (some (.sh (.int (m + n)))))
  | .sub, .int m, .int n => .nx (env.set i (some (.sh (.int (m - n)))))
  | .mul, .int m, .int n => if mulOk64 m n = true then .nx (env.set i (some (.sh (.int (m * n))))) else .stuck
  | _, _, _ => .stuck
def setR (tg : List Nat) (r : Rv) (env : En) : Rt := match tg, r with
  | [i], .fr o => .nx (env.set i (some (.ow o)))
  | tg, r => match r.toD? with
    | some d => match setT tg d env with
      | .ok e => .nx e
      | _ => .stuck
    | none => .stuck
def forGo (set : D → En → Rs En) (b : En → Rt) : List D → En → Rt
  | [], env => .nx env
  | x :: r, env => match set x env with
    | .ok e => match b e with
      | .nx e' => forGo set b r e'
      | .ct e' => forGo set b r e'
      | .bk e' => .nx e'
      | t => t
    | _ => .stuck
def whileGo (c : En → Rs Bool) (b : En → Rt) : Nat → En → Rt
  | 0, _ => .stuck
  | n + 1, env => match c env with
    | .ok true => match b env with
      | .nx e' => whileGo c b n e'
      | .ct e' => whileGo c b n e'
      | .bk e' => .nx e'
      | t => t
    | .ok false => .nx env
    | .exc c => .exc c env
    | .stuck => .stuck
/-- an except suite -/
def denH : List SH → En → Rt
  | [], env => .nx env
  | .set i e :: r, env => match e with
    | .non => denH r (env.set i (some (.sh .none)))
    | .bl b => denH r (env.set i (some (.sh (.bool b))))
    | .int n => denH r (env.set i (some (.sh (.int n))))
    | .str s => denH r (env.set i (some (.sh (.str s))))
    | _ => .stuck
  | .inc i n :: r, env => match getS env i with
    | some (.sh (.int k)) => denH r (env.set i (some (.sh (.int (k + n)))))
    | _ => .stuck
/-- which suite takes it -/
def pickH (sub : Str → Str → Option Bool) (c : Str) (env : En) : List (Str × List SH) → Rt
  | [] => .exc c env
  | (x, h) :: r => match sub c x with
    | some true => denH h env
    | some false => pickH sub c env r
    | none => .stuck
mutual
def denS (call : Nat → List D → Rs Rv) (sub : Str → Str → Option Bool) : SS → En → Rt
  | .pass, env => .nx env
  | .set tg e, env => (denE call e env).st env fun r => setR tg r env
  | .par i j a b, env => (denA call (.cons a (.cons b .nil)) env).st env fun ds => match ds with
    | [d, d'] => .nx ((env.set i (some (.sh d))).set j (some (.sh d')))
    | _ => .stuck
  | .aug i o e, env => match getS env i with
    | some (.sh d) => (bor env e (denE call e env)).st env fun x => augD o d x i env
    | _ => .stuck
  | .setIx i k e, env => match getS env i with
    | some (.ow (.lst ds)) => (denE call e env).st env fun r => match r.toD? with
      | some d => (bor env k (denE call k env)).st env fun x => match x with
        | .int m => match ixN ds.length m with
          | some p => .nx (env.set i (some (.ow (.lst (ds.set p d)))))
          | none => .stuck
        | _ => .stuck
      | none => .stuck
    | _ => .stuck
  | .augIx i k e, env => match getS env i with
    | some (.ow (.lst ds)) => (bor env k (denE call k env)).st env fun x => match x with
      | .int (.ofNat m) => match ds[m]? with
        | some (.int a) => (bor env e (denE call e env)).st env fun y => match y with
          | .int b => .nx (env.set i (some (.ow (.lst (ds.set m (.int (a + b)))))))
          | _ => .stuck
        | _ => .stuck
      | _ => .stuck
    | _ => .stuck
  | .app i e, env => match getS env i with
    | some (.ow (.lst ds)) => (denE call e env).st env fun r => match r.toD? with
      | some d => if ds.length < line then .nx (env.set i (some (.ow (.lst (ds ++ [d]))))) else .stuck
      | none => .stuck
    | _ => .stuck
  | .ext i e, env => match getS env i with
    | some (.ow (.lst ds)) => (bor env e (denE call e env)).st env fun x => match x with
      | .list es => if ds.length + es.length ≤ line then .nx (env.set i (some (.ow (.lst (ds ++ es))))) else .stuck
      | _ => .stuck
    | _ => .stuck
  | .pop j i, env => match getS env i with
    | some (.ow (.lst ds)) => match ds[ds.length - 1]? with
      | some d => if i = j then .stuck else .nx ((env.set i (some (.ow (.lst ds.dropLast)))).set j (some (.sh d)))
      | none => .stuck
    | _ => .stuck
  | .expr e, env => (denE call e env).st env fun _ => .nx env
  | .ret e, env => match e with
    | .var i => match getS env i with
      | some (.sh d) => .rt (.sh d)
      | some (.ow o) => .rt (.fr o)
      | none => .stuck
    | e => (denE call e env).st env fun r => .rt r
  | .retN, _ => .rt (.sh .none)
  | .iff c a b, env => (denT call c env).st env fun k => if k = true then denB call sub a env else denB call sub b env
  | .loop tg it b, env => (denI call true it env).st env fun items => forGo (setT tg) (fun e => denB call sub b e) items env
  | .whil n c b, env => whileGo (fun e => denT call c e) (fun e => denB call sub b e) n env
  | .raise c, env => .exc c env
  | .tri b hs, env => match denB call sub b env with
    | .exc c e => pickH sub c e hs
    | t => t
  | .brk, env => .bk env
  | .cont, env => .ct env
def denB (call : Nat → List D → Rs Rv) (sub : Str → Str → Option Bool) : SB → En → Rt
  | .nil, env => .nx env
  | .cons s r, env => match denS call sub s env with
    | .nx e => denB call sub r e
    | t => t
  | .frz i r, env => match getS env i with
    | some (.ow (.lst ds)) => denB call sub r (env.set i (some (.sh (.list ds))))
    | some (.ow _) => .stuck
    | _ => denB call sub r env
end
/-! ### a text stands for a statement -/
structure Cg extends Cf where
  cl : List Str
  sub : Str → Str → Option Bool
def augOk : Op2 → Bool
  | .add | .sub | .mul => true
  | _ => false
def locB (sc : Scope) (x : Str) : Bool := match sc.names.lookup x with
  | some .local | some .cell => true
  | _ => false
def slotB (N : List Str) (sc : Scope) (i : Nat) (x : Str) : Bool := N[i]? == some x && locB sc x && ndb x && !(x == ("__classdict__" : Str))
/-- a plain assignment: no comprehension that is stored within its block, no swapped pair -/
def noLc : Expr → Bool
  | .ListComp _ _ _ _ | .SetComp _ _ _ _ | .DictComp _ _ _ _ _ => false
  | _ => true
def swN (sc : Scope) (tg e : Expr) : Bool := match tg, e with
  | .Tuple ts _ _, .Tuple vs _ _ => !(ts.length == 2 || ts.length == 3) || vs.length != ts.length || vs.all (foldedForSure 8) || ts.any fun t => match t with | .Name x _ => sc.names.lookup x != some .local | _ => true
  | .List _ _, .Tuple _ _ _ => false
  | _, _ => true
/-- y = [..] that is stored within the block -/
def lcIn (sc : Scope) (y : Str) (py : Pos) (e : Expr) : Bool := match e with
  | .ListComp _ _ s pos => (sc.names.lookup y == some .local) && (py.line == pos.line) && !(s.names.any fun (n, k) => n == y && (k == .local || k == .cell))
  | _ => false
def lcOut (sc : Scope) (y : Str) (py : Pos) (e : Expr) : Bool := match e with
  | .ListComp _ _ s pos => !((sc.names.lookup y == some .local) && (py.line == pos.line) && !(s.names.any fun (n, k) => n == y && (k == .local || k == .cell)))
  | .SetComp _ _ _ _ | .DictComp _ _ _ _ _ => false
  | _ => true
def hsB (N : List Str) (sc : Scope) : List SH → List Stmt → Bool
  | [], [] => true
  | .set i e :: r, .Assign [.Name x _] (.Constant c _ _) _ :: st => slotB N sc i x && (match e, c with
      | .non, .none => true
      | .bl b, .bool b' => b == b'
      | .int n, .int n' => n == n'
      | .str s, .str s' => s == s'
      | _, _ => false) && hsB N sc r st
  | .inc i n :: r, .AugAssign (.Name x _) .Add (.Constant (.int m) _ _) _ :: st => slotB N sc i x && n == m && hsB N sc r st
  | _, _ => false
def hdB (cg : Cg) (N : List Str) (sc : Scope) : List (Str × List SH) → List ExceptHandler → Bool
  | [], [] => true
  | (c, h) :: r, .ExceptHandler (some (.Name x _)) none body _ :: hs => c == x && cg.cl.contains c && glB sc c && ndb c && !body.isEmpty && hsB N sc h body && hdB cg N sc r hs
  | _, _ => false
mutual
def mtS (cg : Cg) (N : List Str) (sc : Scope) : SS → Stmt → Bool
  | .pass, .Pass _ => true
  | .set tg e, .Assign [t] v _ => mtE cg.toCf N sc e v && tgB N sc true tg t && swN sc t v && (match t with | .Name y py => lcIn sc y py v || lcOut sc y py v | _ => noLc v)
  | .par i j a b, .Assign [.Tuple [.Name x px, .Name y py] _ _] (.Tuple [l, r] _ _) _ => slotB N sc i x && slotB N sc j y && !(i == j) && (sc.names.lookup x == some .local) && (sc.names.lookup y == some .local) && !(x == y) && (px.line == py.line) &&
      mtE cg.toCf N sc a l && mtE cg.toCf N sc b r && noStar l && noStar r && !(foldedForSure 8 l && foldedForSure 8 r) && !(constantsAlone 8 l && constantsAlone 8 r)
  | .aug i o e, .AugAssign (.Name x _) p v _ => slotB N sc i x && o.op == p && augOk o && mtE cg.toCf N sc e v
  | .setIx i k e, .Assign [.Subscript (.Name x _) l _] v _ => slotB N sc i x && mtE cg.toCf N sc k l && mtE cg.toCf N sc e v && notSlice l && noLc v
  | .augIx i k e, .AugAssign (.Subscript (.Name x _) l _) .Add v _ => slotB N sc i x && mtE cg.toCf N sc k l && mtE cg.toCf N sc e v && notSlice l
  | .app i e, .Expr (.Call (.Attribute (.Name x _) m ap) [l] [] cp) _ => slotB N sc i x && m == "append" && (ap.endLine == cp.line) && mtE cg.toCf N sc e l && noStar l
  | .ext i e, .Expr (.Call (.Attribute (.Name x _) m ap) [l] [] cp) _ => slotB N sc i x && m == "extend" && (ap.endLine == cp.line) && mtE cg.toCf N sc e l && noStar l
  | .pop j i, .Assign [.Name y _] (.Call (.Attribute (.Name x _) m ap) [] [] cp) _ => slotB N sc i x && slotB N sc j y && m == "pop" && (ap.endLine == cp.line)
  | .expr e, .Expr v _ => mtE cg.toCf N sc e v && noLc v
  | .ret e, .Return (some v) _ => mtE cg.toCf N sc e v
  | .retN, .Return none _ => true
  | .iff c a b, .If t x y _ => mtT cg.toCf N sc c t && mtB cg N sc a x && mtB cg N sc b y
  | .loop tg it b, .For t i body [] _ => tgB N sc true tg t && mtI cg.toCf N sc it i && noSet i && mtB cg N sc b body
  | .whil _ c b, .While t body [] _ => mtT cg.toCf N sc c t && mtB cg N sc b body
  | .raise c, .Raise (some (.Call (.Name x _) [.Constant (.str _) _ _] [] _)) none _ => c == x && cg.cl.contains c && glB sc c && ndb c
  | .tri b hs, .Try body hds [] [] _ => mtB cg N sc b body && hdB cg N sc hs hds && !hds.isEmpty
  | .brk, .Break _ => true
  | .cont, .Continue _ => true
  | _, _ => false
def mtB (cg : Cg) (N : List Str) (sc : Scope) : SB → List Stmt → Bool
  | .nil, [] => true
  | .cons s r, st :: rest => mtS cg N sc s st && mtB cg N sc r rest
  | .frz _ r, l => mtB cg N sc r l
  | _, _ => false
end
end PP

namespace PP
open PySem L2
variable [KF]
section
variable {H0 : Hp} {O0 O O' : AP1} {env : En} {σ : St} {H H' : Hp}
/-- a new object is taken over by a slot -/
theorem ER.setOw (e : ER H0 O0 env O σ H) {i : Nat} {v : V} {o : OO} (p : Post O H (.fr o) v H') : ∃ l, ER H0 O0 (env.set i (some (.ow o))) (ins O l) (σ.set i (some v)) H' ∧ Same (cut H O) (cut H' (ins O l)) := by
  obtain ⟨s, l, ho, rfl, hn, hl, r⟩ := p
  have e' := e.later s
  have sc : Same (cut H O) (cut H' (ins O l)) := fun a u q => by
    refine cut_of (s _ _ (cut_some q).1) fun z => ?_
    rcases z with z | z
    · have := (cut_some q).1
      rw [z, hn] at this; cases this
    · exact (cut_some q).2 z
  refine ⟨l, ⟨by rw [List.length_set, List.length_set]; exact e.len, fun a h => .inr (e.sub a h), e.in0, fun a z => ?_, e'.same, fun j c h => ?_, fun j u h => ?_, fun j k u u' m h1 h2 h3 h4 => ?_⟩, sc⟩
  · rcases z with z | z
    · rw [z]; exact ⟨_, hl⟩
    · exact e'.own a z
  · rw [getS_set] at h
    rw [st_set, e.len]
    by_cases q : i = j ∧ i < env.length
    · rw [if_pos q] at h; cases h
    · rw [if_neg q] at h ⊢
      obtain ⟨v, h1, h2⟩ := e.sh j c h
      exact ⟨v, h1, h2.mono sc⟩
  · rw [getS_set] at h
    rw [st_set, e.len]
    by_cases q : i = j ∧ i < env.length
    · rw [if_pos q] at h ⊢
      cases h
      exact ⟨l, ho, rfl, .inl rfl, e.same.free hn, hl, r⟩
    · rw [if_neg q] at h ⊢
      obtain ⟨l', ho', h1, h2, h3, h4, h5⟩ := e.ow j u h
      exact ⟨l', ho', h1, .inr h2, h3, s _ _ h4, h5.mono sc⟩
  · rw [getS_set] at h1 h2
    rw [st_set, e.len] at h3 h4
    have no : ∀ {x : Nat} {w : OO}, getS env x = some (.ow w) → σ[x]? = some (some (.ref l)) → False := fun {x w} g q => by
      obtain ⟨l', ho', g1, _, _, g4, _⟩ := e.ow x w g
      rw [q] at g1
      cases g1
      rw [hn] at g4; cases g4
    by_cases q : i = j ∧ i < env.length
    · by_cases q' : i = k ∧ i < env.length
      · rw [← q.1, ← q'.1]
      · rw [if_pos q] at h3
        rw [if_neg q'] at h2 h4
        cases h3
        exact (no h2 h4).elim
    · by_cases q' : i = k ∧ i < env.length
      · rw [if_pos q'] at h4
        rw [if_neg q] at h1 h3
        cases h4
        exact (no h1 h3).elim
      · rw [if_neg q] at h1 h3
        rw [if_neg q'] at h2 h4
        exact e.inj j k u u' m h1 h2 h3 h4
/-- a slot's own object changes -/
theorem ER.upd (e : ER H0 O0 env O σ H) {i : Nat} {o o' : OO} {l : Addr} {ho' : HO} (g : getS env i = some (.ow o)) (hl : σ[i]? = some (some (.ref l))) (r : ORp (cut H O) o' ho') :
    ER H0 O0 (env.set i (some (.ow o'))) O σ (upd H l ho') ∧ cut (upd H l ho') O = cut H O := by
  obtain ⟨l', ho, h1, h2, h3, h4, h5⟩ := e.ow i o g
  rw [hl] at h1
  cases h1
  have hc : cut (L2.upd H l ho') O = cut H O := cut_upd h2
  have hi : i < env.length := by
    rw [← e.len]
    exact (List.getElem?_eq_some_iff.mp hl).1
  refine ⟨⟨by rw [List.length_set]; exact e.len, e.sub, e.in0, fun a z => ?_, fun b u q => ?_, fun j c h => ?_, fun j u h => ?_, fun j k u u' m g1 g2 g3 g4 => ?_⟩, hc⟩
  · by_cases q : a = l
    · rw [q]; exact ⟨_, upd_same⟩
    · rw [upd_ne q]; exact e.own a z
  · have : b ≠ l := fun z => by rw [z, h3] at q; cases q
    rw [upd_ne this]
    exact e.same _ _ q
  · rw [getS_set] at h
    by_cases q : i = j ∧ i < env.length
    · rw [if_pos q] at h; cases h
    · rw [if_neg q] at h
      obtain ⟨v, z1, z2⟩ := e.sh j c h
      exact ⟨v, z1, by rw [hc]; exact z2⟩
  · rw [getS_set] at h
    by_cases q : i = j ∧ i < env.length
    · rw [if_pos q] at h
      cases h
      rw [← q.1]
      exact ⟨l, ho', hl, h2, h3, upd_same, by rw [hc]; exact r⟩
    · rw [if_neg q] at h
      obtain ⟨m, hm, z1, z2, z3, z4, z5⟩ := e.ow j u h
      have : m ≠ l := fun z => by
        subst z
        exact q ⟨e.inj i j o u m g h hl z1, hi⟩
      exact ⟨m, hm, z1, z2, z3, by rw [upd_ne this]; exact z4, by rw [hc]; exact z5⟩
  · rw [getS_set] at g1 g2
    have back : ∀ {x : Nat} {w : OO}, (if i = x ∧ i < env.length then some (Sl.ow o') else getS env x) = some (.ow w) → ∃ w', getS env x = some (.ow w') := fun {x w} g => by
      by_cases q : i = x ∧ i < env.length
      · rw [← q.1]; exact ⟨o, ‹_›⟩
      · rw [if_neg q] at g; exact ⟨w, g⟩
    obtain ⟨w, g1⟩ := back g1
    obtain ⟨w', g2⟩ := back g2
    exact e.inj j k w w' m g1 g2 g3 g4
/-- a slot's list is handed over -/
theorem ER.freeze (e : ER H0 O0 env O σ H) {i : Nat} {ds : List D} (g : getS env i = some (.ow (.lst ds))) : ∃ O', ER H0 O0 (env.set i (some (.sh (.list ds)))) O' σ H ∧ Same (cut H O) (cut H O') := by
  obtain ⟨l, ho, h1, h2, h3, h4, h5⟩ := e.ow i _ g
  have hi : i < env.length := by
    rw [← e.len]
    exact (List.getElem?_eq_some_iff.mp h1).1
  have sc : Same (cut H O) (cut H (fun a => O a ∧ a ≠ l)) := cut_anti fun a z => z.1
  refine ⟨fun a => O a ∧ a ≠ l, ⟨by rw [List.length_set]; exact e.len, fun a h => ⟨e.sub a h, fun z => ?_⟩, e.in0, fun a z => e.own a z.1, e.same, fun j c h => ?_, fun j u h => ?_, fun j k u u' m g1 g2 g3 g4 => ?_⟩, sc⟩
  · obtain ⟨o, q⟩ := e.in0 a h
    rw [z, h3] at q; cases q
  · rw [getS_set] at h
    by_cases q : i = j ∧ i < env.length
    · rw [if_pos q] at h
      cases h
      rw [← q.1]
      cases h5 with
      | lst r => exact ⟨.ref l, h1, .lst (cut_of h4 fun z => z.2 rfl) (r.mono sc)⟩
    · rw [if_neg q] at h
      obtain ⟨v, z1, z2⟩ := e.sh j c h
      exact ⟨v, z1, z2.mono sc⟩
  · rw [getS_set] at h
    by_cases q : i = j ∧ i < env.length
    · rw [if_pos q] at h; cases h
    · rw [if_neg q] at h
      obtain ⟨m, hm, z1, z2, z3, z4, z5⟩ := e.ow j u h
      have : m ≠ l := fun z => by
        subst z
        exact q ⟨e.inj i j _ u m g h h1 z1, hi⟩
      exact ⟨m, hm, z1, ⟨z2, this⟩, z3, z4, z5.mono sc⟩
  · rw [getS_set] at g1 g2
    by_cases q : i = j ∧ i < env.length
    · rw [if_pos q] at g1; cases g1
    · by_cases q' : i = k ∧ i < env.length
      · rw [if_pos q'] at g2; cases g2
      · rw [if_neg q] at g1
        rw [if_neg q'] at g2
        exact e.inj j k u u' m g1 g2 g3 g4
/-- what is handed back -/
theorem ER.back (e : ER H0 O0 env O σ H) {r : Rv} {v : V} (p : Post O H r v H') : Post O0 H0 r v H' := by
  refine ⟨e.same.trans p.1, ?_⟩
  cases r with
  | sh d => exact Rp.mono (cut_anti e.sub) p.2
  | fr o =>
    obtain ⟨q, ho, e1, e2, e3, e4⟩ := p.2
    exact ⟨q, ho, e1, e.same.free e2, e3, e4.mono (cut_anti fun a z => z.elim .inl fun z => .inr (e.sub a z))⟩
end
/-! ### readings of statements -/
section
variable (mg : Str → Option Value) (call : Nat → List D → Rs Rv) (sub : Str → Str → Option Bool) (W : WX) (H0 : Hp) (O0 : AP1)
def kS (D : Ends) (r : Rt) (H : Hp) (O : AP1) : Prop := match r with
  | .nx e => ∀ σ' H' O', ER H0 O0 e O' σ' H' → Same (cut H O) (cut H' O') → D.nx σ' H'
  | .bk e => ∀ σ' H' O', ER H0 O0 e O' σ' H' → Same (cut H O) (cut H' O') → D.bk σ' H'
  | .ct e => ∀ σ' H' O', ER H0 O0 e O' σ' H' → Same (cut H O) (cut H' O') → D.ct σ' H'
  | .rt r => ∀ v H', Post O0 H0 r v H' → D.rt v H'
  | .exc c e => ∀ C σ' H' O', mg c = some (.ref C) → ER H0 O0 e O' σ' H' → Same (cut H O) (cut H' O') → W (.ref C) none σ' H'
  | .stuck => False
def tS (s : SS) : TS := fun D σ H => ∃ env O, ER H0 O0 env O σ H ∧ kS mg W H0 O0 D (denS call sub s env) H O
def tSB (s : SB) : TS := fun D σ H => ∃ env O, ER H0 O0 env O σ H ∧ kS mg W H0 O0 D (denB call sub s env) H O
def tH (h : List SH) : TS := fun D σ H => ∃ env O, ER H0 O0 env O σ H ∧ kS mg W H0 O0 D (denH h env) H O
end
section
variable {mg : Str → Option Value} {call : Nat → List D → Rs Rv} {W : WX} {H0 : Hp} {O0 O O' : AP1} {D : Ends} {r : Rt} {H H' : Hp}
theorem kS.later (h : kS mg W H0 O0 D r H O) (s : Same (cut H O) (cut H' O')) : kS mg W H0 O0 D r H' O' := by
  cases r with
  | nx e => exact fun σ2 H2 O2 a b => h σ2 H2 O2 a (s.trans b)
  | bk e => exact fun σ2 H2 O2 a b => h σ2 H2 O2 a (s.trans b)
  | ct e => exact fun σ2 H2 O2 a b => h σ2 H2 O2 a (s.trans b)
  | rt r => exact h
  | exc c e => exact fun C σ2 H2 O2 m a b => h C σ2 H2 O2 m a (s.trans b)
  | stuck => exact h
theorem kS.fin {α : Type} {a : Rs α} {f : α → Rt} {env : En} {σ : St} (h : kS mg W H0 O0 D (a.st env f) H O) (er : ER H0 O0 env O σ H) : fin mg W σ H a fun x => kS mg W H0 O0 D (f x) H O := by
  cases a with
  | ok x => exact h
  | exc c => exact fun C H' s m => h C σ H' O m (er.later s) (cut_same s)
  | stuck => exact h
end
abbrev veT : List Value := [.type "ValueError", .type "Exception", .type "BaseException", .type "object"]
structure ClsOk (K : PySem.W.Frag) (C : Addr) : Prop where
  ex : PySem.W.excIn K C veT "ValueError.__new__" = true
  kp : PySem.W.keepIn K (.ref C) = true
  sb : PySem.W.subIn K (.ref C) (.type "BaseException") = some true
  ty : PySem.W.typeIn K (.ref C) = some (.type "type")
structure Ts (cg : Cg) (call : Nat → List D → Rs Rv) (n : Nat) (W : WX) (X : Cx) : Prop extends Th cg.toCf call n W X where
  hp : PassesOwn (model X.prog X.w) X.A X.env X.xe
  fnn : ∀ x, X.fn x = true
  stk : X.stack = X.env :: X.outer
  frm : X.env.frame = some X.env.locals
  kd : X.env.scope.kind = .function
  cls : ∀ c, cg.cl.contains c = true → ∃ C, X.mg c = some (.ref C) ∧ ClsOk X.K C
  exm : ∀ c d b C C', cg.sub c d = some b → X.mg c = some (.ref C) → X.mg d = some (.ref C') → PySem.W.exmOne X.K (.ref C) (.ref C') = some b
theorem ps_mono {X : Cx} {st : Stmt} {t t' : TS} (h : PS X st t) (i : ∀ D σ H, t' D σ H → t D σ H) : PS X st t' := ⟨fun pins s σ H D I q => h.run pins s σ H D I (i D σ H q)⟩
theorem pss_mono {X : Cx} {st : List Stmt} {t t' : TS} (h : PSs X st t) (i : ∀ D σ H, t' D σ H → t D σ H) : PSs X st t' := ⟨fun pins s σ H D I q => h.run pins s σ H D I (i D σ H q)⟩
theorem loc_of {sc : Scope} {x : Str} (h : locB sc x = true) : L2.Loc sc x := by
  unfold locB at h
  unfold L2.Loc
  split at h
  · rename_i e; exact .inl e
  · rename_i e; exact .inr e
  · cases h
theorem slot_of {N : List Str} {sc : Scope} {i : Nat} {x : Str} (h : slotB N sc i x = true) : N[i]? = some x ∧ L2.Loc sc x ∧ (x == ("__debug__" : Str)) = false ∧ (x == ("__classdict__" : Str)) = false := by
  unfold slotB at h
  simp only [Bool.and_eq_true, beq_iff_eq] at h
  exact ⟨h.1.1.1, loc_of h.1.1.2, ndb_of h.1.2, by simpa using h.2⟩
theorem loc_vis {sc : Scope} {x : Str} (h : L2.Loc sc x) : Vis sc x := by
  rcases h with h | h
  · exact .inl h
  · exact .inr (.inl h)
theorem pv_slot {X : Cx} {i : Nat} {x : Str} {pos : Pos} (h : slotB X.N X.env.scope i x = true) : PE X (.Name x pos) (tVar i) := by
  obtain ⟨h1, h2, h3, h4⟩ := slot_of h
  exact pe_var h1 (loc_vis h2) h3 h4
theorem swaps_plain {e : Expr} {t : Option Expr} {l : Nat} {env : Env} (h : noLc e = true) : swapsWith e t l env = pure false := by
  cases e <;> first | rfl | cases h
theorem fm_le {α β : Type} (f : α → Option β) : ∀ l : List α, (l.filterMap f).length ≤ l.length
  | [] => Nat.le_refl _
  | x :: r => by
    have ih := fm_le f r
    rw [List.filterMap_cons]
    split
    · exact Nat.le_succ_of_le ih
    · exact Nat.succ_le_succ ih
theorem fm_all {α β : Type} {f : α → Option β} : ∀ {l : List α}, (l.filterMap f).length = l.length → ∀ x ∈ l, (f x).isSome = true
  | [], _, _, h => by cases h
  | y :: r, e, x, h => by
    rw [List.filterMap_cons] at e
    cases q : f y with
    | none =>
      rw [q] at e
      have := fm_le f r
      simp at e
      omega
    | some z =>
      rw [q] at e
      rcases List.mem_cons.mp h with rfl | h
      · rw [q]; rfl
      · exact fm_all (by simpa using e) x h
theorem swapped_none {X : Cx} {t v : Expr} (h : swN X.env.scope t v = true) : swappedStores [t] v X.env = pure none := by
  cases t with
  | Tuple ts k pos =>
    cases v with
    | Tuple vs k2 pos2 =>
      unfold swN at h
      unfold swappedStores
      dsimp only
      split
      · rfl
      · split
        · rfl
        · rename_i c1 c2
          split
          · rfl
          · rename_i c3
            split
            · rfl
            · rename_i c4
              exfalso
              simp only [Bool.or_eq_true, not_or] at c1 h c3
              rcases h with ((h | h) | h) | h
              · exact c1.1.1 h
              · exact c1.1.2 h
              · exact c4 h
              · have hlen := c3.1
                simp only [bne_iff_ne, ne_eq, Decidable.not_not] at hlen
                obtain ⟨t, ht, hb⟩ := List.any_eq_true.mp h
                have := fm_all hlen t ht
                cases t with
                | Name x pos =>
                  simp only [Env.kindOf] at this
                  simp only at hb
                  have key : ∀ {b1 b2 : Bool}, (if (b1 && b2) = true then some x else none).isSome = true → b1 = true := by intro b1 b2 h; cases b1 <;> cases b2 <;> simp_all
                  have := key this
                  simp only [beq_iff_eq] at this
                  rw [this] at hb
                  simp at hb
                | _ => cases this
    | _ => rfl
  | List ts pos => cases v <;> first | rfl | cases h
  | _ => rfl
theorem swapped_pair {X : Cx} {x y : Str} {px py pt pt2 : Pos} {kt k2 : Nat} {l r : Expr} (hk : X.env.scope.kind = .function) (hx : X.env.scope.names.lookup x = some .local) (hy : X.env.scope.names.lookup y = some .local) (hxy : (x == y) = false)
    (hl : (px.line == py.line) = true) (n1 : noStar l = true) (n2 : noStar r = true) (f : (foldedForSure 8 l && foldedForSure 8 r) = false) (c : (constantsAlone 8 l && constantsAlone 8 r) = false) :
    swappedStores [.Tuple [.Name x px, .Name y py] kt pt] (.Tuple [l, r] k2 pt2) X.env = pure (some [x, y]) := by
  have hb : X.env.blockKind = .function := by unfold Env.blockKind; rw [hk]; rfl
  have kx : X.env.kindOf x = some .local := hx
  have ky : X.env.kindOf y = some .local := hy
  have hl' : py.line = px.line := (beq_iff_eq.mp hl).symm
  have hne : x ≠ y := by simpa using hxy
  have ded : ([x, y] : List Str).eraseDups = [x, y] := by
    have : (y == x) = false := by simpa using fun e => hne e.symm
    simp [List.eraseDups_cons, this]
  unfold swappedStores
  simp only [Bool.and_eq_false_imp] at f c
  simp [hb, kx, ky, hl', ded, Expr.pos]
  rw [if_neg, if_neg, if_neg]
  · intro h; rw [c h.1] at h; cases h.2
  · intro h; rw [f h.1] at h; cases h.2
  · intro h
    rcases h with h | h
    · cases l <;> first | (cases h; done) | cases n1
    · cases r <;> first | (cases h; done) | cases n2
end PP

namespace PP
open PySem L2
variable [KF]
section
variable {call : Nat → List D → Rs Rv} {H0 : Hp} {O0 : AP1} {cg : Cg} {n : Nat}
/-! ### except suites -/
theorem hsB_set {N : List Str} {sc : Scope} {i : Nat} {e : SE} {r : List SH} {st : List Stmt} (h : hsB N sc (.set i e :: r) st = true) :
    ∃ x p1 c k p2 p3 st', st = .Assign [.Name x p1] (.Constant c k p2) p3 :: st' ∧ hsB N sc (.set i e :: r) (.Assign [.Name x p1] (.Constant c k p2) p3 :: st') = true := by
  have h' := h
  unfold hsB at h
  split at h
  · rename_i q; cases q
  · rename_i q; cases q; exact ⟨_, _, _, _, _, _, _, rfl, h'⟩
  · rename_i q; cases q
  · cases h
theorem hsB_inc {N : List Str} {sc : Scope} {i : Nat} {e : Int} {r : List SH} {st : List Stmt} (h : hsB N sc (.inc i e :: r) st = true) :
    ∃ x p1 c k p2 p3 st', st = .AugAssign (.Name x p1) .Add (.Constant (.int c) k p2) p3 :: st' ∧ hsB N sc (.inc i e :: r) (.AugAssign (.Name x p1) .Add (.Constant (.int c) k p2) p3 :: st') = true := by
  have h' := h
  unfold hsB at h
  split at h
  · rename_i q; cases q
  · rename_i q; cases q
  · rename_i q; cases q; exact ⟨_, _, _, _, _, _, _, rfl, h'⟩
  · cases h
theorem sH {X : Cx} (nd : X.N.Nodup) (fnn : ∀ x, X.fn x = true) : ∀ (h : List SH) (st : List Stmt), hsB X.N X.env.scope h st = true → PSs X st (tH X.mg (fun _ _ _ _ => False) H0 O0 h)
  | [], st, m => by
    cases st with
    | nil => exact pss_mono pss_nil fun D σ H ⟨env, O, er, k⟩ => k σ H O er (Same.refl _)
    | cons s r => simp [hsB] at m
  | .set i e :: r, st, m => by
    obtain ⟨x, p1, c, k, p2, p3, st, rfl, m⟩ := hsB_set m
    · simp only [hsB, Bool.and_eq_true] at m
      obtain ⟨⟨hs, hm⟩, hr⟩ := m
      obtain ⟨h1, h2, _, _⟩ := slot_of hs
      have go : ∀ {v : V} {d : D}, PE X (.Constant c k p2) (tC v) → (∀ F : Hp, Rp F v d) → (∀ env, denH (.set i e :: r) env = denH r (env.set i (some (.sh d)))) →
          PSs X (.Assign [.Name x p1] (.Constant c k p2) p3 :: st) (tH X.mg (fun _ _ _ _ => False) H0 O0 (.set i e :: r)) := fun {v d} pe rp hd => by
        refine pss_mono (pss_cons (ps_set nd h1 h2 pe rfl (.inl (fnn x))) (sH nd fnn r st hr)) fun D σ H ⟨env, O, er, kk⟩ => ?_
        rw [hd] at kk
        exact ⟨_, O, er.set (rp _), kk⟩
      cases e with
      | non => cases c with
        | none => exact go pe_non (fun F => .non) fun env => rfl
        | _ => cases hm
      | bl b => cases c with
        | bool b' => cases (beq_iff_eq.mp hm); exact go pe_bl (fun F => .bl _) fun env => rfl
        | _ => cases hm
      | int b => cases c with
        | int b' => cases (beq_iff_eq.mp hm); exact go pe_int (fun F => .int _) fun env => rfl
        | _ => cases hm
      | str b => cases c with
        | str b' => cases (beq_iff_eq.mp hm); exact go pe_str (fun F => .str _) fun env => rfl
        | _ => cases hm
      | _ => cases hm
  | .inc i k :: r, st, m => by
    obtain ⟨x, p1, mm, j, p2, p3, st, rfl, m⟩ := hsB_inc m
    · simp only [hsB, Bool.and_eq_true, beq_iff_eq] at m
      obtain ⟨⟨hs, rfl⟩, hr⟩ := m
      obtain ⟨h1, h2, _, _⟩ := slot_of hs
      refine pss_mono (pss_cons (ps_aug nd h1 h2 pe_int ip_add (.inl (fnn x))) (sH nd fnn r st hr)) fun D σ H ⟨env, O, er, kk⟩ => ?_
      simp only [denH] at kk
      cases g : getS env i with
      | none => rw [g] at kk; exact kk.elim
      | some s => cases s with
        | ow o => rw [g] at kk; exact kk.elim
        | sh d => cases d with
          | int a =>
            rw [g] at kk
            obtain ⟨v, q1, q2⟩ := er.sh i _ g
            cases q2
            exact ⟨_, q1, a, k, rfl, rfl, _, O, er.set (.int _), kk⟩
          | _ => rw [g] at kk; exact kk.elim
/-! ### handlers -/
def NoEx (r : Rt) : Prop := ∀ c e, r ≠ .exc c e
theorem nox_H : ∀ (h : List SH) (e : En), NoEx (denH h e)
  | [], e => fun c e' z => by cases z
  | .set i d :: r, e => by
    cases d <;> first
      | exact nox_H r _
      | exact fun c e' z => by cases z
  | .inc i n :: r, e => by
    unfold denH
    cases g : getS e i with
    | none => exact fun c e' z => by cases z
    | some s => cases s with
      | ow o => exact fun c e' z => by cases z
      | sh d => cases d <;> first
        | exact nox_H r _
        | exact fun c e' z => by cases z
theorem kS.swap {mg : Str → Option Value} {W W' : WX} {D : Ends} {r : Rt} {H : Hp} {O : AP1} (h : kS mg W H0 O0 D r H O) (n : NoEx r) : kS mg W' H0 O0 D r H O := by
  cases r with
  | exc c e => exact absurd rfl (n c e)
  | _ => exact h
def hList (mg : Str → Option Value) (H0 : Hp) (O0 : AP1) : List (Str × List SH) → List (Value × (Addr → Value → Option Addr → TS))
  | [] => []
  | (c, h) :: r => ((mg c).getD .none, fun _ _ _ => tH mg (fun _ _ _ _ => False) H0 O0 h) :: hList mg H0 O0 r
theorem hds_ok {X : Cx} {W : WX} (T : Ts cg call n W X) : ∀ (hs : List (Str × List SH)) (hds : List ExceptHandler), hdB cg X.N X.env.scope hs hds = true → HdsOk X hds (hList X.mg H0 O0 hs)
  | [], hds, m => by
    cases hds with
    | nil => exact .nil
    | cons h r => simp [hdB] at m
  | (c, h) :: r, hds, m => by
    have inv : ∃ x p body p2 hds', hds = .ExceptHandler (some (.Name x p)) none body p2 :: hds' ∧ hdB cg X.N X.env.scope ((c, h) :: r) (.ExceptHandler (some (.Name x p)) none body p2 :: hds') = true := by
      have m' := m
      unfold hdB at m
      split at m
      · rename_i q; cases q
      · rename_i q; cases q; exact ⟨_, _, _, _, _, rfl, m'⟩
      · cases m
    obtain ⟨x, p, body, p2, hds, rfl, m⟩ := inv
    simp only [hdB, Bool.and_eq_true, beq_iff_eq] at m
    obtain ⟨⟨⟨⟨⟨⟨rfl, m1⟩, m2⟩, m3⟩, m4⟩, m5⟩, m6⟩ := m
    obtain ⟨C, hC, ok⟩ := T.cls c m1
    cases body with
    | nil => simp at m4
    | cons b0 suite =>
      refine HdsOk.cons (c := (X.mg c).getD .none) ⟨gl_of m2, ndb_of m3, .inl (by rw [hC]; rfl)⟩ (fun a oe cls d pn _ _ => ?_) (hds_ok T r hds m6)
      exact sH (X := X.suite a ((a, oe) :: pn)) T.nd T.fnn h (b0 :: suite) m5
/-- the suite that takes it -/
theorem pick_ok {X : Cx} {W : WX} (T : Ts cg call n W X) {D : Ends} {c : Str} {e : En} {H : Hp} {O : AP1} : ∀ (hs : List (Str × List SH)) (hds : List ExceptHandler), hdB cg X.N X.env.scope hs hds = true → kS X.mg W H0 O0 D (pickH cg.sub c e hs) H O →
    ∀ C σ' H' O', X.mg c = some (.ref C) → ER H0 O0 e O' σ' H' → Same (cut H O) (cut H' O') → wMany X.K W D (hList X.mg H0 O0 hs) (.ref C) none σ' H'
  | [], _, _, k, C, σ', H', O', mc, er, s => k C σ' H' O' mc er s
  | (x, h) :: r, hds, m, k, C, σ', H', O', mc, er, s => by
    have inv : ∃ y p body p2 hds', hds = .ExceptHandler (some (.Name y p)) none body p2 :: hds' ∧ hdB cg X.N X.env.scope ((x, h) :: r) (.ExceptHandler (some (.Name y p)) none body p2 :: hds') = true := by
      have m' := m
      unfold hdB at m
      split at m
      · rename_i q; cases q
      · rename_i q; cases q; exact ⟨_, _, _, _, _, rfl, m'⟩
      · cases m
    obtain ⟨y, p, body, p2, hds, rfl, m⟩ := inv
    simp only [hdB, Bool.and_eq_true, beq_iff_eq] at m
    obtain ⟨⟨⟨⟨⟨⟨rfl, m1⟩, m2⟩, m3⟩, m4⟩, m5⟩, m6⟩ := m
    obtain ⟨C', hC, ok⟩ := T.cls x m1
    simp only [pickH] at k
    cases q : cg.sub c x with
    | none => rw [q] at k; exact k.elim
    | some b =>
      rw [q] at k
      refine ⟨b, ?_, fun hb a ha => ?_, fun hb => ?_⟩
      · rw [hC]; exact T.exm c x b C C' q mc hC
      · subst hb
        refine ⟨e, O', er, ?_⟩
        have k := k.later s
        have dh : ∀ (h : List SH) (e : En), NoEx (denH h e) := nox_H
        exact k.swap (dh h e)
      · subst hb
        exact pick_ok T r hds m6 k C σ' H' O' mc er s
end
end PP

namespace PP
open PySem L2
variable [KF]
section
variable {call : Nat → List D → Rs Rv} {H0 : Hp} {O0 : AP1} {cg : Cg} {n : Nat}
theorem Ts.tr {X : Cx} {W W' : WX} (T : Ts cg call n W X) (pn : List (Addr × Obj)) (xe : Value → Shared → Prop) (tk : Takes (X.tr pn xe) W') (hp : PassesOwn (model X.prog X.w) X.A X.env xe) : Ts cg call n W' (X.tr pn xe) :=
  { hK := T.hK, nd := T.nd, calm := T.calm, room := T.room, blt := T.blt, gi := T.gi, gs := T.gs, fns := T.fns, tk := tk, hp := hp, fnn := T.fnn, stk := T.stk, frm := T.frm, kd := T.kd, cls := T.cls, exm := T.exm }
/-- a plain store -/
theorem set_done {mg : Str → Option Value} {W : WX} {D : Ends} {env : En} {O : AP1} {σ : St} {H H1 : Hp} {i : Nat} {r : Rv} {v : V} (er : ER H0 O0 env O σ H) (k : kS mg W H0 O0 D (setR [i] r env) H O) (p : Post O H r v H1) : D.nx (σ.set i (some v)) H1 := by
  cases r with
  | sh d => exact k _ H1 O ((er.later p.1).set p.2) (cut_same p.1)
  | fr o =>
    obtain ⟨l, er', s⟩ := er.setOw (i := i) p
    exact k _ H1 _ er' s
theorem lc_set {X : Cx} {W : WX} {e : SE} {i : Nat} {y : Str} {py : Pos} {v : Expr} {pos : Pos} (T : Ts cg call n W X) (hi : X.N[i]? = some y) (h : lcIn X.env.scope y py v = true) (m : mtE cg.toCf X.N X.env.scope e v = true) :
    PS X (.Assign [.Name y py] v pos) (tAsg (tE X.mg call W H0 O0 e) (gName i)) := by
  cases v with
  | ListComp el gs scope pos' =>
    simp only [lcIn, Bool.and_eq_true, beq_iff_eq, Bool.not_eq_true'] at h
    obtain ⟨⟨h1, h2⟩, h3⟩ := h
    cases e with
    | comp elt tg it c own =>
      match gs, m with
      | [⟨t, i', fs, a⟩], m =>
        simp only [mtE, Bool.and_eq_true, beq_iff_eq] at m
        obtain ⟨⟨⟨⟨⟨⟨⟨rfl, hb⟩, hg⟩, hii⟩, hc⟩, he⟩, hs⟩, ho⟩ := m
        refine ps_mono (ps_setLc T.calm T.nd hi h1 (sw_true T.kd h1 (beq_iff_eq.mpr h2) h3) (sI false it t i' X W T.toTh hii) (blkOk_by hb) (fun s H C cl fp => pg_tg (fn := false) T.nd T.calm (fun z => nomatch z) hg)
          (fun s H C cl fp => sC c fs _ _ (T.toTh.blk s H scope (compEnvC scope cl C X.env) fp) hc) (fun s H C cl fp => sE elt el _ _ (T.toTh.blk s H scope (compEnvC scope cl C X.env) fp) he) (fun x => by cases i' <;> first | rfl | cases hs)) fun D σ H q => lc_read ho q
      | [], m => simp [mtE] at m
      | _ :: _ :: _, m => simp [mtE] at m
    | _ => simp [mtE] at m
  | _ => cases h
theorem swaps_out {X : Cx} {y : Str} {py : Pos} {v : Expr} {l : Nat} (kd : X.env.scope.kind = .function) (h : lcOut X.env.scope y py v = true) : swapsWith v (some (.Name y py)) l X.env = pure false := by
  cases v with
  | ListComp el gs scope pos' =>
    simp only [lcOut, Bool.not_eq_true'] at h
    have hb : X.env.blockKind = .function := by unfold Env.blockKind; rw [kd]; rfl
    unfold swapsWith
    simp only [hb, Expr.pos, Env.kindOf]
    have e : (ScopeKind.function == ScopeKind.function) = true := rfl
    rw [e, Bool.true_and]
    show pure _ = pure false
    rw [h]
  | SetComp _ _ _ _ => cases h
  | DictComp _ _ _ _ _ => cases h
  | _ => rfl
theorem par_inv {N : List Str} {sc : Scope} {i j : Nat} {a b : SE} {st : Stmt} (h : mtS cg N sc (.par i j a b) st = true) : ∃ x px y py kt pt l r k2 pt2 pos, st = .Assign [.Tuple [.Name x px, .Name y py] kt pt] (.Tuple [l, r] k2 pt2) pos ∧
    mtS cg N sc (.par i j a b) (.Assign [.Tuple [.Name x px, .Name y py] kt pt] (.Tuple [l, r] k2 pt2) pos) = true := by
  have h' := h
  unfold mtS at h
  split at h <;> first
    | (rename_i q; cases q; done)
    | (rename_i q; cases q; exact ⟨_, _, _, _, _, _, _, _, _, _, _, rfl, h'⟩)
    | cases h
theorem app_inv {N : List Str} {sc : Scope} {i : Nat} {e : SE} {st : Stmt} (h : mtS cg N sc (.app i e) st = true) : ∃ x px m ap l cp pos, st = .Expr (.Call (.Attribute (.Name x px) m ap) [l] [] cp) pos ∧
    mtS cg N sc (.app i e) (.Expr (.Call (.Attribute (.Name x px) m ap) [l] [] cp) pos) = true := by
  have h' := h
  unfold mtS at h
  split at h <;> first
    | (rename_i q; cases q; done)
    | (rename_i q; cases q; exact ⟨_, _, _, _, _, _, _, rfl, h'⟩)
    | cases h
theorem ext_inv {N : List Str} {sc : Scope} {i : Nat} {e : SE} {st : Stmt} (h : mtS cg N sc (.ext i e) st = true) : ∃ x px m ap l cp pos, st = .Expr (.Call (.Attribute (.Name x px) m ap) [l] [] cp) pos ∧
    mtS cg N sc (.ext i e) (.Expr (.Call (.Attribute (.Name x px) m ap) [l] [] cp) pos) = true := by
  have h' := h
  unfold mtS at h
  split at h <;> first
    | (rename_i q; cases q; done)
    | (rename_i q; cases q; exact ⟨_, _, _, _, _, _, _, rfl, h'⟩)
    | cases h
theorem raise_inv {N : List Str} {sc : Scope} {c : Str} {st : Stmt} (h : mtS cg N sc (.raise c) st = true) : ∃ x p m k p2 p3 pos, st = .Raise (some (.Call (.Name x p) [.Constant (.str m) k p2] [] p3)) none pos ∧
    mtS cg N sc (.raise c) (.Raise (some (.Call (.Name x p) [.Constant (.str m) k p2] [] p3)) none pos) = true := by
  have h' := h
  unfold mtS at h
  split at h <;> first
    | (rename_i q; cases q; done)
    | (rename_i q; cases q; exact ⟨_, _, _, _, _, _, _, rfl, h'⟩)
    | cases h
theorem pop_inv {N : List Str} {sc : Scope} {i j : Nat} {st : Stmt} (h : mtS cg N sc (.pop j i) st = true) : ∃ y py x px m ap cp pos, st = .Assign [.Name y py] (.Call (.Attribute (.Name x px) m ap) [] [] cp) pos ∧
    mtS cg N sc (.pop j i) (.Assign [.Name y py] (.Call (.Attribute (.Name x px) m ap) [] [] cp) pos) = true := by
  have h' := h
  unfold mtS at h
  split at h <;> first
    | (rename_i q; cases q; done)
    | (rename_i q; cases q; exact ⟨_, _, _, _, _, _, _, _, rfl, h'⟩)
    | cases h
theorem rp_dropLast {H : Hp} {vs : List V} {ds : List D} (h : RpAll H vs ds) : RpAll H vs.dropLast ds.dropLast := by
  rw [List.dropLast_eq_take, List.dropLast_eq_take, h.length]
  exact h.take _
theorem setIx_inv {N : List Str} {sc : Scope} {i : Nat} {k e : SE} {st : Stmt} (h : mtS cg N sc (.setIx i k e) st = true) : ∃ x px l sp v pos, st = .Assign [.Subscript (.Name x px) l sp] v pos ∧
    mtS cg N sc (.setIx i k e) (.Assign [.Subscript (.Name x px) l sp] v pos) = true := by
  have h' := h
  unfold mtS at h
  split at h <;> first
    | (rename_i q; cases q; done)
    | (rename_i q; cases q; exact ⟨_, _, _, _, _, _, rfl, h'⟩)
    | cases h
theorem augIx_inv {N : List Str} {sc : Scope} {i : Nat} {k e : SE} {st : Stmt} (h : mtS cg N sc (.augIx i k e) st = true) : ∃ x px l sp v pos, st = .AugAssign (.Subscript (.Name x px) l sp) .Add v pos ∧
    mtS cg N sc (.augIx i k e) (.AugAssign (.Subscript (.Name x px) l sp) .Add v pos) = true := by
  have h' := h
  unfold mtS at h
  split at h <;> first
    | (rename_i q; cases q; done)
    | (rename_i q; cases q; exact ⟨_, _, _, _, _, _, rfl, h'⟩)
    | cases h
def tGetL : V → V → Hp → VK → Prop := fun o i H Q => ∃ (l : Addr) (vs : List V) (m : Nat) (x : V), o = .ref l ∧ i = .int (.ofNat m) ∧ H l = some (.lst vs) ∧ vs[m]? = some x ∧ Q x H
theorem pget_list {X : Cx} : PGet X tGetL := by
  intro pins s σ H o i ov iv Q I r1 r2 h
  obtain ⟨l, vs, m, x, rfl, rfl, h1, h2, q⟩ := h
  cases r1
  obtain ⟨t, rfl⟩ := r2
  obtain ⟨its, rv, hl, hz⟩ := I.list (SqL.of (K := X.K) h1)
  obtain ⟨u, hu, ru⟩ := rv.get h2
  have hm : m < vs.length := (List.getElem?_eq_some_iff.mp h2).1
  have hz' : vs.length ≤ 16777216 := by have := hz; rw [← line_eq] at this; exact this
  exact wpAny_getItem_list hl.isList (Int.natCast_nonneg m) (by show (m : Int) < 2 ^ 63; omega) (by simpa using hu) ⟨x, H, I, ru, q⟩
theorem ixN_n {n k : Nat} (h : k < n) : ixN n (.ofNat k) = some k := by
  unfold ixN
  have h0 : (0 : Int) ≤ Int.ofNat k := Int.natCast_nonneg k
  have h1 : Int.ofNat k < (n : Int) := Int.ofNat_lt.mpr h
  rw [if_pos h0, if_pos h1]; rfl
mutual
theorem sS : ∀ (s : SS) (st : Stmt) (X : Cx) (W : WX), Ts cg call n W X → mtS cg X.N X.env.scope s st = true → PS X st (tS X.mg call cg.sub W H0 O0 s)
  | .pass, st, X, W, T, h => by
    cases st with
    | Pass pos => exact ps_mono ps_pass fun D σ H ⟨env, O, er, k⟩ => k σ H O er (Same.refl _)
    | _ => simp [mtS] at h
  | .set tg e, st, X, W, T, h => by
    cases st with
    | Assign ts v pos =>
      match ts, h with
      | [t], h =>
        simp only [mtS, Bool.and_eq_true] at h
        obtain ⟨⟨⟨h1, h2⟩, h3⟩, h4⟩ := h
        have pe := sE (H0 := H0) (O0 := O0) e v X W T.toTh h1
        cases t with
        | Name y py =>
          obtain ⟨i, rfl, hi, hx⟩ : ∃ i, tg = [i] ∧ X.N[i]? = some y ∧ L2.Loc X.env.scope y := by
            match tg, h2 with
            | [i], h2 =>
              simp only [tgB, Bool.and_eq_true, beq_iff_eq] at h2
              refine ⟨i, rfl, h2.1, ?_⟩
              have := h2.2
              split at this
              · rename_i q; exact .inl q
              · rename_i q; exact .inr q
              · cases this
            | [], h2 => simp [tgB] at h2
            | _ :: _ :: _, h2 => simp [tgB] at h2
          have ps : PS X (.Assign [.Name y py] v pos) (tAsg (tE X.mg call W H0 O0 e) (gName i)) := by
            simp only [Bool.or_eq_true] at h4
            rcases h4 with h4 | h4
            · exact lc_set T hi h4 h1
            · exact ps_set T.nd hi hx pe (swaps_out T.kd h4) (.inl (T.fnn y))
          refine ps_mono ps fun D σ H ⟨env, O, er, k⟩ => ⟨env, O, er, ?_⟩
          simp only [denS] at k
          exact (k.fin er).imp fun r kr v H1 p => set_done er kr p
        | Tuple es kk tp =>
          have hne : ∀ i, tg ≠ [i] := fun i z => by subst z; simp [tgB] at h2
          refine ps_mono (ps_asg pe (pg_tg (H0 := H0) (O0 := O0) (fn := true) T.nd T.calm (fun _ => T.fnn) h2) (swaps_plain (t := some (.Tuple es kk tp)) (l := pos.line) (env := X.env) h4) (swapped_none h3)) fun D σ H ⟨env, O, er, k⟩ => ⟨env, O, er, ?_⟩
          simp only [denS] at k
          refine (k.fin er).imp fun r kr v H1 p => ?_
          have kr : kS X.mg W H0 O0 D (match r.toD? with | some d => (match setT tg d env with | .ok e => .nx e | _ => .stuck) | none => .stuck) H O := by
            rcases tg with _ | ⟨i, _ | ⟨j, rr⟩⟩
            · exact kr
            · exact absurd rfl (hne i)
            · exact kr
          cases q : r.toD? with
          | none => rw [q] at kr; exact kr.elim
          | some d =>
            rw [q] at kr
            simp only at kr
            cases q2 : setT tg d env with
            | ok env' =>
              rw [q2] at kr
              exact ⟨env, O, d, env', er.later p.1, p.rp er.own q, q2, fun σ' _ _ er' => kr σ' H1 O er' (cut_same p.1)⟩
            | exc c => rw [q2] at kr; exact kr.elim
            | stuck => rw [q2] at kr; exact kr.elim
        | _ => exfalso; rcases tg with _ | ⟨i, _ | ⟨j, rr⟩⟩ <;> simp [tgB] at h2
      | [], h => simp [mtS] at h
      | _ :: _ :: _, h => simp [mtS] at h
    | _ => simp [mtS] at h
  | .par i j a b, st, X, W, T, h => by
    obtain ⟨x, px, y, py, kt, pt, l, r, k2, pt2, pos, rfl, h⟩ := par_inv h
    simp only [mtS, Bool.and_eq_true, beq_iff_eq, Bool.not_eq_true'] at h
    obtain ⟨⟨⟨⟨⟨⟨⟨⟨⟨⟨⟨⟨g1, g2⟩, g3⟩, g4⟩, g5⟩, g6⟩, g7⟩, g8⟩, g9⟩, g10⟩, g11⟩, g12⟩, g13⟩ := h
    have ha : PA X [l, r] (tAs X.mg call W H0 O0 (.cons a (.cons b .nil))) := sA (.cons a (.cons b .nil)) [l, r] X W T.toTh (by simp [mtA, g8, g9, g10, g11])
    have hij : i ≠ j := by simpa using g3
    refine ps_mono (ps_par T.calm T.nd (slot_of g1).1 (slot_of g2).1 hij g4 g5 ha (swapped_pair T.kd g4 g5 g6 (beq_iff_eq.mpr g7) g10 g11 g12 g13)) fun D σ H ⟨env, O, er, k⟩ => ⟨env, O, er, ?_⟩
    simp only [denS] at k
    refine (k.fin er).imp fun ds kd vs H1 s1 r1 => ?_
    match ds, kd, r1 with
    | [d, d'], kd, r1 =>
      cases r1 with
      | cons q1 r1 => cases r1 with
        | cons q2 r1 =>
          cases r1
          exact ⟨_, _, rfl, kd _ H1 O (((er.later s1).set q1).set q2) (cut_same s1)⟩
    | [], kd, _ => exact kd.elim
    | [_], kd, _ => exact kd.elim
    | _ :: _ :: _ :: _, kd, _ => exact kd.elim
  | .aug i o e, st, X, W, T, h => by
    cases st with
    | AugAssign t p v pos =>
      cases t with
      | Name x px =>
        simp only [mtS, Bool.and_eq_true, beq_iff_eq] at h
        obtain ⟨⟨⟨h1, rfl⟩, h0⟩, h2⟩ := h
        obtain ⟨g1, g2, _, _⟩ := slot_of h1
        have pe := sB (sE (H0 := H0) (O0 := O0) e v X W T.toTh h2) h2
        have go : ∀ {ti : TIp}, PIp X o.op ti → (∀ env d x m k D H O σ, getS env i = some (.sh d) → ER H0 O0 env O σ H → Rp (cut H O) m d → RpB O H k x →
            kS X.mg W H0 O0 D (augD o d x i env) H O → ti m k H fun z H2 => D.nx (σ.set i (some z)) H2) → PS X (.AugAssign (.Name x px) o.op v pos) (tS X.mg call cg.sub W H0 O0 (.aug i o e)) := fun {ti} pi step => by
          refine ps_mono (ps_aug T.nd g1 g2 pe pi (.inl (T.fnn x))) fun D σ H ⟨env, O, er, k⟩ => ?_
          simp only [denS] at k
          cases g : getS env i with
          | none => rw [g] at k; exact k.elim
          | some s => cases s with
            | ow o => rw [g] at k; exact k.elim
            | sh d =>
              rw [g] at k
              obtain ⟨m, hm, rm⟩ := er.sh i d g
              refine ⟨m, hm, env, O, er, ?_⟩
              exact (k.fin er).imp fun y ky u H1 s1 r1 => step env d y m u D H1 O σ g (er.later s1) (rm.mono (cut_same s1)) r1 (ky.later (cut_same s1))
        cases o with
        | add =>
          refine go ip_add fun env d x m k D H O σ g er rm rk kk => ?_
          cases d with
          | int a => cases x with
            | int b => cases rm; cases rk.int; exact ⟨a, b, rfl, rfl, kk _ H O (er.set (.int _)) (Same.refl _)⟩
            | _ => exact kk.elim
          | _ => exact kk.elim
        | sub =>
          refine go ip_sub fun env d x m k D H O σ g er rm rk kk => ?_
          cases d with
          | int a => cases x with
            | int b => cases rm; cases rk.int; exact ⟨a, b, rfl, rfl, kk _ H O (er.set (.int _)) (Same.refl _)⟩
            | _ => exact kk.elim
          | _ => exact kk.elim
        | mul =>
          refine go (ti := rI CMul fun i j => .int (i * j)) iop_mul fun env d x m k D H O σ g er rm rk kk => ?_
          cases d with
          | int a => cases x with
            | int b =>
              cases rm; cases rk.int
              have kk : kS X.mg W H0 O0 D (if mulOk64 a b = true then .nx (env.set i (some (.sh (.int (a * b))))) else .stuck) H O := kk
              by_cases c : mulOk64 a b = true
              · rw [if_pos c] at kk
                unfold mulOk64 at c
                simp only [Bool.or_eq_true, Bool.and_eq_true, decide_eq_true_eq] at c
                exact ⟨a, b, rfl, rfl, c, kk _ H O (er.set (.int _)) (Same.refl _)⟩
              · rw [if_neg c] at kk; exact kk.elim
            | _ => exact kk.elim
          | _ => exact kk.elim
        | _ => cases h0
      | _ => simp [mtS] at h
    | _ => simp [mtS] at h
  | .augIx i k e, st, X, W, T, h => by
    obtain ⟨x, px, l, sp, v, pos, rfl, h⟩ := augIx_inv h
    simp only [mtS, Bool.and_eq_true] at h
    obtain ⟨⟨⟨h1, h2⟩, h3⟩, h4⟩ := h
    have pk := sB (sE (H0 := H0) (O0 := O0) k l X W T.toTh h2) h2
    have pe := sB (sE (H0 := H0) (O0 := O0) e v X W T.toTh h3) h3
    refine ps_mono (ps_augS (pv_slot (i := i) h1) pk pget_list pe ip_add set_list (fun ov iv new => by cases l <;> first | rfl | cases h4)) fun D σ H ⟨env, O, er, kk⟩ => ?_
    simp only [denS] at kk
    cases g : getS env i with
    | none => rw [g] at kk; exact kk.elim
    | some s => cases s with
      | sh d => rw [g] at kk; exact kk.elim
      | ow o => cases o with
        | lst ds =>
          rw [g] at kk
          obtain ⟨l', ho, q1, q2, q3, q4, q5⟩ := er.ow i _ g
          cases q5 with
          | lst r5 =>
            refine ⟨.ref l', q1, env, O, er, ?_⟩
            refine (kk.fin er).imp fun x kx u H1 s1 r1 => ?_
            cases x with
            | int m0 => cases m0 with
              | ofNat m =>
                cases r1.int
                simp only at kx
                cases qd : ds[m]? with
                | none => rw [qd] at kx; exact kx.elim
                | some d0 =>
                  rw [qd] at kx
                  obtain ⟨vv, hv1, hv2⟩ := r5.get qd
                  cases d0 with
                  | int a =>
                    cases hv2
                    simp only at kx
                    refine ⟨l', _, m, .int a, rfl, rfl, s1 _ _ q4, hv1, env, O, er.later s1, ?_⟩
                    refine ((kx.later (cut_same s1)).fin (er.later s1)).imp fun y ky w H2 s2 r2 => ?_
                    cases y with
                    | int b =>
                      cases r2.int
                      simp only at ky
                      have s3 := s1.trans s2
                      have r5' := r5.mono (cut_same s3)
                      obtain ⟨er', hc⟩ := (er.later s3).upd (o' := .lst (ds.set m (.int (a + b)))) g q1 (.lst (r5'.set (.int (a + b)) m))
                      have hm : m < ds.length := (List.getElem?_eq_some_iff.mp qd).1
                      exact ⟨a, b, rfl, rfl, l', _, .ofNat m, m, rfl, rfl, s3 _ _ q4, by rw [r5.length]; exact ixN_n hm, ky σ _ O er' (by rw [hc]; exact cut_same s2)⟩
                    | _ => exact ky.elim
                  | _ => exact kx.elim
              | negSucc _ => exact kx.elim
            | _ => exact kx.elim
        | dK _ => rw [g] at kk; exact kk.elim
        | dT _ => rw [g] at kk; exact kk.elim
  | .setIx i k e, st, X, W, T, h => by
    obtain ⟨x, px, l, sp, v, pos, rfl, h⟩ := setIx_inv h
    simp only [mtS, Bool.and_eq_true] at h
    obtain ⟨⟨⟨⟨h1, h2⟩, h3⟩, h4⟩, h5⟩ := h
    have pk := sB (sE (H0 := H0) (O0 := O0) k l X W T.toTh h2) h2
    have pe := sE (H0 := H0) (O0 := O0) e v X W T.toTh h3
    refine ps_mono (ps_asg pe (pg_sub (pv_slot (i := i) h1) pk set_list (fun v => by cases l <;> first | rfl | cases h4)) (swaps_plain (t := some (.Subscript (.Name x px) l sp)) (l := pos.line) (env := X.env) h5) rfl) fun D σ H ⟨env, O, er, kk⟩ => ⟨env, O, er, ?_⟩
    simp only [denS] at kk
    cases g : getS env i with
    | none => rw [g] at kk; exact kk.elim
    | some s => cases s with
      | sh d => rw [g] at kk; exact kk.elim
      | ow o => cases o with
        | lst ds =>
          rw [g] at kk
          obtain ⟨l', ho, q1, q2, q3, q4, q5⟩ := er.ow i _ g
          cases q5 with
          | lst r5 =>
            refine (kk.fin er).imp fun r kr v H1 p1 => ?_
            cases q : r.toD? with
            | none => rw [q] at kr; exact kr.elim
            | some d =>
              rw [q] at kr
              refine ⟨.ref l', q1, env, O, er.later p1.1, ?_⟩
              refine ((kr.later (cut_same p1.1)).fin (er.later p1.1)).imp fun x kx u H2 s2 r2 => ?_
              cases x with
              | int m =>
                cases r2.int
                simp only at kx
                cases qi : ixN ds.length m with
                | none => rw [qi] at kx; exact kx.elim
                | some p =>
                  rw [qi] at kx
                  have rv := (p1.rp er.own q).mono (cut_same s2)
                  have s3 := p1.1.trans s2
                  have r5' := r5.mono (cut_same s3)
                  obtain ⟨er', hc⟩ := (er.later s3).upd (o' := .lst (ds.set p d)) g q1 (.lst (r5'.set rv p))
                  exact ⟨l', _, m, p, rfl, rfl, s3 _ _ q4, by rw [r5.length]; exact qi, kx σ _ O er' (by rw [hc]; exact cut_same s2)⟩
              | _ => exact kx.elim
        | dK _ => rw [g] at kk; exact kk.elim
        | dT _ => rw [g] at kk; exact kk.elim
  | .app i e, st, X, W, T, h => by
    obtain ⟨x, px, m, ap, l, cp, pos, rfl, h⟩ := app_inv h
    simp only [mtS, Bool.and_eq_true, beq_iff_eq] at h
    obtain ⟨⟨⟨⟨h1, rfl⟩, h2⟩, h3⟩, h4⟩ := h
    have pe := sE (H0 := H0) (O0 := O0) e l X W T.toTh h3
    refine ps_mono (ps_expr (pe_bm PySem.F.plainAttrs_list PySem.F.slot_list_append PySem.F.type_list_append mt_append (pv_slot (i := i) h1) (pa_cons pe pa_nil (star_of h4)) rfl (by rw [star_of h4]; rfl) (beq_iff_eq.mpr h2) (star_of h4))) fun D σ H ⟨env, O, er, k⟩ => ?_
    simp only [denS] at k
    cases g : getS env i with
    | none => rw [g] at k; exact k.elim
    | some s => cases s with
      | sh d => rw [g] at k; exact k.elim
      | ow o => cases o with
        | lst ds =>
          rw [g] at k
          obtain ⟨l', ho, q1, q2, q3, q4, q5⟩ := er.ow i _ g
          cases q5 with
          | lst r5 =>
            refine ⟨.ref l', q1, .inl ⟨rfl, _, SqL.of q4⟩, env, O, er, ?_⟩
            refine (k.fin er).imp fun r kr v H1 p1 => ?_
            cases q : r.toD? with
            | none => rw [q] at kr; exact kr.elim
            | some d =>
              rw [q] at kr
              simp only at kr
              by_cases c : ds.length < line
              · rw [if_pos c] at kr
                have rv := p1.rp er.own q
                have r5' := r5.mono (cut_same p1.1)
                obtain ⟨er', hc⟩ := (er.later p1.1).upd (o' := .lst (ds ++ [d])) g q1 (.lst (r5'.append (.cons rv .nil)))
                refine ⟨l', _, v, rfl, rfl, p1.1 _ _ q4, by rw [r5.length, ← line_eq]; exact c, ?_⟩
                exact kr σ _ O er' (by rw [hc]; exact cut_same p1.1)
              · rw [if_neg c] at kr; exact kr.elim
        | dK _ => rw [g] at k; exact k.elim
        | dT _ => rw [g] at k; exact k.elim
  | .ext i e, st, X, W, T, h => by
    obtain ⟨x, px, m, ap, l, cp, pos, rfl, h⟩ := ext_inv h
    simp only [mtS, Bool.and_eq_true, beq_iff_eq] at h
    obtain ⟨⟨⟨⟨h1, rfl⟩, h2⟩, h3⟩, h4⟩ := h
    have pe := sB (sE (H0 := H0) (O0 := O0) e l X W T.toTh h3) h3
    refine ps_mono (ps_expr (pe_bm PySem.F.plainAttrs_list PySem.F.slot_list_extend PySem.F.type_list_extend mt_extend (pv_slot (i := i) h1) (pa_cons pe pa_nil (star_of h4)) rfl (by rw [star_of h4]; rfl) (beq_iff_eq.mpr h2) (star_of h4))) fun D σ H ⟨env, O, er, k⟩ => ?_
    simp only [denS] at k
    cases g : getS env i with
    | none => rw [g] at k; exact k.elim
    | some s => cases s with
      | sh d => rw [g] at k; exact k.elim
      | ow o => cases o with
        | lst ds =>
          rw [g] at k
          obtain ⟨l', ho, q1, q2, q3, q4, q5⟩ := er.ow i _ g
          cases q5 with
          | lst r5 =>
            refine ⟨.ref l', q1, .inl ⟨rfl, _, SqL.of q4⟩, env, O, er, ?_⟩
            refine (k.fin er).imp fun d kr v H1 s1 rb => ?_
            cases d with
            | list es =>
              simp only at kr
              by_cases c : ds.length + es.length ≤ line
              · rw [if_pos c] at kr
                obtain ⟨b, zs, rfl, hb, rz⟩ := rb.list
                have r5' := r5.mono (cut_same s1)
                obtain ⟨er', hc⟩ := (er.later s1).upd (o' := .lst (ds ++ es)) g q1 (.lst (r5'.append rz))
                refine ⟨l', b, _, zs, rfl, rfl, s1 _ _ q4, hb, by rw [r5.length, rz.length, ← line_eq]; exact c, ?_⟩
                exact kr σ _ O er' (by rw [hc]; exact cut_same s1)
              · rw [if_neg c] at kr; exact kr.elim
            | _ => exact kr.elim
        | dK _ => rw [g] at k; exact k.elim
        | dT _ => rw [g] at k; exact k.elim
  | .expr e, st, X, W, T, h => by
    cases st with
    | Expr v pos =>
      simp only [mtS, Bool.and_eq_true] at h
      refine ps_mono (ps_expr (sE (H0 := H0) (O0 := O0) e v X W T.toTh h.1) (swaps_plain h.2)) fun D σ H ⟨env, O, er, k⟩ => ⟨env, O, er, ?_⟩
      simp only [denS] at k
      exact (k.fin er).imp fun r kr v H1 p1 => kr σ H1 O (er.later p1.1) (cut_same p1.1)
    | _ => simp [mtS] at h
  | .ret e, st, X, W, T, h => by
    cases st with
    | Return v pos =>
      cases v with
      | some v =>
        simp only [mtS] at h
        by_cases q : ∃ i, e = .var i
        · obtain ⟨i, rfl⟩ := q
          refine ps_mono (ps_ret (pv_of (W := W) h)) fun D σ H ⟨env, O, er, k⟩ => ?_
          simp only [denS] at k
          cases g : getS env i with
          | none => rw [g] at k; exact k.elim
          | some s => cases s with
            | sh d =>
              rw [g] at k
              obtain ⟨v, q1, q2⟩ := er.sh i d g
              exact ⟨v, q1, k v H (er.back (post_sh q2))⟩
            | ow o =>
              rw [g] at k
              obtain ⟨l, ho, q1, q2, q3, q4, q5⟩ := er.ow i o g
              exact ⟨.ref l, q1, k _ H ⟨er.same, l, ho, rfl, q3, q4, q5.mono (cut_anti fun a z => z.elim (fun z => by rw [z]; exact q2) (er.sub a))⟩⟩
        · refine ps_mono (ps_ret (sE (H0 := H0) (O0 := O0) e v X W T.toTh h)) fun D σ H ⟨env, O, er, k⟩ => ⟨env, O, er, ?_⟩
          have k : kS X.mg W H0 O0 D ((denE call e env).st env fun r => .rt r) H O := by
            cases e with
            | var i => exact absurd ⟨i, rfl⟩ q
            | _ => simpa only [denS] using k
          exact (k.fin er).imp fun r kr v H1 p1 => kr v H1 (er.back p1)
      | none => simp [mtS] at h
    | _ => simp [mtS] at h
  | .retN, st, X, W, T, h => by
    cases st with
    | Return v pos =>
      cases v with
      | some v => simp [mtS] at h
      | none => exact ps_mono ps_retN fun D σ H ⟨env, O, er, k⟩ => k _ H (er.back (post_sh .non))
    | _ => simp [mtS] at h
  | .iff c a b, st, X, W, T, h => by
    cases st with
    | If t x y pos =>
      simp only [mtS, Bool.and_eq_true] at h
      refine ps_mono (ps_if (sT (H0 := H0) (O0 := O0) c t X W T.toTh h.1.1).1 (sBk a x X W T h.1.2) (sBk b y X W T h.2)) fun D σ H ⟨env, O, er, k⟩ => ⟨env, O, er, ?_⟩
      simp only [denS] at k
      refine (k.fin er).imp fun kk hk H1 s1 => ?_
      cases kk with
      | true => rw [if_pos rfl] at hk ⊢; exact ⟨env, O, er.later s1, hk.later (cut_same s1)⟩
      | false => rw [if_neg Bool.false_ne_true] at hk ⊢; exact ⟨env, O, er.later s1, hk.later (cut_same s1)⟩
    | _ => simp [mtS] at h
  | .loop tg it b, st, X, W, T, h => by
    cases st with
    | For t i body oe pos =>
      cases oe with
      | cons _ _ => simp [mtS] at h
      | nil =>
        simp only [mtS, Bool.and_eq_true] at h
        obtain ⟨⟨⟨h1, h2⟩, h3⟩, h4⟩ := h
        refine ps_mono (ps_for T.hp T.calm (sI (H0 := H0) (O0 := O0) true it t i X W T.toTh h2) (pg_tg (H0 := H0) (O0 := O0) (fn := true) T.nd T.calm (fun _ => T.fnn) h1) (sBk b body X W T h4) (fun x => by cases i <;> first | rfl | cases h3)) fun D σ H ⟨env, O, er, k⟩ => ⟨env, O, er, ?_⟩
        simp only [denS] at k
        refine (k.fin er).imp fun items kk J H1 s1 ok => ?_
        rw [if_pos rfl] at ok
        refine ⟨fun i m σ' H' => m = items.length - i ∧ i ≤ items.length ∧ ∃ env' O', ER H0 O0 env' O' σ' H' ∧ Same (cut H1 O) (cut H' O') ∧ kS X.mg W H0 O0 D (forGo (setT tg) (fun e => denB call cg.sub b e) (items.drop i) env') H' O',
          ⟨items.length, by simp, Nat.zero_le _, env, O, er.later s1, Same.refl _, by rw [List.drop_zero]; exact kk.later (cut_same s1)⟩, ?_⟩
        rintro i m σ' H' ⟨rfl, hle, env', O', er', sf, k'⟩
        by_cases hlt : i < items.length
        · refine .inr ⟨ok.goes i H' hlt (sf.trans (cut_sub H' O')), fun σ3 H3 => ∃ env3 O3, ER H0 O0 env3 O3 σ3 H3 ∧ Same (cut H1 O) (cut H3 O3) ∧ kS X.mg W H0 O0 D (forGo (setT tg) (fun e => denB call cg.sub b e) (items.drop (i + 1)) env3) H3 O3,
            fun σ3 H3 ⟨env3, O3, a1, a2, a3⟩ => ⟨items.length - (i + 1), by omega, rfl, hlt, env3, O3, a1, a2, a3⟩, fun x H2 y => ?_⟩
          have hd : items[i]? = some items[i] := by simp [hlt]
          obtain ⟨s2, rx⟩ := ok.yields i H' x H2 _ O' hd er'.own (sf.trans (cut_sub H' O')) sf y
          rw [List.drop_eq_getElem_cons hlt] at k'
          unfold forGo at k'
          cases q : setT tg items[i] env' with
          | exc c => rw [q] at k'; exact k'.elim
          | stuck => rw [q] at k'; exact k'.elim
          | ok e2 =>
            rw [q] at k'
            simp only at k'
            refine ⟨env', O', _, e2, er'.later s2, rx, q, fun σ2 _ _ er2 => ⟨e2, O', er2, ?_⟩⟩
            have sf2 : Same (cut H1 O) (cut H2 O') := sf.trans (cut_same s2)
            cases q2 : denB call cg.sub b e2 with
            | nx e3 => rw [q2] at k'; exact fun σ3 H3 O3 er3 s3 => ⟨e3, O3, er3, sf2.trans s3, k'.later ((cut_same s2).trans s3)⟩
            | ct e3 => rw [q2] at k'; exact fun σ3 H3 O3 er3 s3 => ⟨e3, O3, er3, sf2.trans s3, k'.later ((cut_same s2).trans s3)⟩
            | bk e3 => rw [q2] at k'; exact fun σ3 H3 O3 er3 s3 => k' σ3 H3 O3 er3 ((cut_same s2).trans s3)
            | rt r => rw [q2] at k'; exact k'
            | exc c e3 => rw [q2] at k'; exact k'.later (cut_same s2)
            | stuck => rw [q2] at k'; exact k'
        · have e : i = items.length := by omega
          subst e
          refine .inl ⟨ok.stops H' (sf.trans (cut_sub H' O')), ?_⟩
          rw [List.drop_length] at k'
          exact k' σ' H' O' er' (Same.refl _)
    | _ => simp [mtS] at h
  | .whil m c b, st, X, W, T, h => by
    cases st with
    | While t body oe pos =>
      cases oe with
      | cons _ _ => simp [mtS] at h
      | nil =>
        simp only [mtS, Bool.and_eq_true] at h
        refine ps_mono (ps_while T.hp (sT (H0 := H0) (O0 := O0) c t X W T.toTh h.1).1 (sBk b body X W T h.2)) fun D σ H ⟨env, O, er, k⟩ => ?_
        simp only [denS] at k
        refine ⟨fun m σ' H' => ∃ env' O', ER H0 O0 env' O' σ' H' ∧ kS X.mg W H0 O0 D (whileGo (fun e => denT call c e) (fun e => denB call cg.sub b e) m env') H' O', ⟨m, env, O, er, k⟩, ?_⟩
        rintro m σ' H' ⟨env', O', er', k'⟩
        cases m with
        | zero => exact k'.elim
        | succ m =>
          unfold whileGo at k'
          refine ⟨env', O', er', ?_⟩
          cases q : denT call c env' with
          | exc c' => rw [q] at k'; exact fun C H2 s2 mc => k' C σ' H2 O' mc (er'.later s2) (cut_same s2)
          | stuck => rw [q] at k'; exact k'
          | ok kk =>
            rw [q] at k'
            show ∀ H2, _
            intro H2 s2
            cases kk with
            | false => rw [if_neg Bool.false_ne_true]; exact k' σ' H2 O' (er'.later s2) (cut_same s2)
            | true =>
              rw [if_pos rfl]
              simp only at k'
              refine ⟨fun σ3 H3 => ∃ env3 O3, ER H0 O0 env3 O3 σ3 H3 ∧ kS X.mg W H0 O0 D (whileGo (fun e => denT call c e) (fun e => denB call cg.sub b e) m env3) H3 O3, fun σ3 H3 z => ⟨m, Nat.lt_succ_self m, z⟩, env', O', er'.later s2, ?_⟩
              cases q2 : denB call cg.sub b env' with
              | nx e3 => rw [q2] at k'; exact fun σ3 H3 O3 er3 s3 => ⟨e3, O3, er3, k'.later ((cut_same s2).trans s3)⟩
              | ct e3 => rw [q2] at k'; exact fun σ3 H3 O3 er3 s3 => ⟨e3, O3, er3, k'.later ((cut_same s2).trans s3)⟩
              | bk e3 => rw [q2] at k'; exact fun σ3 H3 O3 er3 s3 => k' σ3 H3 O3 er3 ((cut_same s2).trans s3)
              | rt r => rw [q2] at k'; exact k'
              | exc c e3 => rw [q2] at k'; exact k'.later (cut_same s2)
              | stuck => rw [q2] at k'; exact k'
    | _ => simp [mtS] at h
  | .raise c, st, X, W, T, h => by
    obtain ⟨x, p, m, k, p2, p3, pos, rfl, h⟩ := raise_inv h
    simp only [mtS, Bool.and_eq_true, beq_iff_eq] at h
    obtain ⟨⟨⟨rfl, h1⟩, h2⟩, h3⟩ := h
    obtain ⟨C, hC, ok⟩ := T.cls c h1
    exact ps_mono (ps_raise T.calm T.tk (pmk_own PySem.F.excBase_ValueError ok.ex hC ok.kp (raises_own ok.sb ok.ty) (gl_of h2) (ndb_of h3))) fun D σ H ⟨env, O, er, k⟩ => k C σ H O hC er (Same.refl _)
  | .tri b hs, st, X, W, T, h => by
    cases st with
    | Try body hds oe fb pos =>
      cases oe with
      | cons _ _ => simp [mtS] at h
      | nil => cases fb with
        | cons _ _ => simp [mtS] at h
        | nil =>
          simp only [mtS, Bool.and_eq_true] at h
          obtain ⟨⟨h1, h2⟩, h3⟩ := h
          cases hds with
          | nil => simp at h3
          | cons h0 hds =>
            refine ps_mono (ps_try_many (tb := fun W' => tSB X.mg call cg.sub W' H0 O0 b) T.stk T.frm T.tk (fun W' pn xe tk hp => sBk b body (X.tr pn xe) W' (T.tr pn xe tk hp) h1) (hds_ok (H0 := H0) (O0 := O0) T hs (h0 :: hds) h2)) fun D σ H ⟨env, O, er, k⟩ => ⟨env, O, er, ?_⟩
            simp only [denS] at k
            cases q : denB call cg.sub b env with
            | exc c e => rw [q] at k; exact pick_ok T hs (h0 :: hds) h2 k
            | nx e => rw [q] at k; exact k
            | bk e => rw [q] at k; exact k
            | ct e => rw [q] at k; exact k
            | rt e => rw [q] at k; exact k
            | stuck => rw [q] at k; exact k
    | _ => simp [mtS] at h
  | .brk, st, X, W, T, h => by
    cases st with
    | Break pos => exact ps_mono ps_break fun D σ H ⟨env, O, er, k⟩ => k σ H O er (Same.refl _)
    | _ => simp [mtS] at h
  | .cont, st, X, W, T, h => by
    cases st with
    | Continue pos => exact ps_mono ps_continue fun D σ H ⟨env, O, er, k⟩ => k σ H O er (Same.refl _)
    | _ => simp [mtS] at h
  | .pop j i, st, X, W, T, h => by
    obtain ⟨y, py, x, px, m, ap, cp, pos, rfl, h⟩ := pop_inv h
    simp only [mtS, Bool.and_eq_true, beq_iff_eq] at h
    obtain ⟨⟨⟨h1, h2⟩, rfl⟩, h3⟩ := h
    obtain ⟨g1, g2, _, _⟩ := slot_of h2
    refine ps_mono (ps_set T.nd g1 g2 (pe_bm0 PySem.F.plainAttrs_list PySem.F.slot_list_pop PySem.F.type_list_pop mt_pop (pv_slot (i := i) h1) rfl (beq_iff_eq.mpr h3)) rfl (.inl (T.fnn y))) fun D σ H ⟨env, O, er, k⟩ => ?_
    simp only [denS] at k
    cases g : getS env i with
    | none => rw [g] at k; exact k.elim
    | some s => cases s with
      | sh d => rw [g] at k; exact k.elim
      | ow o => cases o with
        | lst ds =>
          rw [g] at k
          simp only at k
          obtain ⟨l', ho, q1, q2, q3, q4, q5⟩ := er.ow i _ g
          cases q5 with
          | lst r5 =>
            cases q : ds[ds.length - 1]? with
            | none => rw [q] at k; exact k.elim
            | some d =>
              rw [q] at k
              simp only at k
              by_cases c : i = j
              · rw [if_pos c] at k; exact k.elim
              · rw [if_neg c] at k
                obtain ⟨v, e1, rv⟩ := r5.get q
                obtain ⟨er', hc⟩ := er.upd (o' := .lst ds.dropLast) g q1 (.lst (rp_dropLast r5))
                refine ⟨.ref l', q1, .inl ⟨rfl, _, SqL.of q4⟩, l', _, v, rfl, rfl, q4, by rw [r5.length]; exact e1, ?_⟩
                exact k _ _ O (er'.set (by rw [hc]; exact rv)) (by rw [hc]; exact Same.refl _)
        | dK _ => rw [g] at k; exact k.elim
        | dT _ => rw [g] at k; exact k.elim
theorem sBk : ∀ (b : SB) (st : List Stmt) (X : Cx) (W : WX), Ts cg call n W X → mtB cg X.N X.env.scope b st = true → PSs X st (tSB X.mg call cg.sub W H0 O0 b)
  | .nil, st, X, W, T, h => by
    cases st with
    | nil => exact pss_mono pss_nil fun D σ H ⟨env, O, er, k⟩ => k σ H O er (Same.refl _)
    | cons s r => simp [mtB] at h
  | .cons s r, st, X, W, T, h => by
    cases st with
    | nil => simp [mtB] at h
    | cons st rest =>
      simp only [mtB, Bool.and_eq_true] at h
      refine pss_mono (pss_cons (sS s st X W T h.1) (sBk r rest X W T h.2)) fun D σ H ⟨env, O, er, k⟩ => ⟨env, O, er, ?_⟩
      simp only [denB] at k
      cases q : denS call cg.sub s env with
      | nx e => rw [q] at k; exact fun σ' H' O' er' s' => ⟨e, O', er', k.later s'⟩
      | rt r => rw [q] at k; exact k
      | bk e => rw [q] at k; exact k
      | ct e => rw [q] at k; exact k
      | exc c e => rw [q] at k; exact k
      | stuck => rw [q] at k; exact k
  | .frz i r, st, X, W, T, h => by
    simp only [mtB] at h
    refine pss_mono (sBk r st X W T h) fun D σ H ⟨env, O, er, k⟩ => ?_
    simp only [denB] at k
    cases g : getS env i with
    | none => rw [g] at k; exact ⟨env, O, er, k⟩
    | some sl => cases sl with
      | sh d => rw [g] at k; exact ⟨env, O, er, k⟩
      | ow o => cases o with
        | lst ds =>
          rw [g] at k
          obtain ⟨O', er', s'⟩ := er.freeze g
          exact ⟨_, O', er', k.later s'⟩
        | dK _ => rw [g] at k; exact k.elim
        | dT _ => rw [g] at k; exact k.elim
end
end
end PP

namespace PP
open PySem L2
variable [KF]
/-! ### defs -/
/-- a def: the name it is called by, its own name, its parameters, all its names by slot, its text -/
structure Df where
  g : Str
  f : Str
  ps : List Str
  N : List Str
  body : SB
def startE (n : Nat) (ds : List D) : En := ds.map (fun d => some (.sh d)) ++ List.replicate (n - ds.length) none
def endR : Rt → Rs Rv
  | .rt r => .ok r
  | .nx _ => .ok (.sh .none)
  | .exc c _ => .exc c
  | _ => .stuck
def denCall (dfs : List Df) (sub : Str → Str → Option Bool) : Nat → Nat → List D → Rs Rv
  | 0, _, _ => .stuck
  | n + 1, f, ds => match dfs[f]? with
    | some df => if ds.length = df.ps.length then endR (denB (denCall dfs sub n) sub df.body (startE df.N.length ds)) else .stuck
    | none => .stuck
/-- a def stands behind the top, and its text is the one told -/
structure DefOk (K : PySem.W.Frag) (mg : Str → Option Value) (cg : Cg) (df : Df) (st : Stmt) : Prop where
  ex : ∃ f fd, mg df.g = some (.ref f) ∧ L2.Fun K df.f df.f st f fd ∧ Binds K fd df.ps []
  sc : FnScope df.N df.ps (defScope st)
  mt : mtB cg df.N (defScope st) df.body (defBody st) = true
structure ModOk (cg : Cg) (mg : Str → Option Value) (K : PySem.W.Frag) : Prop where
  blt : ∀ x, cg.bn.contains x = true → mg x = none
  gi : ∀ x i, cg.gi.contains (x, i) = true → ∃ t, mg x = some (.int i t)
  gs : ∀ x s, cg.gs.contains (x, s) = true → ∃ t, mg x = some (.str s t)
  cls : ∀ c, cg.cl.contains c = true → ∃ C, mg c = some (.ref C) ∧ ClsOk K C
  exm : ∀ c d b C C', cg.sub c d = some b → mg c = some (.ref C) → mg d = some (.ref C') → PySem.W.exmOne K (.ref C) (.ref C') = some b
theorem er_start {H : Hp} {O : AP1} {N : List Str} {vs : List V} {ds : List D} (hO : OIn O H) (r : RpAll (cut H O) vs ds) (hl : ds.length ≤ N.length) : ER H O (startE N.length ds) O (L2.start N vs) H := by
  have at1 : ∀ i, getS (startE N.length ds) i = (ds[i]?).map Sl.sh := fun i => by
    unfold getS startE
    rw [List.getD_eq_getElem?_getD, List.getElem?_append, List.length_map]
    by_cases h : i < ds.length
    · rw [if_pos h, List.getElem?_map]
      simp [h]
    · rw [if_neg h, List.getElem?_replicate]
      rw [List.getElem?_eq_none (by omega)]
      split <;> rfl
  have at2 : ∀ i v, vs[i]? = some v → (L2.start N vs)[i]? = some (some v) := fun i v h => by
    unfold L2.start
    have hi : i < vs.length := (List.getElem?_eq_some_iff.mp h).1
    rw [List.getElem?_append_left (by simpa using hi), List.getElem?_map, h]; rfl
  refine ⟨?_, fun _ h => h, hO, hO, Same.refl H, fun i d h => ?_, fun i o h => ?_, fun i j o o' l h => ?_⟩
  · unfold L2.start startE
    rw [List.length_append, List.length_append, List.length_map, List.length_map, List.length_replicate, List.length_replicate, r.length]
  · rw [at1] at h
    cases q : ds[i]? with
    | none => rw [q] at h; cases h
    | some d' =>
      rw [q] at h
      cases h
      obtain ⟨v, h1, h2⟩ := r.get q
      exact ⟨v, at2 i v h1, h2⟩
  · rw [at1] at h
    cases q : ds[i]? with
    | none => rw [q] at h; cases h
    | some d' => rw [q] at h; cases h
  · rw [at1] at h
    cases q : ds[i]? with
    | none => rw [q] at h; cases h
    | some d' => rw [q] at h; cases h
/-- EVERY DEF KEEPS WHAT den SAYS, to any depth of calls -/
theorem all_ok {P : Program} {w : World} {K : PySem.W.Frag} {mg : Str → Option Value} {base : Heap} {cg : Cg} {dfs : List Df} (hK : K = KF.K) (M : ModOk cg mg K) (hfn : cg.fn = dfs.map Df.g) {sts : List Stmt}
    (ok : ∀ (f : Nat) (df : Df), dfs[f]? = some df → ∃ st, sts[f]? = some st ∧ DefOk K mg cg df st) :
    ∀ (n : Nat) (f : Nat) (df : Df), dfs[f]? = some df → ∃ a fd st, sts[f]? = some st ∧ L2.Fun K df.f df.f st a fd ∧ mg df.g = some (.ref a) ∧ PySem.W.keepIn K (.ref a) = true ∧ Binds K fd df.ps [] ∧ FnOk P w K mg base (L2.CX P w) n a fd df.ps (spD mg (denCall dfs cg.sub n) f df.ps)
  | 0, f, df, h => by
    obtain ⟨st, hst, d⟩ := ok f df h
    obtain ⟨a, fd, h1, h2, h3⟩ := d.ex
    refine ⟨a, fd, st, hst, h2, h1, h2.kp, h3, ⟨fun vs H Q E ⟨O, ds, hl, _⟩ => hl, fun A outer s H args us vs Q E _ _ _ _ hsp => ?_⟩⟩
    obtain ⟨O, ds, _, _, _, q⟩ := hsp
    exact q.elim
  | n + 1, f, df, h => by
    obtain ⟨st, hst, d⟩ := ok f df h
    obtain ⟨a, fd, h1, h2, h3⟩ := d.ex
    refine ⟨a, fd, st, hst, h2, h1, h2.kp, h3, ?_⟩
    refine h2.okX (N := df.N) d.sc (fun vs H Q E ⟨O, ds, hl, _⟩ => hl) fun cdv A outer s H vs Q E hr hsp => ?_
    obtain ⟨O, ds, hl, hO, r, q⟩ := hsp
    have hp : df.ps.length ≤ df.N.length := by have := congrArg List.length d.sc.pre; rw [List.length_take] at this; omega
    have T : Ts cg (denCall dfs cg.sub n) n (fun cls dd _ H' => E cls dd H') (cxOf (L2.CX P w) P w K mg base df.N df.f (defScope st) a cdv A outer s H E) :=
      { hK := hK, nd := d.sc.nd, calm := rfl, room := hr, blt := M.blt, gi := M.gi, gs := M.gs, tk := takes_of rfl rfl rfl rfl, hp := passes_of rfl, fnn := fun _ => rfl, stk := rfl, frm := rfl, kd := d.sc.kind, cls := M.cls, exm := M.exm,
        fns := fun g x hx => by
          rw [hfn, List.getElem?_map] at hx
          cases e : dfs[g]? with
          | none => rw [e] at hx; cases hx
          | some dg =>
            rw [e] at hx
            cases hx
            obtain ⟨b, fb, _, _, _, b1, b2, b3, b4⟩ := all_ok (base := base) hK M hfn ok n g dg e
            refine ⟨b, fb, dg.ps, b1, b2, b3, b4, fun es he => ?_⟩
            cases n with
            | zero => rfl
            | succ n => unfold denCall; rw [e]; simp only [if_neg he] }
    refine ⟨_, sBk (H0 := H) (O0 := O) df.body (defBody st) _ _ T d.mt, startE df.N.length ds, O, er_start hO r (by rw [← r.length, hl]; exact hp), ?_⟩
    have hds : ds.length = df.ps.length := by rw [← r.length]; exact hl
    unfold denCall at q
    rw [h] at q
    simp only [if_pos hds] at q
    cases e : denB (denCall dfs cg.sub n) cg.sub df.body (startE df.N.length ds) with
    | rt r => rw [e] at q; exact q
    | nx e' => rw [e] at q; exact fun σ' H' O' er' _ => q _ H' ⟨er'.same, .non⟩
    | exc c e' => rw [e] at q; exact fun C σ' H' O' mc er' _ => q C H' er'.same mc
    | bk e' => rw [e] at q; exact q.elim
    | ct e' => rw [e] at q; exact q.elim
    | stuck => rw [e] at q; exact q.elim
/-! ### the law -/
def intsD (ns : List Int) : D := scr (ns.map PyData.int)
def spLaw (K : PySem.W.Frag) : Sp := fun vs H Q _ => ∃ (a : Addr) (ns : List Int), vs = [.ref a] ∧ SqL K H a (ns.map V.int) ∧ ns.length ≤ 63 ∧ (∀ z ∈ ns, Builtin.Int.intBits z ≤ 1048576) ∧ ∀ H', Q (.bl true) H'
/-- the law's own def, by its den at every script -/
theorem law_fn {P : Program} {w : World} {K : PySem.W.Frag} {mg : Str → Option Value} {base : Heap} {CX : CXT} {n f : Nat} {a : Addr} {fd : FuncData} {call : Nat → List D → Rs Rv} (hK : K = KF.K)
    (F : FnOk P w K mg base CX n a fd ["script"] (spD mg call f ["script"])) (law : ∀ ns : List Int, ns.length ≤ 63 → (∀ z ∈ ns, Builtin.Int.intBits z ≤ 1048576) → call f [intsD ns] = .ok (.sh (.bool true))) :
    FnOk P w K mg base CX n a fd ["script"] (spLaw K) := by
  refine F.imp fun vs H Q E ⟨b, ns, e, hs, hl, hb, q⟩ => ?_
  subst e
  have hs' : SqL KF.K (cut H fun _ => False) b (ns.map V.int) := by
    rw [← hK]
    have : Same H (cut H fun _ => False) := fun a o h => cut_of h fun z => z
    exact this.seq hs
  refine ⟨fun _ => False, [intsD ns], rfl, fun a z => z.elim, .cons (.scr hs' (RpAll.ints ns)) .nil, ?_⟩
  rw [law ns hl hb]
  intro v H' p
  have := p.2
  cases this
  exact q H'
end PP
namespace PP
open PySem L2
/-! ### facts of the top -/
structure DefIn (K : PySem.W.Frag) (mg : Str → Option Value) (g f : Str) (st : Stmt) : Prop where
  ex : ∃ a fd, mg g = some (.ref a) ∧ L2.Fun K f f st a fd
theorem def_in {K : PySem.W.Frag} {h : Heap} {mg : Str → Option Value} {g f : Str} {st : Stmt} {a : Addr} {od an : Option Addr} {sl : Array (Option Value)} {oc kV dc pm cd ct : Value} (X : K.In h) (G : h.Ns mainGlobals mg)
    (a1 : PySem.W.nsIn K mainGlobals g = some (some (.ref a))) (l1 : K.lookup a = some ⟨oc, od, .func (PySem.W.fnOf f f (defArgs st) (defBody st) (defScope st) .none kV dc pm an cd ct), sl⟩)
    (c1 : PySem.W.codeIn K cd f = true) (k1 : PySem.W.keepIn K (.ref a) = true) : DefIn K mg g f st := ⟨_, _, PySem.W.mg_of X G a1, fun_mk l1 c1 k1⟩
structure ClsIn (K : PySem.W.Frag) (mg : Str → Option Value) (c : Str) (C : Addr) : Prop where
  m : mg c = some (.ref C)
  ok : ClsOk K C
  cl : PySem.W.isClsIn K C = true
theorem cls_in {K : PySem.W.Frag} {h : Heap} {mg : Str → Option Value} {c : Str} {C : Addr} (X : K.In h) (G : h.Ns mainGlobals mg) (a1 : PySem.W.nsIn K mainGlobals c = some (some (.ref C))) (e : PySem.W.excIn K C veT "ValueError.__new__" = true)
    (k : PySem.W.keepIn K (.ref C) = true) (b : PySem.W.subIn K (.ref C) (.type "BaseException") = some true) (t : PySem.W.typeIn K (.ref C) = some (.type "type")) (i : PySem.W.isClsIn K C = true) : ClsIn K mg c C :=
  ⟨PySem.W.mg_of X G a1, ⟨e, k, b, t⟩, i⟩
theorem exm_mk {K : PySem.W.Frag} {mg : Str → Option Value} {c d : Str} {C C' : Addr} {b : Bool} (x : ClsIn K mg c C) (y : ClsIn K mg d C') (s : PySem.W.subIn K (.ref C) (.ref C') = some b) :
    ∀ E E', mg c = some (.ref E) → mg d = some (.ref E') → PySem.W.exmOne K (.ref E) (.ref E') = some b := fun E E' h h' => by
  rw [x.m] at h
  rw [y.m] at h'
  cases h
  cases h'
  unfold PySem.W.exmOne PySem.W.kitCls
  have i : (PySem.W.clsIn K C').isSome = true := y.cl
  simp [y.ok.sb, y.ok.ty, i, s]
theorem lookup_mem {α β : Type} [BEq α] [LawfulBEq α] {a : α} {b : β} : ∀ {l : List (α × β)}, l.lookup a = some b → (a, b) ∈ l
  | [], h => by cases h
  | (x, y) :: r, h => by
    rw [List.lookup_cons] at h
    cases q : a == x with
    | true =>
      rw [q] at h
      cases h
      rw [beq_iff_eq.mp q]
      exact List.mem_cons_self
    | false =>
      rw [q] at h
      exact List.mem_cons_of_mem _ (lookup_mem h)
theorem law_binds {K : PySem.W.Frag} {f : Str} {st : Stmt} {a : Addr} {fd : FuncData} (F : L2.Fun K f f st a fd) (h : ∀ (kV doc pm : Value) (an : Option Addr) (cdv ct u : Value), bindArgs (PySem.W.fnOf f f (defArgs st) (defBody st) (defScope st) .none kV doc pm an cdv ct) ⟨[u], []⟩ = pure [(("script" : Str), u)]) :
    ∀ (s : Shared) (u : Value), BindsTo s fd ⟨[u], []⟩ [("script", u)] := by
  obtain ⟨oc, od, kV, doc, pm, an, cdv, ct, osl, rfl, lk, hcd⟩ := F.ex
  exact fun s u => .of_eq (h kV doc pm an cdv ct u)
/-- THE END: all facts together -/
theorem law_end {P : Program} {w : World} {K : PySem.W.Frag} {h : Heap} {mg : Str → Option Value} {fa : Addr} {cg : Cg} {dfs : List Df} {sts : List Stmt} {n li : Nat} {ldf : Df} {lst : Stmt} (M : ModOk cg mg K) (hfn : cg.fn = dfs.map Df.g)
    (ok : ∀ (f : Nat) (df : Df), dfs[f]? = some df → ∃ st, sts[f]? = some st ∧ DefOk K mg cg df st) (hl : dfs[li]? = some ldf) (hls : sts[li]? = some lst) (hp : ldf.ps = [("script" : Str)]) (hg : mg ldf.g = some (.ref fa))
    (hb : ∀ (kV doc pm : Value) (an : Option Addr) (cdv ct u : Value), bindArgs (PySem.W.fnOf ldf.f ldf.f (defArgs lst) (defBody lst) (defScope lst) .none kV doc pm an cdv ct) ⟨[u], []⟩ = pure [(("script" : Str), u)])
    (law : ∀ ns : List Int, ns.length ≤ 63 → (∀ z ∈ ns, Builtin.Int.intBits z ≤ 1048576) → denCall dfs cg.sub n li [intsD ns] = .ok (.sh (.bool true))) :
    ∃ fd : FuncData, (∀ (s : Shared) (u : Value), BindsTo s fd ⟨[u], []⟩ [("script", u)]) ∧ ∀ base : Heap, K.In base → base.Ns mainGlobals mg → FnOk P w K mg base (L2.CX P w) n fa fd ["script"] (spLaw K) := by
  letI : KF := ⟨K⟩
  obtain ⟨st, hst, d⟩ := ok li ldf hl
  obtain ⟨a, fd, h1, h2, h3⟩ := d.ex
  rw [hls] at hst
  cases hst
  rw [hg] at h1
  cases h1
  refine ⟨fd, law_binds h2 hb, fun base _ _ => ?_⟩
  obtain ⟨a', fd', st', e1, e2, e3, _, _, F⟩ := all_ok (P := P) (w := w) (base := base) (K := K) rfl M hfn ok n li ldf hl
  rw [hg] at e3
  cases e3
  rw [hls] at e1
  cases e1
  have : fd' = fd := by
    obtain ⟨_, _, _, _, _, _, _, _, _, r1, l1, _⟩ := h2.ex
    obtain ⟨_, _, _, _, _, _, _, _, _, r2, l2, _⟩ := e2.ex
    rw [l1] at l2
    cases l2
    rfl
  subst this
  rw [hp] at F
  exact law_fn rfl F law
theorem walk {l : PySem.W.OpenLaw} {q : Program} {loose : List Str} {XP : (Str → Option Value) → Heap → Prop} {YP : World → Heap → Prop} {d : DefRec} {K : Params → PySem.W.Frag} {k : Nat} (hn : l.most = some 63) (hdf : d.params.defaults = []) (hr : Room k callerA)
    (hY : ∀ (w : World) (h : Heap), YP w h → (K w.params).In h)
    (F : ∀ (w : World) (mg : Str → Option Value) (fa : Addr) (h : Heap), (K w.params).In h → h.Ns mainGlobals mg → mg d.name = some (.ref fa) →
      ∃ fd : FuncData, (∀ (s : Shared) (u : Value), BindsTo s fd ⟨[u], []⟩ [("script", u)]) ∧ ∀ base : Heap, (K w.params).In base → base.Ns mainGlobals mg → FnOk l.prog w (K w.params) mg base (L2.CX l.prog w) k fa fd ["script"] (spLaw (K w.params))) :
    PySem.W.WalkO q loose XP YP l.row.toRowW d [] (fun f vs => PySem.call f vs) :=
  L2.walk_ofB (n := 63) (k := k) (x := "script") (CX := fun w => L2.CX l.prog w) (sp := fun w => spLaw (K w.params)) hn (by decide) hdf hr hY F (fun _ _ a ns hl hb _ hS => ⟨a, ns, rfl, hS, hl, hb, fun _ => rfl⟩) fun _ _ _ _ _ h => by
    obtain ⟨_, _, _, _, _, _, _, _, _, _, _, _, z⟩ := h
    exact z.elim
end PP

namespace PP
open PySem L2
/-! ### den grows with what calls tell -/
def Le {α : Type} (r s : Rs α) : Prop := r = .stuck ∨ r = s
def LeT (r s : Rt) : Prop := r = .stuck ∨ r = s
theorem Le.refl {α : Type} (r : Rs α) : Le r r := .inr rfl
theorem LeT.refl (r : Rt) : LeT r r := .inr rfl
theorem Le.stuck {α : Type} {s : Rs α} : Le .stuck s := .inl rfl
theorem Le.bind {α β : Type} {r s : Rs α} {f g : α → Rs β} (h : Le r s) (k : ∀ a, Le (f a) (g a)) : Le (r.bind f) (s.bind g) := by
  rcases h with rfl | rfl
  · exact .inl rfl
  · cases r with
    | ok a => exact k a
    | exc c => exact .inr rfl
    | stuck => exact .inl rfl
theorem Le.st {α : Type} {r s : Rs α} {f g : α → Rt} {e : En} (h : Le r s) (k : ∀ a, LeT (f a) (g a)) : LeT (r.st e f) (s.st e g) := by
  rcases h with rfl | rfl
  · exact .inl rfl
  · cases r with
    | ok a => exact k a
    | exc c => exact .inr rfl
    | stuck => exact .inl rfl
theorem Le.ok {α : Type} {r s : Rs α} {a : α} (h : Le r s) (e : r = .ok a) : s = .ok a := by
  rcases h with h | h
  · rw [h] at e; cases e
  · rw [← h]; exact e
theorem Le.exc {α : Type} {r s : Rs α} {a : Str} (h : Le r s) (e : r = .exc a) : s = .exc a := by
  rcases h with h | h
  · rw [h] at e; cases e
  · rw [← h]; exact e
def LeC (c d : Nat → List D → Rs Rv) : Prop := ∀ f ds, Le (c f ds) (d f ds)
theorem LeC.trans {a b c : Nat → List D → Rs Rv} (h : LeC a b) (k : LeC b c) : LeC a c := fun f ds => by
  rcases h f ds with e | e
  · exact .inl e
  · rw [e]; exact k f ds
section
variable {c d : Nat → List D → Rs Rv} {sub : Str → Str → Option Bool}
theorem bor_le {env : En} {e : SE} {r s : Rs Rv} (h : Le r s) : Le (bor env e r) (bor env e s) := by
  cases e <;> first
    | exact Le.bind h fun _ => .inr rfl
    | exact .inr rfl
theorem ite_le {α : Type} {p : Prop} [Decidable p] {a b a' b' : Rs α} (h : Le a a') (k : Le b b') : Le (if p then a else b) (if p then a' else b') := by
  by_cases q : p
  · rw [if_pos q, if_pos q]; exact h
  · rw [if_neg q, if_neg q]; exact k
theorem iteT_le {p : Prop} [Decidable p] {a b a' b' : Rt} (h : LeT a a') (k : LeT b b') : LeT (if p then a else b) (if p then a' else b') := by
  by_cases q : p
  · rw [if_pos q, if_pos q]; exact h
  · rw [if_neg q, if_neg q]; exact k
theorem compGo_le {f g : D → Rs (Option D)} (h : ∀ x, Le (f x) (g x)) : ∀ xs, Le (compGo f xs) (compGo g xs)
  | [] => .inr rfl
  | x :: r => by
    unfold compGo
    rcases h x with e | e
    · rw [e]; exact .inl rfl
    · rw [e]
      cases g x with
      | ok o => cases o with
        | some d => exact (compGo_le h r).bind fun _ => .inr rfl
        | none => exact compGo_le h r
      | exc _ => exact .inl rfl
      | stuck => exact .inl rfl
theorem compF_le {st : D → Rs En} {t t' : En → Rs Bool} {el el' : En → Rs Rv} (h : ∀ e, Le (t e) (t' e)) (k : ∀ e, Le (el e) (el' e)) (x : D) : Le (compF st t el x) (compF st t' el' x) := by
  unfold compF
  cases st x with
  | ok e =>
    simp only
    rcases h e with q | q
    · rw [q]; exact .inl rfl
    · rw [q]
      cases t' e with
      | ok b => cases b with
        | true => exact (k e).bind fun _ => .inr rfl
        | false => exact .inr rfl
      | exc _ => exact .inl rfl
      | stuck => exact .inl rfl
  | exc _ => exact .inl rfl
  | stuck => exact .inl rfl
mutual
theorem denE_le (h : LeC c d) : ∀ (e : SE) (env : En), Le (denE c e env) (denE d e env)
  | .var i, env => .inr rfl
  | .non, env => .inr rfl
  | .bl _, env => .inr rfl
  | .int _, env => .inr rfl
  | .str _, env => .inr rfl
  | .gint _ _, env => .inr rfl
  | .gstr _ _, env => .inr rfl
  | .bin o a b, env => by simp only [denE]; exact (bor_le (denE_le h a env)).bind fun _ => (bor_le (denE_le h b env)).bind fun _ => .inr rfl
  | .neg a, env => by simp only [denE]; exact (bor_le (denE_le h a env)).bind fun _ => .inr rfl
  | .cmp o a b, env => by simp only [denE]; exact (bor_le (denE_le h a env)).bind fun _ => (bor_le (denE_le h b env)).bind fun _ => .inr rfl
  | .chain o p a b e, env => by simp only [denE]; exact (bor_le (denE_le h a env)).bind fun _ => (bor_le (denE_le h b env)).bind fun _ => (Le.refl _).bind fun _ => ite_le ((bor_le (denE_le h e env)).bind fun _ => .inr rfl) (.inr rfl)
  | .and a b, env => by
    simp only [denE]
    refine (denE_le h a env).bind fun r => ?_
    cases r with
    | fr _ => exact .inr rfl
    | sh x => cases x with
      | bool k => cases k with
        | true => exact denE_le h b env
        | false => exact .inr rfl
      | _ => exact .inr rfl
  | .or a b, env => by
    simp only [denE]
    refine (denE_le h a env).bind fun r => ?_
    cases r with
    | fr _ => exact .inr rfl
    | sh x => cases x with
      | bool k => cases k with
        | false => exact denE_le h b env
        | true => exact .inr rfl
      | _ => exact .inr rfl
  | .not a, env => by simp only [denE]; exact (bor_le (denE_le h a env)).bind fun _ => .inr rfl
  | .ite t a b, env => by simp only [denE]; exact (denT_le h t env).bind fun _ => ite_le (denE_le h a env) (denE_le h b env)
  | .tup as, env => by simp only [denE]; exact (denA_le h as env).bind fun _ => .inr rfl
  | .lst as, env => by simp only [denE]; exact (denA_le h as env).bind fun _ => .inr rfl
  | .ix a i, env => by simp only [denE]; exact (bor_le (denE_le h a env)).bind fun _ => (bor_le (denE_le h i env)).bind fun _ => .inr rfl
  | .sl a lo hi, env => by simp only [denE]; exact (bor_le (denE_le h a env)).bind fun _ => (denO_le h lo env).bind fun _ => (denO_le h hi env).bind fun _ => .inr rfl
  | .call f as, env => by simp only [denE]; exact (denA_le h as env).bind fun ds => h f ds
  | .b1 b a, env => by simp only [denE]; exact (bor_le (denE_le h a env)).bind fun _ => .inr rfl
  | .lenSet a, env => by simp only [denE]; exact (bor_le (denE_le h a env)).bind fun _ => .inr rfl
  | .b2 b a c, env => by simp only [denE]; exact (bor_le (denE_le h a env)).bind fun _ => (bor_le (denE_le h c env)).bind fun _ => .inr rfl
  | .isin a t, env => by simp only [denE]; exact (bor_le (denE_le h a env)).bind fun _ => .inr rfl
  | .listRg r, env => by
    cases r with
    | of a => exact .inr rfl
    | range1 a => simp only [denE]; exact (denI_le h false (.range1 a) env).bind fun _ => .inr rfl
    | range2 a b => simp only [denE]; exact (denI_le h false (.range2 a b) env).bind fun _ => .inr rfl
  | .tupRg r, env => by
    cases r with
    | of a => exact .inr rfl
    | range1 a => simp only [denE]; exact (denI_le h false (.range1 a) env).bind fun _ => .inr rfl
    | range2 a b => simp only [denE]; exact (denI_le h false (.range2 a b) env).bind fun _ => .inr rfl
  | .comp elt tg it t own, env => by
    simp only [denE]
    exact (denI_le h false it env).bind fun _ => (compGo_le (compF_le (fun e => denC_le h t e) fun e => denE_le h elt e) _).bind fun _ => .inr rfl
theorem denT_le (h : LeC c d) : ∀ (e : ST) (env : En), Le (denT c e env) (denT d e env)
  | .and a b, env => by simp only [denT]; exact (denT_le h a env).bind fun _ => ite_le (denT_le h b env) (.inr rfl)
  | .or a b, env => by simp only [denT]; exact (denT_le h a env).bind fun _ => ite_le (.inr rfl) (denT_le h b env)
  | .not a, env => by simp only [denT]; exact (denT_le h a env).bind fun _ => .inr rfl
  | .cmp o a b, env => by simp only [denT]; exact (bor_le (denE_le h a env)).bind fun _ => (bor_le (denE_le h b env)).bind fun _ => .inr rfl
  | .chain o p a b e, env => by simp only [denT]; exact (bor_le (denE_le h a env)).bind fun _ => (bor_le (denE_le h b env)).bind fun _ => (Le.refl _).bind fun _ => ite_le ((bor_le (denE_le h e env)).bind fun _ => .inr rfl) (.inr rfl)
  | .tru e, env => by simp only [denT]; exact (bor_le (denE_le h e env)).bind fun _ => .inr rfl
theorem denA_le (h : LeC c d) : ∀ (e : SA) (env : En), Le (denA c e env) (denA d e env)
  | .nil, env => .inr rfl
  | .cons a r, env => by simp only [denA]; exact (denE_le h a env).bind fun _ => (Le.refl _).bind fun _ => (denA_le h r env).bind fun _ => .inr rfl
theorem denO_le (h : LeC c d) : ∀ (e : SO) (env : En), Le (denO c e env) (denO d e env)
  | .no, env => .inr rfl
  | .so a, env => by simp only [denO]; exact (bor_le (denE_le h a env)).bind fun _ => .inr rfl
theorem denI_le (h : LeC c d) : ∀ (loop : Bool) (e : SI) (env : En), Le (denI c loop e env) (denI d loop e env)
  | loop, .of a, env => by simp only [denI]; exact ite_le ((denE_le h a env).bind fun _ => .inr rfl) ((bor_le (denE_le h a env)).bind fun _ => .inr rfl)
  | loop, .range1 a, env => by simp only [denI]; exact (bor_le (denE_le h a env)).bind fun _ => .inr rfl
  | loop, .range2 a b, env => by simp only [denI]; exact (bor_le (denE_le h a env)).bind fun _ => (bor_le (denE_le h b env)).bind fun _ => .inr rfl
theorem denC_le (h : LeC c d) : ∀ (e : SC) (env : En), Le (denC c e env) (denC d e env)
  | .no, env => .inr rfl
  | .so t, env => by simp only [denC]; exact denT_le h t env
end
theorem forGo_le {st : D → En → Rs En} {b b' : En → Rt} (h : ∀ e, LeT (b e) (b' e)) : ∀ xs env, LeT (forGo st b xs env) (forGo st b' xs env)
  | [], env => .inr rfl
  | x :: r, env => by
    unfold forGo
    cases st x env with
    | ok e =>
      simp only
      rcases h e with q | q
      · rw [q]; exact .inl rfl
      · rw [q]
        cases b' e <;> first | exact .inr rfl | exact forGo_le h r _
    | exc _ => exact .inl rfl
    | stuck => exact .inl rfl
theorem whileGo_le {t t' : En → Rs Bool} {b b' : En → Rt} (k : ∀ e, Le (t e) (t' e)) (h : ∀ e, LeT (b e) (b' e)) : ∀ n env, LeT (whileGo t b n env) (whileGo t' b' n env)
  | 0, env => .inl rfl
  | n + 1, env => by
    unfold whileGo
    rcases k env with q | q
    · rw [q]; exact .inl rfl
    · rw [q]
      cases t' env with
      | ok kk => cases kk with
        | true =>
          simp only
          rcases h env with q | q
          · rw [q]; exact .inl rfl
          · rw [q]
            cases b' env <;> first | exact .inr rfl | exact whileGo_le k h n _
        | false => exact .inr rfl
      | exc _ => exact .inr rfl
      | stuck => exact .inl rfl
mutual
theorem denS_le (h : LeC c d) : ∀ (s : SS) (env : En), LeT (denS c sub s env) (denS d sub s env)
  | .pass, env => .inr rfl
  | .set tg e, env => by simp only [denS]; exact (denE_le h e env).st fun _ => .inr rfl
  | .par i j a b, env => by simp only [denS]; exact (denA_le h _ env).st fun _ => .inr rfl
  | .aug i o e, env => by
    simp only [denS]
    cases getS env i with
    | none => exact .inl rfl
    | some s => cases s with
      | sh x => exact (bor_le (denE_le h e env)).st fun _ => .inr rfl
      | ow _ => exact .inl rfl
  | .setIx i k e, env => by
    simp only [denS]
    cases getS env i with
    | none => exact .inl rfl
    | some s => cases s with
      | sh x => exact .inl rfl
      | ow o => cases o with
        | lst ds =>
          refine (denE_le h e env).st fun r => ?_
          cases r.toD? with
          | none => exact .inl rfl
          | some x => exact (bor_le (denE_le h k env)).st fun _ => .inr rfl
        | _ => exact .inl rfl
  | .augIx i k e, env => by
    simp only [denS]
    cases getS env i with
    | none => exact .inl rfl
    | some s => cases s with
      | sh x => exact .inl rfl
      | ow o => cases o with
        | lst ds =>
          refine (bor_le (denE_le h k env)).st fun x => ?_
          cases x with
          | int m0 => cases m0 with
            | ofNat m =>
              simp only
              cases ds[m]? with
              | none => exact .inl rfl
              | some d0 => cases d0 with
                | int a => exact (bor_le (denE_le h e env)).st fun _ => .inr rfl
                | _ => exact .inl rfl
            | negSucc _ => exact .inl rfl
          | _ => exact .inl rfl
        | _ => exact .inl rfl
  | .app i e, env => by
    simp only [denS]
    cases getS env i with
    | none => exact .inl rfl
    | some s => cases s with
      | sh x => exact .inl rfl
      | ow o => cases o with
        | lst ds => exact (denE_le h e env).st fun _ => .inr rfl
        | _ => exact .inl rfl
  | .ext i e, env => by
    simp only [denS]
    cases getS env i with
    | none => exact .inl rfl
    | some s => cases s with
      | sh x => exact .inl rfl
      | ow o => cases o with
        | lst ds => exact (bor_le (denE_le h e env)).st fun _ => .inr rfl
        | _ => exact .inl rfl
  | .pop j i, env => .inr rfl
  | .expr e, env => by simp only [denS]; exact (denE_le h e env).st fun _ => .inr rfl
  | .ret e, env => by
    cases e <;> first
      | exact .inr rfl
      | (simp only [denS]; exact (denE_le h _ env).st fun _ => .inr rfl)
  | .retN, env => .inr rfl
  | .iff t a b, env => by simp only [denS]; exact (denT_le h t env).st fun _ => iteT_le (denB_le h a env) (denB_le h b env)
  | .loop tg it b, env => by simp only [denS]; exact (denI_le h true it env).st fun _ => forGo_le (fun e => denB_le h b e) _ env
  | .whil n t b, env => by simp only [denS]; exact whileGo_le (fun e => denT_le h t e) (fun e => denB_le h b e) n env
  | .raise _, env => .inr rfl
  | .tri b hs, env => by
    simp only [denS]
    rcases denB_le h b env with q | q
    · rw [q]; exact .inl rfl
    · rw [q]; exact .inr rfl
  | .brk, env => .inr rfl
  | .cont, env => .inr rfl
theorem denB_le (h : LeC c d) : ∀ (b : SB) (env : En), LeT (denB c sub b env) (denB d sub b env)
  | .nil, env => .inr rfl
  | .cons s r, env => by
    simp only [denB]
    rcases denS_le h s env with q | q
    · rw [q]; exact .inl rfl
    · rw [q]
      cases denS d sub s env <;> first | exact .inr rfl | exact denB_le h r _
  | .frz i r, env => by
    simp only [denB]
    cases getS env i with
    | none => exact denB_le h r env
    | some s => cases s with
      | sh x => exact denB_le h r env
      | ow o => cases o with
        | lst ds => exact denB_le h r _
        | _ => exact .inl rfl
end
theorem endR_le {r s : Rt} (h : LeT r s) : Le (endR r) (endR s) := by
  rcases h with rfl | rfl
  · exact .inl rfl
  · exact .inr rfl
end
theorem denCall_le (dfs : List Df) (sub : Str → Str → Option Bool) : ∀ n, LeC (denCall dfs sub n) (denCall dfs sub (n + 1))
  | 0 => fun _ _ => .inl rfl
  | n + 1 => fun f ds => by
    show Le (denCall dfs sub (n + 1) f ds) (denCall dfs sub (n + 1 + 1) f ds)
    unfold denCall
    cases dfs[f]? with
    | none => exact .inr rfl
    | some df => exact ite_le (endR_le (denB_le (denCall_le dfs sub n) _ _)) (.inr rfl)
theorem denCall_mono (dfs : List Df) (sub : Str → Str → Option Bool) {m n : Nat} (h : m ≤ n) : LeC (denCall dfs sub m) (denCall dfs sub n) := by
  induction h with
  | refl => exact fun _ _ => .inr rfl
  | step _ ih => exact ih.trans (denCall_le dfs sub _)
/-- a def by a told oracle -/
theorem call_by {dfs : List Df} {sub : Str → Str → Option Bool} {n f : Nat} {df : Df} {ds : List D} {M : Nat → List D → Rs Rv} (h : LeC M (denCall dfs sub n)) (hf : dfs[f]? = some df) (hl : ds.length = df.ps.length) : Le (endR (denB M sub df.body (startE df.N.length ds))) (denCall dfs sub (n + 1) f ds) := by
  unfold denCall
  rw [hf]
  simp only [if_pos hl]
  exact endR_le (denB_le h _ _)
end PP

namespace PP
open PySem L2

/-! ### den grows with what slots tell -/
def okS : Option Sl → Bool
  | some (.ow (.lst _)) => true
  | some (.ow _) => false
  | _ => true
def EnLe (e f : En) : Prop := e.length = f.length ∧ ∀ i, (getS e i = none ∧ okS (getS f i) = true) ∨ getS e i = getS f i
theorem EnLe.refl (e : En) : EnLe e e := ⟨rfl, fun _ => .inr rfl⟩
theorem getS_setX (e : En) (i j : Nat) (x : Option Sl) : getS (e.set i x) j = if i = j then (if i < e.length then x else none) else getS e j := by
  unfold getS
  rw [List.getD_eq_getElem?_getD, List.getD_eq_getElem?_getD, List.getElem?_set]
  by_cases h : i = j
  · subst h
    rw [if_pos rfl, if_pos rfl]
    by_cases k : i < e.length
    · rw [if_pos k, if_pos k]; rfl
    · rw [if_neg k, if_neg k]; rfl
  · rw [if_neg h, if_neg h]
theorem EnLe.set {e f : En} (h : EnLe e f) (i : Nat) (x : Option Sl) : EnLe (e.set i x) (f.set i x) := ⟨by rw [List.length_set, List.length_set]; exact h.1, fun j => by
  rw [getS_setX, getS_setX, h.1]
  by_cases k : i = j
  · rw [if_pos k, if_pos k]; exact .inr rfl
  · rw [if_neg k, if_neg k]; exact h.2 j⟩
theorem EnLe.gone {e f : En} (h : EnLe e f) (i : Nat) (ds : List D) (k : getS e i = none) : EnLe e (f.set i (some (.sh (.list ds)))) := ⟨by rw [List.length_set]; exact h.1, fun j => by
  rw [getS_setX]
  by_cases q : i = j
  · subst q
    rw [if_pos rfl]
    refine .inl ⟨k, ?_⟩
    split <;> rfl
  · rw [if_neg q]; exact h.2 j⟩
theorem EnLe.wipe {e f : En} (h : EnLe e f) : ∀ vs, EnLe (wipeE e vs) (wipeE f vs)
  | [] => h
  | v :: vs => (EnLe.wipe h vs).set v none
/-- two ends of one block -/
inductive LeX : Rt → Rt → Prop
  | stuck {t : Rt} : LeX .stuck t
  | nx {e f : En} (h : EnLe e f) : LeX (.nx e) (.nx f)
  | bk {e f : En} (h : EnLe e f) : LeX (.bk e) (.bk f)
  | ct {e f : En} (h : EnLe e f) : LeX (.ct e) (.ct f)
  | exc {c : Str} {e f : En} (h : EnLe e f) : LeX (.exc c e) (.exc c f)
  | rt {r : Rv} : LeX (.rt r) (.rt r)
inductive LeE : Rs En → Rs En → Prop
  | stuck {t : Rs En} : LeE .stuck t
  | ok {e f : En} (h : EnLe e f) : LeE (.ok e) (.ok f)
  | exc {c : Str} : LeE (.exc c) (.exc c)
theorem Le.stx {α : Type} {r s : Rs α} {f g : α → Rt} {e e' : En} (h : Le r s) (q : EnLe e e') (k : ∀ a, LeX (f a) (g a)) : LeX (r.st e f) (s.st e' g) := by
  rcases h with rfl | rfl
  · exact .stuck
  · cases r with
    | ok a => exact k a
    | exc c => exact .exc q
    | stuck => exact .stuck
theorem foldE {e f : En} (h : EnLe e f) : ∀ (l : List (Nat × D)), EnLe (l.foldl (fun e p => e.set p.1 (some (.sh p.2))) e) (l.foldl (fun e p => e.set p.1 (some (.sh p.2))) f)
  | [] => h
  | p :: r => foldE (h.set p.1 _) r
theorem setT_le {e f : En} (h : EnLe e f) (tg : List Nat) (d : D) : LeE (setT tg d e) (setT tg d f) := by
  unfold setT
  have many : LeE (setTs tg d e) (setTs tg d f) := by
    unfold setTs
    cases d with
    | tuple ds =>
      simp only
      by_cases k : ds.length = tg.length
      · rw [if_pos k, if_pos k]; exact .ok (foldE h _)
      · rw [if_neg k, if_neg k]; exact .stuck
    | _ => exact .stuck
  match tg with
  | [] => exact many
  | [i] => exact .ok (h.set i _)
  | _ :: _ :: _ => exact many
section
variable {c d : Nat → List D → Rs Rv} {sub : Str → Str → Option Bool} {env en : En}
theorem borX {e : SE} {r s : Rs Rv} (q : EnLe env en) (h : Le r s) : Le (bor env e r) (bor en e s) := by
  cases e <;> first
    | exact Le.bind h fun _ => .inr rfl
    | skip
  rename_i i
  unfold bor
  rcases q.2 i with ⟨z, zk⟩ | z
  · simp only [z]; exact .inl rfl
  · simp only [z]; exact .inr rfl
theorem compFX {st st' : D → Rs En} {t t' : En → Rs Bool} {el el' : En → Rs Rv} (s : ∀ x, LeE (st x) (st' x)) (h : ∀ e f, EnLe e f → Le (t e) (t' f)) (k : ∀ e f, EnLe e f → Le (el e) (el' f)) (x : D) : Le (compF st t el x) (compF st' t' el' x) := by
  unfold compF
  have sx := s x
  generalize st x = a at sx ⊢
  generalize st' x = b at sx ⊢
  cases sx with
  | stuck => exact .inl rfl
  | exc => exact .inl rfl
  | ok q =>
    simp only
    rcases h _ _ q with z | z
    · rw [z]; exact .inl rfl
    · rw [z]
      cases t' _ with
      | ok b => cases b with
        | true => exact (k _ _ q).bind fun _ => .inr rfl
        | false => exact .inr rfl
      | exc _ => exact .inl rfl
      | stuck => exact .inl rfl
mutual
theorem denEX (h : LeC c d) : ∀ (e : SE) (env en : En), EnLe env en → Le (denE c e env) (denE d e en)
  | .var i, env, en, q => by
    simp only [denE]
    rcases q.2 i with ⟨z, zk⟩ | z
    · simp only [z]; exact .inl rfl
    · simp only [z]; exact .inr rfl
  | .non, env, en, q => .inr rfl
  | .bl _, env, en, q => .inr rfl
  | .int _, env, en, q => .inr rfl
  | .str _, env, en, q => .inr rfl
  | .gint _ _, env, en, q => .inr rfl
  | .gstr _ _, env, en, q => .inr rfl
  | .bin o a b, env, en, q => by simp only [denE]; exact (borX q (denEX h a env en q)).bind fun _ => (borX q (denEX h b env en q)).bind fun _ => .inr rfl
  | .neg a, env, en, q => by simp only [denE]; exact (borX q (denEX h a env en q)).bind fun _ => .inr rfl
  | .cmp o a b, env, en, q => by simp only [denE]; exact (borX q (denEX h a env en q)).bind fun _ => (borX q (denEX h b env en q)).bind fun _ => .inr rfl
  | .chain o p a b e, env, en, q => by simp only [denE]; exact (borX q (denEX h a env en q)).bind fun _ => (borX q (denEX h b env en q)).bind fun _ => (Le.refl _).bind fun _ => ite_le ((borX q (denEX h e env en q)).bind fun _ => .inr rfl) (.inr rfl)
  | .and a b, env, en, q => by
    simp only [denE]
    refine (denEX h a env en q).bind fun r => ?_
    cases r with
    | fr _ => exact .inr rfl
    | sh x => cases x with
      | bool k => cases k with
        | true => exact denEX h b env en q
        | false => exact .inr rfl
      | _ => exact .inr rfl
  | .or a b, env, en, q => by
    simp only [denE]
    refine (denEX h a env en q).bind fun r => ?_
    cases r with
    | fr _ => exact .inr rfl
    | sh x => cases x with
      | bool k => cases k with
        | false => exact denEX h b env en q
        | true => exact .inr rfl
      | _ => exact .inr rfl
  | .not a, env, en, q => by simp only [denE]; exact (borX q (denEX h a env en q)).bind fun _ => .inr rfl
  | .ite t a b, env, en, q => by simp only [denE]; exact (denTX h t env en q).bind fun _ => ite_le (denEX h a env en q) (denEX h b env en q)
  | .tup as, env, en, q => by simp only [denE]; exact (denAX h as env en q).bind fun _ => .inr rfl
  | .lst as, env, en, q => by simp only [denE]; exact (denAX h as env en q).bind fun _ => .inr rfl
  | .ix a i, env, en, q => by simp only [denE]; exact (borX q (denEX h a env en q)).bind fun _ => (borX q (denEX h i env en q)).bind fun _ => .inr rfl
  | .sl a lo hi, env, en, q => by simp only [denE]; exact (borX q (denEX h a env en q)).bind fun _ => (denOX h lo env en q).bind fun _ => (denOX h hi env en q).bind fun _ => .inr rfl
  | .call f as, env, en, q => by simp only [denE]; exact (denAX h as env en q).bind fun ds => h f ds
  | .b1 b a, env, en, q => by simp only [denE]; exact (borX q (denEX h a env en q)).bind fun _ => .inr rfl
  | .lenSet a, env, en, q => by simp only [denE]; exact (borX q (denEX h a env en q)).bind fun _ => .inr rfl
  | .b2 b a c, env, en, q => by simp only [denE]; exact (borX q (denEX h a env en q)).bind fun _ => (borX q (denEX h c env en q)).bind fun _ => .inr rfl
  | .isin a t, env, en, q => by simp only [denE]; exact (borX q (denEX h a env en q)).bind fun _ => .inr rfl
  | .listRg r, env, en, q => by
    cases r with
    | of a => exact .inr rfl
    | range1 a => simp only [denE]; exact (denIX h false (.range1 a) env en q).bind fun _ => .inr rfl
    | range2 a b => simp only [denE]; exact (denIX h false (.range2 a b) env en q).bind fun _ => .inr rfl
  | .tupRg r, env, en, q => by
    cases r with
    | of a => exact .inr rfl
    | range1 a => simp only [denE]; exact (denIX h false (.range1 a) env en q).bind fun _ => .inr rfl
    | range2 a b => simp only [denE]; exact (denIX h false (.range2 a b) env en q).bind fun _ => .inr rfl
  | .comp elt tg it t own, env, en, q => by
    simp only [denE]
    exact (denIX h false it env en q).bind fun _ => (compGo_le (compFX (fun x => setT_le (q.wipe _) tg x) (fun e f z => denCX h t e f z) fun e f z => denEX h elt e f z) _).bind fun _ => .inr rfl
theorem denTX (h : LeC c d) : ∀ (e : ST) (env en : En), EnLe env en → Le (denT c e env) (denT d e en)
  | .and a b, env, en, q => by simp only [denT]; exact (denTX h a env en q).bind fun _ => ite_le (denTX h b env en q) (.inr rfl)
  | .or a b, env, en, q => by simp only [denT]; exact (denTX h a env en q).bind fun _ => ite_le (.inr rfl) (denTX h b env en q)
  | .not a, env, en, q => by simp only [denT]; exact (denTX h a env en q).bind fun _ => .inr rfl
  | .cmp o a b, env, en, q => by simp only [denT]; exact (borX q (denEX h a env en q)).bind fun _ => (borX q (denEX h b env en q)).bind fun _ => .inr rfl
  | .chain o p a b e, env, en, q => by simp only [denT]; exact (borX q (denEX h a env en q)).bind fun _ => (borX q (denEX h b env en q)).bind fun _ => (Le.refl _).bind fun _ => ite_le ((borX q (denEX h e env en q)).bind fun _ => .inr rfl) (.inr rfl)
  | .tru e, env, en, q => by simp only [denT]; exact (borX q (denEX h e env en q)).bind fun _ => .inr rfl
theorem denAX (h : LeC c d) : ∀ (e : SA) (env en : En), EnLe env en → Le (denA c e env) (denA d e en)
  | .nil, env, en, q => .inr rfl
  | .cons a r, env, en, q => by simp only [denA]; exact (denEX h a env en q).bind fun _ => (Le.refl _).bind fun _ => (denAX h r env en q).bind fun _ => .inr rfl
theorem denOX (h : LeC c d) : ∀ (e : SO) (env en : En), EnLe env en → Le (denO c e env) (denO d e en)
  | .no, env, en, q => .inr rfl
  | .so a, env, en, q => by simp only [denO]; exact (borX q (denEX h a env en q)).bind fun _ => .inr rfl
theorem denIX (h : LeC c d) : ∀ (loop : Bool) (e : SI) (env en : En), EnLe env en → Le (denI c loop e env) (denI d loop e en)
  | loop, .of a, env, en, q => by simp only [denI]; exact ite_le ((denEX h a env en q).bind fun _ => .inr rfl) ((borX q (denEX h a env en q)).bind fun _ => .inr rfl)
  | loop, .range1 a, env, en, q => by simp only [denI]; exact (borX q (denEX h a env en q)).bind fun _ => .inr rfl
  | loop, .range2 a b, env, en, q => by simp only [denI]; exact (borX q (denEX h a env en q)).bind fun _ => (borX q (denEX h b env en q)).bind fun _ => .inr rfl
theorem denCX (h : LeC c d) : ∀ (e : SC) (env en : En), EnLe env en → Le (denC c e env) (denC d e en)
  | .no, env, en, q => .inr rfl
  | .so t, env, en, q => by simp only [denC]; exact denTX h t env en q
end

theorem forGoX {st : D → En → Rs En} {b b' : En → Rt} (s : ∀ x e f, EnLe e f → LeE (st x e) (st x f)) (h : ∀ e f, EnLe e f → LeX (b e) (b' f)) : ∀ xs env en, EnLe env en → LeX (forGo st b xs env) (forGo st b' xs en)
  | [], env, en, q => .nx q
  | x :: r, env, en, q => by
    unfold forGo
    have sx := s x env en q
    generalize st x env = a at sx ⊢
    generalize st x en = a' at sx ⊢
    cases sx with
    | stuck => exact .stuck
    | exc => exact .stuck
    | ok z =>
      simp only
      have hb := h _ _ z
      generalize b _ = u at hb ⊢
      generalize b' _ = u' at hb ⊢
      cases hb with
      | stuck => exact .stuck
      | nx y => exact forGoX s h r _ _ y
      | ct y => exact forGoX s h r _ _ y
      | bk y => exact .nx y
      | exc y => exact .exc y
      | rt => exact .rt
theorem whileGoX {t t' : En → Rs Bool} {b b' : En → Rt} (k : ∀ e f, EnLe e f → Le (t e) (t' f)) (h : ∀ e f, EnLe e f → LeX (b e) (b' f)) : ∀ n env en, EnLe env en → LeX (whileGo t b n env) (whileGo t' b' n en)
  | 0, env, en, q => .stuck
  | n + 1, env, en, q => by
    unfold whileGo
    rcases k env en q with z | z
    · rw [z]; exact .stuck
    · rw [z]
      cases t' en with
      | ok kk => cases kk with
        | true =>
          simp only
          have hb := h _ _ q
          generalize b env = u at hb ⊢
          generalize b' en = u' at hb ⊢
          cases hb with
          | stuck => exact .stuck
          | nx y => exact whileGoX k h n _ _ y
          | ct y => exact whileGoX k h n _ _ y
          | bk y => exact .nx y
          | exc y => exact .exc y
          | rt => exact .rt
        | false => exact .nx q
      | exc _ => exact .exc q
      | stuck => exact .stuck
theorem denHX : ∀ (l : List SH) (env en : En), EnLe env en → LeX (denH l env) (denH l en)
  | [], env, en, q => .nx q
  | .set i e :: r, env, en, q => by
    cases e <;> simp only [denH] <;> first
      | exact .stuck
      | exact denHX r _ _ (q.set i _)
  | .inc i n :: r, env, en, q => by
    simp only [denH]
    rcases q.2 i with ⟨z, zk⟩ | z
    · simp only [z]; exact .stuck
    · simp only [z]
      cases getS en i with
      | none => exact .stuck
      | some s => cases s with
        | ow _ => exact .stuck
        | sh x => cases x <;> first | exact denHX r _ _ (q.set i _) | exact .stuck
theorem pickHX {s : Str} : ∀ (l : List (Str × List SH)) (env en : En), EnLe env en → LeX (pickH sub s env l) (pickH sub s en l)
  | [], env, en, q => .exc q
  | (x, h) :: r, env, en, q => by
    simp only [pickH]
    cases sub s x with
    | none => exact .stuck
    | some b => cases b with
      | true => exact denHX h _ _ q
      | false => exact pickHX r _ _ q
theorem iteX {p : Prop} [Decidable p] {a b a' b' : Rt} (h : LeX a a') (k : LeX b b') : LeX (if p then a else b) (if p then a' else b') := by
  by_cases q : p
  · rw [if_pos q, if_pos q]; exact h
  · rw [if_neg q, if_neg q]; exact k
theorem augX (q : EnLe env en) (o : Op2) (x y : D) (i : Nat) : LeX (augD o x y i env) (augD o x y i en) := by
  unfold augD
  split
  · exact .nx (q.set i _)
  · exact .nx (q.set i _)
  · exact iteX (.nx (q.set i _)) .stuck
  · exact .stuck
theorem setRX (q : EnLe env en) (tg : List Nat) (r : Rv) : LeX (setR tg r env) (setR tg r en) := by
  have many : LeX (match r.toD? with
    | some d => match setT tg d env with
      | .ok e => Rt.nx e
      | _ => .stuck
    | none => .stuck) (match r.toD? with
    | some d => match setT tg d en with
      | .ok e => Rt.nx e
      | _ => .stuck
    | none => .stuck) := by
    cases r.toD? with
    | none => exact .stuck
    | some x =>
      simp only
      have s := setT_le q tg x
      generalize setT tg x env = a at s ⊢
      generalize setT tg x en = a' at s ⊢
      cases s with
      | stuck => exact .stuck
      | exc => exact .stuck
      | ok z => exact .nx z
  match tg, r with
  | [i], .fr o => exact .nx (q.set i _)
  | [i], .sh x => exact many
  | [], _ => exact many
  | _ :: _ :: _, _ => exact many
theorem slotX (q : EnLe env en) (i : Nat) {f g : Option Sl → Rt} (h0 : f none = .stuck) (h : ∀ s, LeX (f s) (g s)) : LeX (f (getS env i)) (g (getS en i)) := by
  rcases q.2 i with ⟨z, zk⟩ | z
  · rw [z, h0]; exact .stuck
  · rw [z]; exact h _
mutual
theorem denSX (h : LeC c d) : ∀ (s : SS) (env en : En), EnLe env en → LeX (denS c sub s env) (denS d sub s en)
  | .pass, env, en, q => .nx q
  | .set tg e, env, en, q => by simp only [denS]; exact (denEX h e env en q).stx q fun r => setRX q tg r
  | .par i j a b, env, en, q => by
    simp only [denS]
    refine (denAX h _ env en q).stx q fun ds => ?_
    match ds with
    | [] => exact .stuck
    | [_] => exact .stuck
    | [_, _] => exact .nx ((q.set i _).set j _)
    | _ :: _ :: _ :: _ => exact .stuck
  | .aug i o e, env, en, q => by
    simp only [denS]
    rcases q.2 i with ⟨z, zk⟩ | z
    · simp only [z]; exact .stuck
    · simp only [z]
      cases getS en i with
      | none => exact .stuck
      | some s => cases s with
        | sh x => exact (borX q (denEX h e env en q)).stx q fun _ => augX q _ _ _ _
        | ow _ => exact .stuck
  | .setIx i k e, env, en, q => by
    simp only [denS]
    rcases q.2 i with ⟨z, zk⟩ | z
    · simp only [z]; exact .stuck
    · simp only [z]
      cases getS en i with
      | none => exact .stuck
      | some s => cases s with
        | sh x => exact .stuck
        | ow o => cases o with
          | lst ds =>
            refine (denEX h e env en q).stx q fun r => ?_
            cases r.toD? with
            | none => exact .stuck
            | some x =>
              refine (borX q (denEX h k env en q)).stx q fun y => ?_
              cases y with
              | int m =>
                simp only
                cases ixN ds.length m with
                | none => exact .stuck
                | some p => exact .nx (q.set i _)
              | _ => exact .stuck
          | _ => exact .stuck
  | .augIx i k e, env, en, q => by
    simp only [denS]
    rcases q.2 i with ⟨z, zk⟩ | z
    · simp only [z]; exact .stuck
    · simp only [z]
      cases getS en i with
      | none => exact .stuck
      | some s => cases s with
        | sh x => exact .stuck
        | ow o => cases o with
          | lst ds =>
            refine (borX q (denEX h k env en q)).stx q fun x => ?_
            cases x with
            | int m0 => cases m0 with
              | ofNat m =>
                simp only
                cases ds[m]? with
                | none => exact .stuck
                | some d0 => cases d0 with
                  | int a =>
                    refine (borX q (denEX h e env en q)).stx q fun y => ?_
                    cases y with
                    | int b => exact .nx (q.set i _)
                    | _ => exact .stuck
                  | _ => exact .stuck
              | negSucc _ => exact .stuck
            | _ => exact .stuck
          | _ => exact .stuck
  | .app i e, env, en, q => by
    simp only [denS]
    rcases q.2 i with ⟨z, zk⟩ | z
    · simp only [z]; exact .stuck
    · simp only [z]
      cases getS en i with
      | none => exact .stuck
      | some s => cases s with
        | sh x => exact .stuck
        | ow o => cases o with
          | lst ds =>
            refine (denEX h e env en q).stx q fun r => ?_
            cases r.toD? with
            | none => exact .stuck
            | some x => exact iteX (.nx (q.set i _)) .stuck
          | _ => exact .stuck
  | .ext i e, env, en, q => by
    simp only [denS]
    rcases q.2 i with ⟨z, zk⟩ | z
    · simp only [z]; exact .stuck
    · simp only [z]
      cases getS en i with
      | none => exact .stuck
      | some s => cases s with
        | sh x => exact .stuck
        | ow o => cases o with
          | lst ds =>
            refine (borX q (denEX h e env en q)).stx q fun y => ?_
            cases y with
            | list es => exact iteX (.nx (q.set i _)) .stuck
            | _ => exact .stuck
          | _ => exact .stuck
  | .pop j i, env, en, q => by
    simp only [denS]
    rcases q.2 i with ⟨z, zk⟩ | z
    · simp only [z]; exact .stuck
    · simp only [z]
      cases getS en i with
      | none => exact .stuck
      | some s => cases s with
        | sh x => exact .stuck
        | ow o => cases o with
          | lst ds =>
            simp only
            cases ds[ds.length - 1]? with
            | none => exact .stuck
            | some x => exact iteX .stuck (.nx ((q.set i _).set j _))
          | _ => exact .stuck
  | .expr e, env, en, q => by simp only [denS]; exact (denEX h e env en q).stx q fun _ => .nx q
  | .ret e, env, en, q => by
    cases e <;> first
      | (simp only [denS]; exact (denEX h _ env en q).stx q fun _ => .rt)
      | skip
    rename_i i
    simp only [denS]
    rcases q.2 i with ⟨z, zk⟩ | z
    · simp only [z]; exact .stuck
    · simp only [z]
      cases getS en i with
      | none => exact .stuck
      | some s => cases s <;> exact .rt
  | .retN, env, en, q => .rt
  | .iff t a b, env, en, q => by simp only [denS]; exact (denTX h t env en q).stx q fun _ => iteX (denBX h a env en q) (denBX h b env en q)
  | .loop tg it b, env, en, q => by simp only [denS]; exact (denIX h true it env en q).stx q fun _ => forGoX (fun x e f z => setT_le z tg x) (fun e f z => denBX h b e f z) _ env en q
  | .whil n t b, env, en, q => by simp only [denS]; exact whileGoX (fun e f z => denTX h t e f z) (fun e f z => denBX h b e f z) n env en q
  | .raise _, env, en, q => .exc q
  | .tri b hs, env, en, q => by
    simp only [denS]
    have hb := denBX h b env en q
    generalize denB c sub b env = u at hb ⊢
    generalize denB d sub b en = u' at hb ⊢
    cases hb with
    | stuck => exact .stuck
    | nx y => exact .nx y
    | ct y => exact .ct y
    | bk y => exact .bk y
    | exc y => exact pickHX hs _ _ y
    | rt => exact .rt
  | .brk, env, en, q => .bk q
  | .cont, env, en, q => .ct q
theorem denBX (h : LeC c d) : ∀ (b : SB) (env en : En), EnLe env en → LeX (denB c sub b env) (denB d sub b en)
  | .nil, env, en, q => .nx q
  | .cons s r, env, en, q => by
    simp only [denB]
    have hb := denSX h s env en q
    generalize denS c sub s env = u at hb ⊢
    generalize denS d sub s en = u' at hb ⊢
    cases hb with
    | stuck => exact .stuck
    | nx y => exact denBX h r _ _ y
    | ct y => exact .ct y
    | bk y => exact .bk y
    | exc y => exact .exc y
    | rt => exact .rt
  | .frz i r, env, en, q => by
    simp only [denB]
    rcases q.2 i with ⟨z, zk⟩ | z
    · simp only [z]
      cases e : getS en i with
      | none => exact denBX h r _ _ q
      | some s => cases s with
        | sh x => exact denBX h r _ _ q
        | ow o => cases o with
          | lst ds => exact denBX h r _ _ (q.gone i ds z)
          | _ => rw [e] at zk; cases zk
    · simp only [z]
      cases getS en i with
      | none => exact denBX h r _ _ q
      | some s => cases s with
        | sh x => exact denBX h r _ _ q
        | ow o => cases o with
          | lst ds => exact denBX h r _ _ (q.set i _)
          | _ => exact .stuck
end
end
end PP

namespace PP
open PySem L2

/-! ### oracles -/
abbrev Orc := Nat → List D → Rs Rv
def orc0 : Orc := fun _ _ => .stuck
section
variable {dfs : List Df} {sub : Str → Str → Option Bool}
theorem orc0_le (n : Nat) : LeC orc0 (denCall dfs sub n) := fun _ _ => .inl rfl
/-- a def by its text -/
def textR (dfs : List Df) (sub : Str → Str → Option Bool) (M : Orc) (i : Nat) (ds : List D) : Rs Rv := match dfs[i]? with
  | some df => if ds.length = df.ps.length then endR (denB M sub df.body (startE df.N.length ds)) else .stuck
  | none => .stuck
theorem textR_le {M : Orc} {n : Nat} (h : LeC M (denCall dfs sub n)) (i : Nat) (ds : List D) : Le (textR dfs sub M i ds) (denCall dfs sub (n + 1) i ds) := by
  unfold textR denCall
  cases dfs[i]? with
  | none => exact .inr rfl
  | some df => exact ite_le (endR_le (denB_le h _ _)) (.inr rfl)
def byTold (i : Nat) (spec : List D → Rs Rv) (M : Orc) : Orc := fun f ds => if f = i then spec ds else M f ds
theorem byTold_le {M : Orc} {n i : Nat} {spec : List D → Rs Rv} (h : LeC M (denCall dfs sub n)) (k : ∀ ds, Le (spec ds) (textR dfs sub M i ds)) : LeC (byTold i spec M) (denCall dfs sub (n + 1)) := fun f ds => by
  unfold byTold
  by_cases e : f = i
  · subst e
    rw [if_pos rfl]
    rcases k ds with z | z
    · exact .inl z
    · rw [z]; exact textR_le h f ds
  · rw [if_neg e]; exact h.trans (denCall_le dfs sub n) f ds
theorem byText_le {M : Orc} {n i : Nat} (h : LeC M (denCall dfs sub n)) : LeC (byTold i (textR dfs sub M i) M) (denCall dfs sub (n + 1)) := byTold_le h fun _ => .inr rfl
theorem LeC.up {M : Orc} {m n : Nat} (h : LeC M (denCall dfs sub m)) (k : m ≤ n) : LeC M (denCall dfs sub n) := h.trans (denCall_mono dfs sub k)
theorem Le.trans {α : Type} {a b c : Rs α} (h : Le a b) (k : Le b c) : Le a c := by
  rcases h with z | z
  · exact .inl z
  · rw [z]; exact k
end
/-! ### Euclid -/
def nI (n : Nat) : Option Sl := some (.sh (.int (.ofNat n)))
theorem euclid_go {c : En → Rs Bool} {b : En → Rt} (hc : ∀ x y : Nat, c [nI x, nI y] = .ok (decide (0 < y))) (hb : ∀ x y : Nat, 0 < y → b [nI x, nI y] = .nx [nI y, nI (x % y)]) :
    ∀ k n x y : Nat, y < 2 ^ k → 2 * k + 1 ≤ n → whileGo c b n [nI x, nI y] = .nx [nI (Nat.gcd x y), nI 0] := by
  have z : ∀ n x : Nat, whileGo c b (n + 1) [nI x, nI 0] = .nx [nI (Nat.gcd x 0), nI 0] := fun n x => by
    unfold whileGo; rw [hc x 0, Nat.gcd_zero_right]; rfl
  have s : ∀ n x y : Nat, 0 < y → whileGo c b (n + 1) [nI x, nI y] = whileGo c b n [nI y, nI (x % y)] := fun n x y h => by
    show (match c [nI x, nI y] with
    | .ok true => match b [nI x, nI y] with
      | .nx e' => whileGo c b n e'
      | .ct e' => whileGo c b n e'
      | .bk e' => .nx e'
      | t => t
    | .ok false => .nx _
    | .exc c => .exc c _
    | .stuck => .stuck) = _
    rw [hc x y, hb x y h, decide_eq_true h]
  intro k
  induction k with
  | zero =>
    intro n x y h hn
    have : y = 0 := by rw [Nat.pow_zero] at h; omega
    subst this
    obtain ⟨m, rfl⟩ : ∃ m, n = m + 1 := ⟨n - 1, by omega⟩
    exact z m x
  | succ k ih =>
    intro n x y h hn
    obtain ⟨m, rfl⟩ : ∃ m, n = m + 1 + 1 := ⟨n - 2, by omega⟩
    rcases Nat.eq_zero_or_pos y with e | e
    · subst e; exact z _ x
    · rw [s _ _ _ e]
      have g1 : Nat.gcd x y = Nat.gcd y (x % y) := by rw [Nat.gcd_comm y, ← Nat.gcd_rec, Nat.gcd_comm]
      rw [g1]
      rcases Nat.eq_zero_or_pos (x % y) with e2 | e2
      · rw [e2]; exact z _ y
      · rw [s _ _ _ e2]
        have g2 : Nat.gcd y (x % y) = Nat.gcd (x % y) (y % (x % y)) := by rw [Nat.gcd_comm (x % y), ← Nat.gcd_rec, Nat.gcd_comm]
        rw [g2]
        refine ih m _ _ ?_ (by omega)
        have l1 : x % y < y := Nat.mod_lt _ e
        generalize x % y = r at e2 l1 ⊢
        have l2 : y % r < r := Nat.mod_lt _ e2
        have l3 : y % r + r * (y / r) = y := Nat.mod_add_div y r
        have l4 : 1 ≤ y / r := Nat.div_pos (by omega) e2
        have l5 : r * 1 ≤ r * (y / r) := Nat.mul_le_mul_left r l4
        rw [Nat.pow_succ] at h
        omega
/-! ### fractions -/
def big : Nat := 2000
def nT (a b : Nat) : D := .tuple [.int (.ofNat a), .int (.ofNat b)]
def isN : D → Option Nat
  | .int (.ofNat n) => some n
  | _ => none
def frN (a b : Nat) : D := nT (a / Nat.gcd a b) (b / Nat.gcd a b)
def gcdS (m : Nat) : List D → Rs Rv
  | [.int (.ofNat a), .int (.ofNat b)] => if b.log2 < m then .ok (.sh (.int (.ofNat (Nat.gcd a b)))) else .stuck
  | _ => .stuck
def frS : List D → Rs Rv
  | [.int (.ofNat a), .int (.ofNat b)] => if decide (0 < b) && decide (b.log2 < 8000) then .ok (.sh (frN a b)) else .stuck
  | _ => .stuck
def sm4 (a b c d : Nat) : Bool := decide (0 < b) && decide (0 < d) && decide (a.log2 < big) && decide (b.log2 < big) && decide (c.log2 < big) && decide (d.log2 < big)
def plusS : List D → Rs Rv
  | [.tuple [.int (.ofNat a), .int (.ofNat b)], .tuple [.int (.ofNat c), .int (.ofNat d)]] => if sm4 a b c d then .ok (.sh (frN (a * d + c * b) (b * d))) else .stuck
  | _ => .stuck
def timesS : List D → Rs Rv
  | [.tuple [.int (.ofNat a), .int (.ofNat b)], .tuple [.int (.ofNat c), .int (.ofNat d)]] => if sm4 a b c d then .ok (.sh (frN (a * c) (b * d))) else .stuck
  | _ => .stuck
theorem lt_two {b k : Nat} (h : b.log2 < k) : b < 2 ^ k := by
  rcases Nat.eq_zero_or_pos b with e | e
  · subst e; exact Nat.two_pow_pos k
  · exact (Nat.log2_lt (Nat.pos_iff_ne_zero.mp e)).mp h
theorem frS_at {a b : Nat} (h : 0 < b) (k : b.log2 < 8000) : frS [.int (.ofNat a), .int (.ofNat b)] = .ok (.sh (frN a b)) := by
  unfold frS
  exact if_pos (by rw [Bool.and_eq_true]; exact ⟨decide_eq_true h, decide_eq_true k⟩)
theorem gcdS_at {m a b : Nat} (k : b.log2 < m) : gcdS m [.int (.ofNat a), .int (.ofNat b)] = .ok (.sh (.int (.ofNat (Nat.gcd a b)))) := by
  unfold gcdS
  exact if_pos k
theorem byTold_at {i : Nat} {spec : List D → Rs Rv} {M : Orc} {ds : List D} : byTold i spec M i ds = spec ds := if_pos rfl
theorem byTold_ne {i f : Nat} {spec : List D → Rs Rv} {M : Orc} {ds : List D} (h : f ≠ i) : byTold i spec M f ds = M f ds := if_neg h
theorem log_mul {b d : Nat} (h1 : 0 < b) (h2 : 0 < d) (h4 : b.log2 < big) (h6 : d.log2 < big) : (b * d).log2 < 8000 := by
  have h0 : b * d ≠ 0 := Nat.pos_iff_ne_zero.mp (Nat.mul_pos h1 h2)
  have l1 := lt_two h4
  have l2 := lt_two h6
  have l3 : b * d < 2 ^ (big + big) := by rw [Nat.pow_add]; exact Nat.mul_lt_mul'' l1 l2
  have l4 := (Nat.log2_lt h0).mpr l3
  have : big = 2000 := rfl
  omega
theorem mulOk_nat {a b : Nat} (ha : a.log2 < big) (hb : b.log2 < big) : mulOk (.ofNat a) (.ofNat b) = true := by
  unfold mulOk
  rw [Bool.or_eq_true]
  refine .inr (decide_eq_true ?_)
  show a.log2 + b.log2 < 1000000
  unfold big at ha hb
  omega
theorem bin_mulN {a b : Nat} (ha : a.log2 < big) (hb : b.log2 < big) : binD .mul (.int (.ofNat a)) (.int (.ofNat b)) = .ok (.sh (.int (.ofNat (a * b)))) := by
  unfold binD
  exact if_pos (mulOk_nat ha hb)
theorem bin_addN (a b : Nat) : binD .add (.int (.ofNat a)) (.int (.ofNat b)) = .ok (.sh (.int (.ofNat (a + b)))) := rfl
theorem ixD_0 (x y : Int) : ixD (.tuple [.int x, .int y]) (.int 0) = .ok (.sh (.int x)) := rfl
theorem ixD_1 (x y : Int) : ixD (.tuple [.int x, .int y]) (.int 1) = .ok (.sh (.int y)) := rfl
theorem log_le {a b : Nat} (h : a ≤ b) : a.log2 ≤ b.log2 := by
  rcases Nat.eq_zero_or_pos a with e | e
  · subst e; exact Nat.zero_le _
  · exact (Nat.le_log2 (by omega)).mpr (Nat.le_trans (Nat.log2_self_le (by omega)) h)
theorem divOk_gcd {a b : Nat} (hb : 0 < b) (l : b.log2 < 8000) : divOk (.ofNat (Nat.gcd a b)) = true := by
  unfold divOk
  have p := Nat.gcd_pos_of_pos_right a hb
  have q := log_le (Nat.gcd_le_right a hb)
  rw [Bool.and_eq_true]
  refine ⟨decide_eq_true (Int.ofNat_lt.mpr p), ?_⟩
  rw [Bool.or_eq_true]
  refine .inr (decide_eq_true ?_)
  show (Nat.gcd a b).log2 < 9000
  omega
end PP

namespace PP
open PySem L2

/-! ### data by data -/
mutual
def dEq : D → D → Bool
  | .none, .none => true
  | .bool a, .bool b => a == b
  | .int a, .int b => decide (a = b)
  | .str a, .str b => decide (a = b)
  | .list a, .list b => dEqs a b
  | .tuple a, .tuple b => dEqs a b
  | _, _ => false
def dEqs : List D → List D → Bool
  | [], [] => true
  | a :: r, b :: s => dEq a b && dEqs r s
  | _, _ => false
end
mutual
theorem dEq_eq : ∀ (a b : D), dEq a b = true → a = b
  | .none, b, h => by cases b <;> first | rfl | exact absurd h Bool.false_ne_true
  | .bool a, b, h => by
    cases b <;> first
      | exact absurd h Bool.false_ne_true
      | (simp only [dEq, beq_iff_eq] at h; rw [h])
  | .int a, b, h => by
    cases b <;> first
      | exact absurd h Bool.false_ne_true
      | (simp only [dEq, decide_eq_true_eq] at h; rw [h])
  | .str a, b, h => by
    cases b <;> first
      | exact absurd h Bool.false_ne_true
      | (simp only [dEq, decide_eq_true_eq] at h; rw [h])
  | .list a, b, h => by
    cases b <;> first
      | exact absurd h Bool.false_ne_true
      | (simp only [dEq] at h; rw [dEqs_eq a _ h])
  | .tuple a, b, h => by
    cases b <;> first
      | exact absurd h Bool.false_ne_true
      | (simp only [dEq] at h; rw [dEqs_eq a _ h])
  | .dict _, b, h => by cases b <;> exact absurd h Bool.false_ne_true
theorem dEqs_eq : ∀ (a b : List D), dEqs a b = true → a = b
  | [], b, h => by cases b <;> first | rfl | exact absurd h Bool.false_ne_true
  | x :: r, b, h => by
    cases b with
    | nil => exact absurd h Bool.false_ne_true
    | cons y s =>
      simp only [dEqs, Bool.and_eq_true] at h
      rw [dEq_eq x y h.1, dEqs_eq r s h.2]
end
def rEq : Rs Rv → Rv → Bool
  | .ok (.sh a), .sh b => dEq a b
  | .ok (.fr (.lst a)), .fr (.lst b) => dEqs a b
  | _, _ => false
theorem rEq_eq {r : Rs Rv} {v : Rv} (h : rEq r v = true) : r = .ok v := by
  unfold rEq at h
  split at h
  · rw [dEq_eq _ _ h]
  · rw [dEqs_eq _ _ h]
  · exact absurd h Bool.false_ne_true
/-! ### tables -/
def chk1 (f : Nat → Rs Rv) : Nat → List (Option Rv) → Bool
  | _, [] => true
  | k, none :: r => chk1 f (k + 1) r
  | k, some v :: r => rEq (f k) v && chk1 f (k + 1) r
theorem chk1_of {f : Nat → Rs Rv} : ∀ (l : List (Option Rv)) (k0 : Nat), chk1 f k0 l = true → ∀ k v, l.getD k none = some v → f (k0 + k) = .ok v
  | [], k0, _, k, v, h => by rw [List.getD_eq_getElem?_getD] at h; cases h
  | none :: r, k0, c, 0, v, h => by cases h
  | none :: r, k0, c, k + 1, v, h => by
    have := chk1_of r (k0 + 1) c k v h
    rw [show k0 + (k + 1) = k0 + 1 + k from by omega]; exact this
  | some w :: r, k0, c, 0, v, h => by
    simp only [chk1, Bool.and_eq_true] at c
    cases h
    exact rEq_eq c.1
  | some w :: r, k0, c, k + 1, v, h => by
    simp only [chk1, Bool.and_eq_true] at c
    have := chk1_of r (k0 + 1) c.2 k v h
    rw [show k0 + (k + 1) = k0 + 1 + k from by omega]; exact this
def chk2 (f : Nat → Nat → Rs Rv) : Nat → List (List (Option Rv)) → Bool
  | _, [] => true
  | k, l :: r => chk1 (f k) 0 l && chk2 f (k + 1) r
theorem chk2_of {f : Nat → Nat → Rs Rv} : ∀ (l : List (List (Option Rv))) (k0 : Nat), chk2 f k0 l = true → ∀ k j v, (l.getD k []).getD j none = some v → f (k0 + k) j = .ok v
  | [], k0, _, k, j, v, h => by rw [show ([] : List (List (Option Rv))).getD k [] = [] from rfl, List.getD_eq_getElem?_getD] at h; cases h
  | x :: r, k0, c, 0, j, v, h => by
    simp only [chk2, Bool.and_eq_true] at c
    have := chk1_of x 0 c.1 j v h
    rw [Nat.zero_add] at this; exact this
  | x :: r, k0, c, k + 1, j, v, h => by
    simp only [chk2, Bool.and_eq_true] at c
    have := chk2_of r (k0 + 1) c.2 k j v h
    rw [show k0 + (k + 1) = k0 + 1 + k from by omega]; exact this
def chk3 (f : Nat → Nat → Nat → Rs Rv) : Nat → List (List (List (Option Rv))) → Bool
  | _, [] => true
  | k, l :: r => chk2 (f k) 0 l && chk3 f (k + 1) r
theorem chk3_of {f : Nat → Nat → Nat → Rs Rv} : ∀ (l : List (List (List (Option Rv)))) (k0 : Nat), chk3 f k0 l = true → ∀ k j i v, ((l.getD k []).getD j []).getD i none = some v → f (k0 + k) j i = .ok v
  | [], k0, _, k, j, i, v, h => by
    rw [show ([] : List (List (List (Option Rv)))).getD k [] = [] from rfl, show ([] : List (List (Option Rv))).getD j [] = [] from rfl, List.getD_eq_getElem?_getD] at h; cases h
  | x :: r, k0, c, 0, j, i, v, h => by
    simp only [chk3, Bool.and_eq_true] at c
    have := chk2_of x 0 c.1 j i v h
    rw [Nat.zero_add] at this; exact this
  | x :: r, k0, c, k + 1, j, i, v, h => by
    simp only [chk3, Bool.and_eq_true] at c
    have := chk3_of r (k0 + 1) c.2 k j i v h
    rw [show k0 + (k + 1) = k0 + 1 + k from by omega]; exact this
def dN (n : Nat) : D := .int (.ofNat n)
def spec3 (t : List (List (List (Option Rv)))) : List D → Rs Rv
  | [.int (.ofNat a), .int (.ofNat b), .int (.ofNat c)] => Rs.ofO (((t.getD a []).getD b []).getD c none)
  | _ => .stuck
def spec2 (t : List (List (Option Rv))) : List D → Rs Rv
  | [.int (.ofNat a), .int (.ofNat b)] => Rs.ofO ((t.getD a []).getD b none)
  | _ => .stuck
theorem spec3_le {t : List (List (List (Option Rv)))} {g : List D → Rs Rv} (h : chk3 (fun a b c => g [dN a, dN b, dN c]) 0 t = true) (ds : List D) : Le (spec3 t ds) (g ds) := by
  unfold spec3
  split
  · rename_i a b c
    cases e : ((t.getD a []).getD b []).getD c none with
    | none => exact .inl rfl
    | some v =>
      have := chk3_of t 0 h a b c v e
      rw [Nat.zero_add] at this
      exact .inr this.symm
  · exact .inl rfl
theorem spec2_le {t : List (List (Option Rv))} {g : List D → Rs Rv} (h : chk2 (fun a b => g [dN a, dN b]) 0 t = true) (ds : List D) : Le (spec2 t ds) (g ds) := by
  unfold spec2
  split
  · rename_i a b
    cases e : (t.getD a []).getD b none with
    | none => exact .inl rfl
    | some v =>
      have := chk2_of t 0 h a b v e
      rw [Nat.zero_add] at this
      exact .inr this.symm
  · exact .inl rfl
section
variable {dfs : List Df} {sub : Str → Str → Option Bool}
theorem byCall_le {M : Orc} {n i : Nat} {spec : List D → Rs Rv} (h : LeC M (denCall dfs sub n)) (k : ∀ ds, Le (spec ds) (denCall dfs sub n i ds)) : LeC (byTold i spec M) (denCall dfs sub n) := fun f ds => by
  unfold byTold
  by_cases e : f = i
  · subst e; rw [if_pos rfl]; exact k ds
  · rw [if_neg e]; exact h f ds
theorem textR_at {M : Orc} {i : Nat} {df : Df} {ds : List D} (h : dfs[i]? = some df) (k : ds.length = df.ps.length) : textR dfs sub M i ds = endR (denB M sub df.body (startE df.N.length ds)) := by
  unfold textR; rw [h]; simp only [if_pos k]
/-- a def that calls itself, so deep -/
def deepM (dfs : List Df) (sub : Str → Str → Option Bool) (i : Nat) (M : Orc) : Nat → Orc
  | 0 => M
  | k + 1 => byTold i (textR dfs sub (deepM dfs sub i M k) i) (deepM dfs sub i M k)
theorem deepM_le {M : Orc} {n i : Nat} (h : LeC M (denCall dfs sub n)) : ∀ k, LeC (deepM dfs sub i M k) (denCall dfs sub (n + k))
  | 0 => h
  | k + 1 => byText_le (deepM_le h k)
theorem deep_told {M : Orc} {n i k : Nat} {spec : List D → Rs Rv} (h : LeC M (denCall dfs sub n)) (q : ∀ ds, Le (spec ds) (deepM dfs sub i M k i ds)) : LeC (byTold i spec M) (denCall dfs sub (n + k)) :=
  byCall_le (h.up (Nat.le_add_right n k)) fun ds => (q ds).trans (deepM_le h k i ds)
end
/-! ### den, row by row -/
section
variable {M : Orc} {sub : Str → Str → Option Bool} {env env' : En}
def Va (M : Orc) (e : SE) (env : En) (d : D) : Prop := bor env e (denE M e env) = .ok d
theorem va_var {i : Nat} {d : D} (h : getS env i = some (.sh d)) : Va M (.var i) env d := by unfold Va bor; simp only [h]
theorem va_own {i : Nat} {ds : List D} (h : getS env i = some (.ow (.lst ds))) : Va M (.var i) env (.list ds) := by unfold Va bor; simp only [h]
theorem va_of {e : SE} {d : D} (h : denE M e env = .ok (.sh d)) : Va M e env d := by
  unfold Va
  cases e <;> first
    | (rw [h]; rfl)
    | skip
  rename_i i
  simp only [denE] at h
  unfold bor
  cases q : getS env i with
  | none => simp only [q] at h; cases h
  | some s => cases s with
    | sh x => simp only [q] at h ⊢; cases h; rfl
    | ow _ => simp only [q] at h; cases h
theorem va_fr {e : SE} {ds : List D} (h : denE M e env = .ok (.fr (.lst ds))) : Va M e env (.list ds) := by
  unfold Va
  cases e <;> first
    | (rw [h]; rfl)
    | skip
  rename_i i
  simp only [denE] at h
  cases q : getS env i with
  | none => simp only [q] at h; cases h
  | some s => cases s with
    | sh x => simp only [q] at h; cases h
    | ow _ => simp only [q] at h; cases h
theorem va_int {i : Int} : Va M (.int i) env (.int i) := rfl
theorem vE_var {i : Nat} {d : D} (h : getS env i = some (.sh d)) : denE M (.var i) env = .ok (.sh d) := by simp only [denE, h]
theorem vE_bin {o : Op2} {a b : SE} {x y : D} (ha : Va M a env x) (hb : Va M b env y) : denE M (.bin o a b) env = binD o x y := by
  unfold Va at ha hb; simp only [denE, ha, hb, Rs.bind]
theorem vE_cmp {o : CmpOp} {a b : SE} {x y : D} (ha : Va M a env x) (hb : Va M b env y) : denE M (.cmp o a b) env = (cmpD o x y).bind fun k => .ok (.sh (.bool k)) := by
  unfold Va at ha hb; simp only [denE, ha, hb, Rs.bind]
theorem vT_cmp {o : CmpOp} {a b : SE} {x y : D} (ha : Va M a env x) (hb : Va M b env y) : denT M (.cmp o a b) env = cmpD o x y := by
  unfold Va at ha hb; simp only [denT, ha, hb, Rs.bind]
theorem vT_tru {a : SE} {x : D} (ha : Va M a env x) : denT M (.tru a) env = truD x := by
  unfold Va at ha; simp only [denT, ha, Rs.bind]
theorem vE_not {a : SE} {x : D} (ha : Va M a env x) : denE M (.not a) env = (truD x).bind fun k => .ok (.sh (.bool (!k))) := by
  unfold Va at ha; simp only [denE, ha, Rs.bind]
theorem vE_ix {a b : SE} {x y : D} (ha : Va M a env x) (hb : Va M b env y) : denE M (.ix a b) env = ixD x y := by
  unfold Va at ha hb; simp only [denE, ha, hb, Rs.bind]
theorem vE_b1 {b : B1} {a : SE} {x : D} (ha : Va M a env x) : denE M (.b1 b a) env = b1D b x := by
  unfold Va at ha; simp only [denE, ha, Rs.bind]
theorem vE_isin {t : Ty} {a : SE} {x : D} (ha : Va M a env x) : denE M (.isin a t) env = .ok (.sh (.bool (isinD t x))) := by
  unfold Va at ha; simp only [denE, ha, Rs.bind]
theorem vE_call {f : Nat} {as : SA} {ds : List D} (h : denA M as env = .ok ds) : denE M (.call f as) env = M f ds := by
  simp only [denE, h, Rs.bind]
theorem vE_tup {as : SA} {ds : List D} (h : denA M as env = .ok ds) (k : ds.length ≤ line) : denE M (.tup as) env = .ok (.sh (.tuple ds)) := by
  simp only [denE, h, Rs.bind, if_pos k]
theorem vE_lst {as : SA} {ds : List D} (h : denA M as env = .ok ds) (k : ds.length ≤ line) : denE M (.lst as) env = .ok (.fr (.lst ds)) := by
  simp only [denE, h, Rs.bind, if_pos k]
theorem vA_nil : denA M .nil env = .ok [] := rfl
theorem vA_cons {a : SE} {r : SA} {v : Rv} {d : D} {ds : List D} (h : denE M a env = .ok v) (e : v.toD? = some d) (k : denA M r env = .ok ds) : denA M (.cons a r) env = .ok (d :: ds) := by
  simp only [denA, h, Rs.bind, e, Rs.ofO, k]
theorem vA_sh {a : SE} {r : SA} {d : D} {ds : List D} (h : denE M a env = .ok (.sh d)) (k : denA M r env = .ok ds) : denA M (.cons a r) env = .ok (d :: ds) := vA_cons h rfl k
theorem vE_and {a b : SE} {k : Bool} (h : denE M a env = .ok (.sh (.bool k))) : denE M (.and a b) env = if k = true then denE M b env else .ok (.sh (.bool false)) := by
  simp only [denE, h, Rs.bind]; cases k <;> rfl
theorem vE_or {a b : SE} {k : Bool} (h : denE M a env = .ok (.sh (.bool k))) : denE M (.or a b) env = if k = true then .ok (.sh (.bool true)) else denE M b env := by
  simp only [denE, h, Rs.bind]; cases k <;> rfl
theorem vT_and {a b : ST} {k : Bool} (h : denT M a env = .ok k) : denT M (.and a b) env = if k = true then denT M b env else .ok false := by
  simp only [denT, h, Rs.bind]
theorem vT_or {a b : ST} {k : Bool} (h : denT M a env = .ok k) : denT M (.or a b) env = if k = true then .ok true else denT M b env := by
  simp only [denT, h, Rs.bind]
theorem vT_not {a : ST} {k : Bool} (h : denT M a env = .ok k) : denT M (.not a) env = .ok (!k) := by
  simp only [denT, h, Rs.bind]
/-- rows of a block -/
theorem vB_nil : denB M sub .nil env = .nx env := rfl
theorem vB_cons {s : SS} {r : SB} (h : denS M sub s env = .nx env') : denB M sub (.cons s r) env = denB M sub r env' := by simp only [denB, h]
theorem vB_rt {s : SS} {r : SB} {v : Rv} (h : denS M sub s env = .rt v) : denB M sub (.cons s r) env = .rt v := by simp only [denB, h]
theorem vB_exc {s : SS} {r : SB} {c : Str} (h : denS M sub s env = .exc c env') : denB M sub (.cons s r) env = .exc c env' := by simp only [denB, h]
theorem vB_frz {i : Nat} {r : SB} {d : D} (h : getS env i = some (.sh d)) : denB M sub (.frz i r) env = denB M sub r env := by simp only [denB, h]
theorem vB_frzL {i : Nat} {r : SB} {ds : List D} (h : getS env i = some (.ow (.lst ds))) : denB M sub (.frz i r) env = denB M sub r (env.set i (some (.sh (.list ds)))) := by simp only [denB, h]
theorem vS_set {i : Nat} {e : SE} {d : D} (h : denE M e env = .ok (.sh d)) : denS M sub (.set [i] e) env = .nx (env.set i (some (.sh d))) := by simp only [denS, h]; rfl
theorem vS_setF {i : Nat} {e : SE} {o : OO} (h : denE M e env = .ok (.fr o)) : denS M sub (.set [i] e) env = .nx (env.set i (some (.ow o))) := by simp only [denS, h]; rfl
theorem vS_iff {c : ST} {a b : SB} {k : Bool} (h : denT M c env = .ok k) : denS M sub (.iff c a b) env = if k = true then denB M sub a env else denB M sub b env := by simp only [denS, h]; rfl
theorem vS_ret {e : SE} {v : Rv} (h : denE M e env = .ok v) : denS M sub (.ret e) env = .rt v := by
  cases e <;> first
    | (simp only [denS, h]; rfl)
    | skip
  rename_i i
  simp only [denE] at h
  simp only [denS]
  cases q : getS env i with
  | none => simp only [q] at h; cases h
  | some s => cases s with
    | sh x => simp only [q] at h ⊢; cases h; rfl
    | ow _ => simp only [q] at h; cases h
theorem vS_expr {e : SE} {v : Rv} (h : denE M e env = .ok v) : denS M sub (.expr e) env = .nx env := by simp only [denS, h]; rfl
theorem vS_exprX {e : SE} {c : Str} (h : denE M e env = .exc c) : denS M sub (.expr e) env = .exc c env := by simp only [denS, h]; rfl
theorem vS_setIx {i : Nat} {k e : SE} {ds : List D} {v : Rv} {d : D} {m : Int} {p : Nat} (h : getS env i = some (.ow (.lst ds))) (he : denE M e env = .ok v) (hv : v.toD? = some d) (hk : Va M k env (.int m)) (hp : ixN ds.length m = some p) :
    denS M sub (.setIx i k e) env = .nx (env.set i (some (.ow (.lst (ds.set p d))))) := by
  unfold Va at hk
  simp only [denS, h, he, Rs.st, hv, hk, hp]
end
/-! ### a number within bounds -/
def inR (d : D) (lo hi : Int) : Bool := match d with
  | .int n => decide (lo ≤ n) && decide (n ≤ hi)
  | _ => false
def withinS : List D → Rs Rv
  | [d, .int lo, .int hi] => .ok (.sh (.bool (inR d lo hi)))
  | _ => .stuck
end PP

namespace PP
open PySem L2

theorem ixN_nat {n k : Nat} (h : k < n) : ixN n (.ofNat k) = some k := by
  unfold ixN
  have h0 : (0 : Int) ≤ Int.ofNat k := Int.natCast_nonneg k
  have h1 : Int.ofNat k < (n : Int) := Int.ofNat_lt.mpr h
  rw [if_pos h0, if_pos h1]; rfl
theorem atI_nat {α : Type} {xs : List α} {k : Nat} (h : k < xs.length) : atI xs (.ofNat k) = xs[k]? := by
  unfold atI; rw [ixN_nat h]; rfl
theorem getD_ints (ns : List Int) (k : Nat) : (ns.map PyData.int).getD k (.int 0) = .int (ns.getD k 0) := by
  rw [List.getD_eq_getElem?_getD, List.getD_eq_getElem?_getD, List.getElem?_map]
  cases ns[k]? <;> rfl
theorem mulOk_r {i j : Int} (h : -(2 ^ 64) < j) (k : j < 2 ^ 64) : mulOk i j = true := by
  unfold mulOk
  rw [decide_eq_true h, decide_eq_true k]
  simp only [Bool.and_self, Bool.or_true, Bool.true_or]
theorem mulOk_l {i j : Int} (h : -(2 ^ 64) < i) (k : i < 2 ^ 64) : mulOk i j = true := by
  unfold mulOk
  rw [decide_eq_true h, decide_eq_true k]
  simp only [Bool.and_self, Bool.or_true, Bool.true_or]
theorem bin_mul {i j : Int} (h : mulOk i j = true) : binD .mul (.int i) (.int j) = .ok (.sh (.int (i * j))) := by
  unfold binD; exact if_pos h
theorem bin_add (i j : Int) : binD .add (.int i) (.int j) = .ok (.sh (.int (i + j))) := rfl
theorem bin_sub (i j : Int) : binD .sub (.int i) (.int j) = .ok (.sh (.int (i - j))) := rfl
theorem bin_mod {i j : Int} (h : 0 < j) : binD .mod (.int i) (.int j) = .ok (.sh (.int (i % j))) := by
  unfold binD; exact if_pos h
theorem bin_div {i j : Int} (h : 0 < j) (k : j < 1073741824) : binD .fdiv (.int i) (.int j) = .ok (.sh (.int (i / j))) := by
  have q : divOk j = true := by unfold divOk; rw [decide_eq_true h, decide_eq_true k]; rfl
  unfold binD; exact if_pos q
theorem bin_pow {i j : Int} (h : 0 ≤ j) (k : j ≤ 1000000) (l : i.natAbs < 2 ^ 64) : binD .pow (.int i) (.int j) = .ok (.sh (.int (i ^ j.toNat))) := by
  have q : powOk i j = true := by unfold powOk; rw [decide_eq_true h, decide_eq_true k, decide_eq_true l]; rfl
  unfold binD; exact if_pos q
/-- a cell of the script, or 0 -/
def cellS : List D → Rs Rv
  | [.dict [(.none, .list ds)], .int (.ofNat k)] => .ok (.sh (ds.getD k (.int 0)))
  | _ => .stuck
def sd (x k : Int) : Int := ((x * 1103515245 + 7919 * k + 12345) % 2147483647) ^ 5 % 2147483647
def seedS : List D → Rs Rv
  | [.int x, .int k] => .ok (.sh (.int (sd x k)))
  | _ => .stuck
theorem sd_pos (x k : Int) : 0 ≤ sd x k := Int.emod_nonneg _ (by decide)
/-- pieces of a block -/
def dropB : Nat → SB → SB
  | 0, b => b
  | n + 1, .cons _ r => dropB n r
  | n + 1, .frz _ r => dropB n r
  | _ + 1, .nil => .nil
def retE : SB → SE
  | .cons (.ret e) _ => e
  | .cons (.set _ e) _ => e
  | .cons (.expr e) _ => e
  | _ => .non
def inL : SB → SB
  | .cons (.loop _ _ b) _ => b
  | .cons (.whil _ _ b) _ => b
  | b => b
def thenB : SB → SB
  | .cons (.iff _ b _) _ => b
  | b => b
def condB : SB → ST
  | .cons (.iff c _ _) _ => c
  | _ => .tru .non
/-- a loop by an invariant -/
theorem forGo_inv {st : D → En → Rs En} {b : En → Rt} (I : En → Prop) (xs : List D) (h : ∀ x ∈ xs, ∀ e, I e → ∃ e1 e2, st x e = .ok e1 ∧ b e1 = .nx e2 ∧ I e2) : ∀ e, I e → ∃ e', forGo st b xs e = .nx e' ∧ I e' := by
  induction xs with
  | nil => exact fun e i => ⟨e, rfl, i⟩
  | cons x r ih =>
    intro e i
    obtain ⟨e1, e2, h1, h2, h3⟩ := h x (List.mem_cons_self ..) e i
    obtain ⟨e', h4, h5⟩ := ih (fun y hy => h y (List.mem_cons_of_mem _ hy)) e2 h3
    refine ⟨e', ?_, h5⟩
    unfold forGo
    rw [h1]; simp only [h2]; exact h4
theorem vS_loop {M : Orc} {sub : Str → Str → Option Bool} {env : En} {tg : List Nat} {it : SI} {b : SB} {xs : List D} (h : denI M true it env = .ok xs) : denS M sub (.loop tg it b) env = forGo (setT tg) (fun e => denB M sub b e) xs env := by
  simp only [denS, h]; rfl
theorem mem_rg {n : Nat} {x : D} (h : x ∈ rgD 0 (.ofNat n)) : ∃ k : Nat, k < n ∧ x = .int (.ofNat k) := by
  unfold rgD at h
  rw [List.mem_map] at h
  obtain ⟨k, h1, h2⟩ := h
  rw [List.mem_range] at h1
  refine ⟨k, ?_, ?_⟩
  · have : ((Int.ofNat n) - 0).toNat = n := by rw [Int.sub_zero]; rfl
    rw [this] at h1; exact h1
  · rw [← h2, Int.zero_add]; rfl
/-- numbers told of a list -/
theorem mod_of (x : Int) (n : Nat) (h : 0 < n) : ∃ k : Nat, k < n ∧ x % (.ofNat n) = .ofNat k := by
  have h1 : 0 ≤ x % (n : Int) := Int.emod_nonneg _ (by omega)
  have h2 : x % (n : Int) < n := Int.emod_lt_of_pos _ (by omega)
  refine ⟨(x % (n : Int)).toNat, ?_, ?_⟩
  · omega
  · exact (Int.toNat_of_nonneg h1).symm
end PP

namespace PP
open PySem L2

/-! ### slots that a block leaves -/
def keepH (i : Nat) : List SH → Bool
  | [] => true
  | .set j _ :: r => j != i && keepH i r
  | .inc j _ :: r => j != i && keepH i r
def keepHs (i : Nat) : List (Str × List SH) → Bool
  | [] => true
  | (_, h) :: r => keepH i h && keepHs i r
mutual
def keepS (i : Nat) : SS → Bool
  | .set tg _ => !tg.contains i
  | .par j k _ _ => j != i && k != i
  | .aug j _ _ => j != i
  | .setIx j _ _ => j != i
  | .augIx j _ _ => j != i
  | .app j _ => j != i
  | .ext j _ => j != i
  | .pop j k => j != i && k != i
  | .iff _ a b => keepB i a && keepB i b
  | .loop tg _ b => !tg.contains i && keepB i b
  | .whil _ _ b => keepB i b
  | .tri b hs => keepB i b && keepHs i hs
  | _ => true
def keepB (i : Nat) : SB → Bool
  | .nil => true
  | .cons s r => keepS i s && keepB i r
  | .frz j r => j != i && keepB i r
end
def KeptT (i : Nat) (env : En) : Rt → Prop
  | .nx e => getS e i = getS env i
  | .bk e => getS e i = getS env i
  | .ct e => getS e i = getS env i
  | .exc _ e => getS e i = getS env i
  | _ => True
theorem KeptT.trans {i : Nat} {a b : En} {t : Rt} (h : KeptT i b t) (k : getS b i = getS a i) : KeptT i a t := by
  cases t <;> first
    | exact (show _ = _ from h).trans k
    | exact trivial
theorem get_ne {e : En} {i j : Nat} {x : Option Sl} (h : (j != i) = true) : getS (e.set j x) i = getS e i := by
  rw [getS_setX, if_neg (by simpa using h)]
theorem Rs.st_kept {α : Type} {i : Nat} {env : En} (r : Rs α) {f : α → Rt} (h : ∀ a, KeptT i env (f a)) : KeptT i env (r.st env f) := by
  cases r with
  | ok a => exact h a
  | exc c => exact rfl
  | stuck => exact trivial
theorem fold_kept {i : Nat} : ∀ (l : List (Nat × D)) (env : En), (∀ p ∈ l, (p.1 != i) = true) → getS (l.foldl (fun e p => e.set p.1 (some (.sh p.2))) env) i = getS env i
  | [], _, _ => rfl
  | p :: r, env, h => (fold_kept r (env.set p.1 _) fun q hq => h q (List.mem_cons_of_mem _ hq)).trans (get_ne (h p (List.mem_cons_self ..)))
theorem setT_kept {i : Nat} {tg : List Nat} {d : D} {env e : En} (h : tg.contains i = false) (k : setT tg d env = .ok e) : getS e i = getS env i := by
  have ne : ∀ j ∈ tg, (j != i) = true := fun j hj => by
    rw [bne_iff_ne]; intro z; subst z
    have : tg.contains j = true := by simpa using hj
    rw [this] at h; cases h
  have many : setTs tg d env = .ok e → getS e i = getS env i := fun k => by
    unfold setTs at k
    cases d with
    | tuple ds =>
      simp only at k
      by_cases c : ds.length = tg.length
      · rw [if_pos c] at k; cases k
        exact fold_kept _ _ fun p hp => ne p.1 (List.of_mem_zip hp).1
      · rw [if_neg c] at k; cases k
    | _ => cases k
  unfold setT at k
  match tg with
  | [] => exact many k
  | [j] => cases k; exact get_ne (ne j (List.mem_cons_self ..))
  | _ :: _ :: _ => exact many k
theorem setR_kept {i : Nat} {tg : List Nat} {r : Rv} {env : En} (h : tg.contains i = false) : KeptT i env (setR tg r env) := by
  have many : KeptT i env (match r.toD? with
    | some d => match setT tg d env with
      | .ok e => Rt.nx e
      | _ => .stuck
    | none => .stuck) := by
    cases r.toD? with
    | none => exact trivial
    | some x =>
      simp only
      cases q : setT tg x env with
      | ok e => exact setT_kept h q
      | exc c => exact trivial
      | stuck => exact trivial
  match tg, r with
  | [j], .fr o => exact get_ne (by rw [bne_iff_ne]; intro z; subst z; simp at h)
  | [j], .sh x => exact many
  | [], _ => exact many
  | _ :: _ :: _, _ => exact many
theorem forGo_kept {i : Nat} {st : D → En → Rs En} {b : En → Rt} (hs : ∀ x env e, st x env = .ok e → getS e i = getS env i) (hb : ∀ env, KeptT i env (b env)) : ∀ xs env, KeptT i env (forGo st b xs env)
  | [], env => rfl
  | x :: r, env => by
    unfold forGo
    cases q : st x env with
    | exc c => exact trivial
    | stuck => exact trivial
    | ok e =>
      simp only
      have k1 := hs x env e q
      have k2 := hb e
      cases q2 : b e with
      | nx e' => rw [q2] at k2; exact (forGo_kept hs hb r e').trans ((show _ = _ from k2).trans k1)
      | ct e' => rw [q2] at k2; exact (forGo_kept hs hb r e').trans ((show _ = _ from k2).trans k1)
      | bk e' => rw [q2] at k2; exact (show _ = _ from k2).trans k1
      | exc c e' => rw [q2] at k2; exact (show _ = _ from k2).trans k1
      | rt v => exact trivial
      | stuck => exact trivial
theorem whileGo_kept {i : Nat} {c : En → Rs Bool} {b : En → Rt} (hb : ∀ env, KeptT i env (b env)) : ∀ n env, KeptT i env (whileGo c b n env)
  | 0, env => trivial
  | n + 1, env => by
    unfold whileGo
    cases c env with
    | exc c => exact rfl
    | stuck => exact trivial
    | ok k => cases k with
      | false => exact rfl
      | true =>
        simp only
        have k2 := hb env
        cases q2 : b env with
        | nx e' => rw [q2] at k2; exact (whileGo_kept hb n e').trans k2
        | ct e' => rw [q2] at k2; exact (whileGo_kept hb n e').trans k2
        | bk e' => rw [q2] at k2; exact k2
        | exc c e' => rw [q2] at k2; exact k2
        | rt v => exact trivial
        | stuck => exact trivial
theorem denH_kept {i : Nat} : ∀ (l : List SH) (env : En), keepH i l = true → KeptT i env (denH l env)
  | [], env, _ => rfl
  | .set j e :: r, env, h => by
    simp only [keepH, Bool.and_eq_true] at h
    cases e <;> simp only [denH] <;> first
      | exact trivial
      | exact (denH_kept r _ h.2).trans (get_ne h.1)
  | .inc j n :: r, env, h => by
    simp only [keepH, Bool.and_eq_true] at h
    simp only [denH]
    cases getS env j with
    | none => exact trivial
    | some s => cases s with
      | ow _ => exact trivial
      | sh x => cases x <;> first | exact (denH_kept r _ h.2).trans (get_ne h.1) | exact trivial
theorem pickH_kept {i : Nat} {sub : Str → Str → Option Bool} {c : Str} {env : En} : ∀ (l : List (Str × List SH)), keepHs i l = true → KeptT i env (pickH sub c env l)
  | [], _ => rfl
  | (x, h) :: r, k => by
    simp only [keepHs, Bool.and_eq_true] at k
    simp only [pickH]
    cases sub c x with
    | none => exact trivial
    | some b => cases b with
      | true => exact denH_kept h env k.1
      | false => exact pickH_kept r k.2
section
variable {M : Orc} {sub : Str → Str → Option Bool} {i : Nat}
mutual
theorem denS_kept : ∀ (s : SS) (env : En), keepS i s = true → KeptT i env (denS M sub s env)
  | .pass, env, h => rfl
  | .set tg e, env, h => by
    simp only [denS]
    exact Rs.st_kept _ fun r => setR_kept (by simpa [keepS] using h)
  | .par j k a b, env, h => by
    simp only [keepS, Bool.and_eq_true] at h
    simp only [denS]
    refine Rs.st_kept _ fun ds => ?_
    match ds with
    | [] => exact trivial
    | [_] => exact trivial
    | [_, _] => exact (get_ne h.2).trans (get_ne h.1)
    | _ :: _ :: _ :: _ => exact trivial
  | .aug j o e, env, h => by
    simp only [denS]
    cases getS env j with
    | none => exact trivial
    | some s => cases s with
      | ow _ => exact trivial
      | sh x =>
        refine Rs.st_kept _ fun y => ?_
        unfold augD
        split
        · exact get_ne h
        · exact get_ne h
        · split
          · exact get_ne h
          · exact trivial
        · exact trivial
  | .setIx j k e, env, h => by
    simp only [denS]
    cases getS env j with
    | none => exact trivial
    | some s => cases s with
      | sh x => exact trivial
      | ow o => cases o with
        | lst ds =>
          refine Rs.st_kept _ fun r => ?_
          cases r.toD? with
          | none => exact trivial
          | some x =>
            refine Rs.st_kept _ fun y => ?_
            cases y with
            | int m =>
              simp only
              cases ixN ds.length m with
              | none => exact trivial
              | some p => exact get_ne h
            | _ => exact trivial
        | _ => exact trivial
  | .augIx j k e, env, h => by
    simp only [denS]
    cases getS env j with
    | none => exact trivial
    | some s => cases s with
      | sh x => exact trivial
      | ow o => cases o with
        | lst ds =>
          refine Rs.st_kept _ fun x => ?_
          cases x with
          | int m0 => cases m0 with
            | ofNat m =>
              simp only
              cases ds[m]? with
              | none => exact trivial
              | some d0 => cases d0 with
                | int a =>
                  refine Rs.st_kept _ fun y => ?_
                  cases y with
                  | int b => exact get_ne h
                  | _ => exact trivial
                | _ => exact trivial
            | negSucc _ => exact trivial
          | _ => exact trivial
        | _ => exact trivial
  | .app j e, env, h => by
    simp only [denS]
    cases getS env j with
    | none => exact trivial
    | some s => cases s with
      | sh x => exact trivial
      | ow o => cases o with
        | lst ds =>
          refine Rs.st_kept _ fun r => ?_
          cases r.toD? with
          | none => exact trivial
          | some x =>
            simp only
            split
            · exact get_ne h
            · exact trivial
        | _ => exact trivial
  | .ext j e, env, h => by
    simp only [denS]
    cases getS env j with
    | none => exact trivial
    | some s => cases s with
      | sh x => exact trivial
      | ow o => cases o with
        | lst ds =>
          refine Rs.st_kept _ fun y => ?_
          cases y with
          | list es =>
            simp only
            split
            · exact get_ne h
            · exact trivial
          | _ => exact trivial
        | _ => exact trivial
  | .pop j k, env, h => by
    simp only [keepS, Bool.and_eq_true] at h
    simp only [denS]
    cases getS env k with
    | none => exact trivial
    | some s => cases s with
      | sh x => exact trivial
      | ow o => cases o with
        | lst ds =>
          simp only
          cases ds[ds.length - 1]? with
          | none => exact trivial
          | some x =>
            simp only
            split
            · exact trivial
            · exact (get_ne h.1).trans (get_ne h.2)
        | _ => exact trivial
  | .expr e, env, h => by simp only [denS]; exact Rs.st_kept _ fun _ => rfl
  | .ret e, env, h => by
    cases e <;> first
      | (simp only [denS]; exact Rs.st_kept _ fun _ => trivial)
      | skip
    rename_i j
    simp only [denS]
    cases getS env j with
    | none => exact trivial
    | some s => cases s <;> exact trivial
  | .retN, env, h => trivial
  | .iff c a b, env, h => by
    simp only [keepS, Bool.and_eq_true] at h
    simp only [denS]
    refine Rs.st_kept _ fun k => ?_
    cases k
    · exact denB_kept b env h.2
    · exact denB_kept a env h.1
  | .loop tg it b, env, h => by
    simp only [keepS, Bool.and_eq_true] at h
    simp only [denS]
    exact Rs.st_kept _ fun xs => forGo_kept (fun x env e q => setT_kept (by simpa using h.1) q) (fun e => denB_kept b e h.2) xs env
  | .whil n c b, env, h => by simp only [denS]; exact whileGo_kept (fun e => denB_kept b e h) n env
  | .raise c, env, h => rfl
  | .tri b hs, env, h => by
    simp only [keepS, Bool.and_eq_true] at h
    simp only [denS]
    have k := denB_kept b env h.1
    cases q : denB M sub b env with
    | exc c e => rw [q] at k; exact (pickH_kept hs h.2).trans k
    | nx e => rw [q] at k; exact k
    | bk e => rw [q] at k; exact k
    | ct e => rw [q] at k; exact k
    | rt v => exact trivial
    | stuck => exact trivial
  | .brk, env, h => rfl
  | .cont, env, h => rfl
theorem denB_kept : ∀ (b : SB) (env : En), keepB i b = true → KeptT i env (denB M sub b env)
  | .nil, env, h => rfl
  | .cons s r, env, h => by
    simp only [keepB, Bool.and_eq_true] at h
    simp only [denB]
    have k := denS_kept s env h.1
    cases q : denS M sub s env with
    | nx e => rw [q] at k; exact (denB_kept r e h.2).trans k
    | exc c e => rw [q] at k; exact k
    | bk e => rw [q] at k; exact k
    | ct e => rw [q] at k; exact k
    | rt v => exact trivial
    | stuck => exact trivial
  | .frz j r, env, h => by
    simp only [keepB, Bool.and_eq_true] at h
    simp only [denB]
    cases getS env j with
    | none => exact denB_kept r env h.2
    | some s => cases s with
      | sh x => exact denB_kept r env h.2
      | ow o => cases o with
        | lst ds => exact (denB_kept r _ h.2).trans (get_ne h.1)
        | _ => exact trivial
end
end
theorem kept_nx {M : Orc} {sub : Str → Str → Option Bool} {i : Nat} {b : SB} {env f : En} {x : Option Sl} (k : keepB i b = true) (h : denB M sub b env = .nx f) (g : getS env i = x) : getS f i = x := by
  have q := denB_kept (M := M) (sub := sub) b env k
  rw [h] at q
  exact (show _ = _ from q).trans g
/-! ### a block, part by part -/
def takeB : Nat → SB → SB
  | 0, _ => .nil
  | n + 1, .cons s r => .cons s (takeB n r)
  | n + 1, .frz i r => .frz i (takeB n r)
  | _ + 1, .nil => .nil
theorem denB_split {M : Orc} {sub : Str → Str → Option Bool} : ∀ (n : Nat) (b : SB) (env : En), denB M sub b env = match denB M sub (takeB n b) env with
    | .nx e => denB M sub (dropB n b) e
    | t => t
  | 0, b, env => rfl
  | n + 1, .nil, env => rfl
  | n + 1, .cons s r, env => by
    simp only [takeB, dropB, denB]
    cases denS M sub s env with
    | nx e => exact denB_split n r e
    | _ => rfl
  | n + 1, .frz i r, env => by
    simp only [takeB, dropB, denB]
    cases getS env i with
    | none => exact denB_split n r env
    | some s => cases s with
      | sh x => exact denB_split n r env
      | ow o => cases o with
        | lst ds => exact denB_split n r _
        | _ => rfl
theorem denB_step {M : Orc} {sub : Str → Str → Option Bool} {n : Nat} {b b1 b2 : SB} {env f : En} (e1 : takeB n b = b1) (e2 : dropB n b = b2) (h : denB M sub b1 env = .nx f) : denB M sub b env = denB M sub b2 f := by
  subst e1; subst e2
  rw [denB_split n b env, h]
/-- a closed run tells of each run with more slots -/
theorem run_closed {M : Orc} {sub : Str → Str → Option Bool} {b : SB} {e0 env e : En} (q : EnLe e0 env) (h : denB M sub b e0 = .nx e) : ∃ f, denB M sub b env = .nx f ∧ EnLe e f := by
  have x := denBX (c := M) (d := M) (sub := sub) (fun _ _ => .inr rfl) b e0 env q
  rw [h] at x
  generalize denB M sub b env = t at x ⊢
  cases x with
  | nx y => exact ⟨_, rfl, y⟩
theorem run_ret {M : Orc} {sub : Str → Str → Option Bool} {b : SB} {e0 env : En} {v : Rv} (q : EnLe e0 env) (h : denB M sub b e0 = .rt v) : denB M sub b env = .rt v := by
  have x := denBX (c := M) (d := M) (sub := sub) (fun _ _ => .inr rfl) b e0 env q
  rw [h] at x
  generalize denB M sub b env = t at x ⊢
  cases x with
  | rt => rfl
theorem EnLe.nil : EnLe [] [] := EnLe.refl []
theorem EnLe.skip {e f : En} {y : Option Sl} (o : okS y = true) (h : EnLe e f) : EnLe (none :: e) (y :: f) := ⟨by rw [List.length_cons, List.length_cons, h.1], fun i => by
  cases i with
  | zero => exact .inl ⟨rfl, o⟩
  | succ i => exact h.2 i⟩
theorem EnLe.same {e f : En} {y : Option Sl} (h : EnLe e f) : EnLe (y :: e) (y :: f) := ⟨by rw [List.length_cons, List.length_cons, h.1], fun i => by
  cases i with
  | zero => exact .inr rfl
  | succ i => exact h.2 i⟩
end PP
namespace Law
open PySem L2 PP
def topS (i : Nat) : Stmt := PySem.Challenge.pw_joinlines_k03_chances.main.body.getD i (.Pass ⟨0, 0, 0, 0⟩)
/-- is_within -/
def df0 : Df := { g := "is_within", f := "is_within", ps := ["thing", "low", "high"], N := ["thing", "low", "high"], body := (.cons (.ret (.and (.isin (.var 0) .int) (.and (.not (.isin (.var 0) .bool)) (.chain .LtE .LtE (.var 1) (.var 0) (.var 2)))))
    .nil) }
/-- common -/
def df1 : Df := { g := "common", f := "common", ps := ["one", "other"], N := ["one", "other"], body := (.cons (.whil 100000 (.cmp .Gt (.var 1) (.int 0))
   (.cons (.par 0 1 (.var 1) (.bin .mod (.var 0) (.var 1)))
    .nil))
    (.cons (.ret (.var 0))
    .nil)) }
/-- fraction -/
def df2 : Df := { g := "fraction", f := "fraction", ps := ["up", "down"], N := ["up", "down", "part"], body := (.cons (.set [2] (.call 1 (.cons (.var 0) (.cons (.var 1) .nil))))
    (.frz 2 (.cons (.ret (.tup (.cons (.bin .fdiv (.var 0) (.var 2)) (.cons (.bin .fdiv (.var 1) (.var 2)) .nil))))
    .nil))) }
/-- plus -/
def df3 : Df := { g := "plus", f := "plus", ps := ["one", "other"], N := ["one", "other"], body := (.cons (.ret (.call 2 (.cons (.bin .add (.bin .mul (.ix (.var 0) (.int 0)) (.ix (.var 1) (.int 1))) (.bin .mul (.ix (.var 1) (.int 0)) (.ix (.var 0) (.int 1)))) (.cons (.bin .mul (.ix (.var 0) (.int 1)) (.ix (.var 1) (.int 1))) .nil))))
    .nil) }
/-- times -/
def df4 : Df := { g := "times", f := "times", ps := ["one", "other"], N := ["one", "other"], body := (.cons (.ret (.call 2 (.cons (.bin .mul (.ix (.var 0) (.int 0)) (.ix (.var 1) (.int 0))) (.cons (.bin .mul (.ix (.var 0) (.int 1)) (.ix (.var 1) (.int 1))) .nil))))
    .nil) }
/-- partings -/
def df5 : Df := { g := "partings", f := "partings", ps := ["many", "parts"], N := ["many", "parts"], body := (.cons (.iff (.cmp .Eq (.var 0) (.int 0))
   (.cons (.ret (.b1 .int (.cmp .Eq (.var 1) (.int 0))))
    .nil)
   .nil)
    (.cons (.iff (.cmp .Eq (.var 1) (.int 0))
   (.cons (.ret (.int 0))
    .nil)
   .nil)
    (.cons (.ret (.bin .add (.bin .mul (.var 1) (.call 5 (.cons (.bin .sub (.var 0) (.int 1)) (.cons (.var 1) .nil)))) (.call 5 (.cons (.bin .sub (.var 0) (.int 1)) (.cons (.bin .sub (.var 1) (.int 1)) .nil)))))
    .nil))) }
/-- look_counts -/
def df6 : Df := { g := "look_counts", f := "look_counts", ps := ["persons", "lines"], N := ["persons", "lines"], body := (.cons (.iff (.or (.not (.tru (.call 0 (.cons (.var 0) (.cons (.int 1) (.cons (.gint "MOST" 6) .nil)))))) (.not (.tru (.call 0 (.cons (.var 1) (.cons (.int 1) (.cons (.var 0) .nil)))))))
   (.cons (.raise "BadCount")
    .nil)
   .nil)
    .nil) }
/-- step -/
def df7 : Df := { g := "step", f := "step", ps := ["persons", "lines", "left"], N := ["persons", "lines", "left", "ways", "one"], body := (.cons (.set [3] (.call 5 (.cons (.var 1) (.cons (.var 2) .nil))))
    (.frz 3 (.cons (.loop [4] (.range1 (.var 2))
   (.cons (.set [3] (.bin .mul (.var 3) (.bin .sub (.var 0) (.var 4))))
    (.frz 3 .nil)))
    (.cons (.ret (.call 2 (.cons (.var 3) (.cons (.call 8 (.cons (.var 0) (.cons (.var 1) .nil))) .nil))))
    .nil)))) }
/-- power -/
def df8 : Df := { g := "power", f := "power", ps := ["one", "often"], N := ["one", "often", "found", "turn"], body := (.cons (.set [2] (.int 1))
    (.frz 2 (.cons (.loop [3] (.range1 (.var 1))
   (.cons (.set [2] (.bin .mul (.var 2) (.var 0)))
    (.frz 2 .nil)))
    (.cons (.ret (.var 2))
    .nil)))) }
/-- chance -/
def df9 : Df := { g := "chance", f := "chance", ps := ["persons", "lines", "left"], N := ["persons", "lines", "left"], body := (.cons (.expr (.call 6 (.cons (.var 0) (.cons (.var 1) .nil))))
    (.cons (.iff (.not (.tru (.call 0 (.cons (.var 2) (.cons (.int 1) (.cons (.var 1) .nil))))))
   (.cons (.raise "BadCount")
    .nil)
   .nil)
    (.cons (.ret (.call 7 (.cons (.var 0) (.cons (.var 1) (.cons (.var 2) .nil)))))
    .nil))) }
/-- row_of -/
def df10 : Df := { g := "row_of", f := "row_of", ps := ["persons", "lines", "rounds"], N := ["persons", "lines", "rounds", "row", "turn", "new", "at", "left"], body := (.cons (.set [3] (.bin .add (.bin .mul (.lst (.cons (.tup (.cons (.int 0) (.cons (.int 1) .nil))) .nil)) (.bin .sub (.var 1) (.int 1))) (.lst (.cons (.tup (.cons (.int 1) (.cons (.int 1) .nil))) .nil))))
    (.frz 3 (.cons (.loop [4] (.range1 (.var 2))
   (.cons (.set [5] (.bin .mul (.lst (.cons (.tup (.cons (.int 0) (.cons (.int 1) .nil))) .nil)) (.var 1)))
    (.cons (.loop [6] (.range1 (.var 1))
   (.cons (.loop [7] (.range2 (.int 1) (.bin .add (.var 6) (.int 2)))
   (.cons (.setIx 5 (.bin .sub (.var 7) (.int 1)) (.call 3 (.cons (.ix (.var 5) (.bin .sub (.var 7) (.int 1))) (.cons (.call 4 (.cons (.ix (.var 3) (.var 6)) (.cons (.call 7 (.cons (.var 0) (.cons (.bin .add (.var 6) (.int 1)) (.cons (.var 7) .nil)))) .nil))) .nil))))
    .nil))
    .nil))
    (.frz 5 (.cons (.set [3] (.var 5))
    (.frz 3 .nil))))))
    (.cons (.ret (.var 3))
    .nil)))) }
/-- behind -/
def df11 : Df := { g := "behind", f := "behind", ps := ["persons", "lines", "rounds"], N := ["persons", "lines", "rounds"], body := (.cons (.expr (.call 6 (.cons (.var 0) (.cons (.var 1) .nil))))
    (.cons (.iff (.not (.tru (.call 0 (.cons (.var 2) (.cons (.int 0) (.cons (.int 12) .nil))))))
   (.cons (.raise "BadCount")
    .nil)
   .nil)
    (.cons (.ret (.call 10 (.cons (.var 0) (.cons (.var 1) (.cons (.var 2) .nil)))))
    .nil))) }
/-- all_one -/
def df12 : Df := { g := "all_one", f := "all_one", ps := ["persons", "lines", "rounds"], N := ["persons", "lines", "rounds"], body := (.cons (.ret (.ix (.call 11 (.cons (.var 0) (.cons (.var 1) (.cons (.var 2) .nil)))) (.int 0)))
    .nil) }
/-- _law_cell -/
def df13 : Df := { g := "_law_cell", f := "_law_cell", ps := ["script", "k"], N := ["script", "k"], body := (.cons (.iff (.cmp .Lt (.var 1) (.b1 .len (.var 0)))
   (.cons (.ret (.ix (.var 0) (.var 1)))
    .nil)
   .nil)
    (.cons (.ret (.int 0))
    .nil)) }
/-- _law_common -/
def df14 : Df := { g := "_law_common", f := "_law_common", ps := ["one", "other"], N := ["one", "other"], body := (.cons (.whil 100000 (.cmp .Gt (.var 1) (.int 0))
   (.cons (.par 0 1 (.var 1) (.bin .mod (.var 0) (.var 1)))
    .nil))
    (.cons (.ret (.var 0))
    .nil)) }
/-- _law_total -/
def df15 : Df := { g := "_law_total", f := "_law_total", ps := ["some"], N := ["some", "up", "down", "one", "part"], body := (.cons (.set [1, 2] (.tup (.cons (.int 0) (.cons (.int 1) .nil))))
    (.cons (.loop [3] (.of (.var 0))
   (.cons (.par 1 2 (.bin .add (.bin .mul (.var 1) (.ix (.var 3) (.int 1))) (.bin .mul (.ix (.var 3) (.int 0)) (.var 2))) (.bin .mul (.var 2) (.ix (.var 3) (.int 1))))
    (.cons (.set [4] (.call 14 (.cons (.var 1) (.cons (.var 2) .nil))))
    (.frz 4 (.cons (.par 1 2 (.bin .fdiv (.var 1) (.var 4)) (.bin .fdiv (.var 2) (.var 4)))
    .nil)))))
    (.cons (.ret (.tup (.cons (.var 1) (.cons (.var 2) .nil))))
    .nil))) }
/-- law -/
def df16 : Df := { g := "law", f := "law", ps := ["script"], N := ["script", "persons", "lines", "rows", "k", "longer", "row", "counts", "left", "told", "rounds", "first", "one"], body := (.cons (.set [1] (.bin .add (.int 1) (.bin .mod (.call 13 (.cons (.var 0) (.cons (.int 0) .nil))) (.int 4))))
    (.frz 1 (.cons (.set [2] (.bin .add (.int 1) (.bin .mod (.call 13 (.cons (.var 0) (.cons (.int 1) .nil))) (.var 1))))
    (.frz 2 (.cons (.set [3] (.lst (.cons (.tup .nil) .nil)))
    (.frz 3 (.cons (.loop [4] (.range1 (.var 2))
   (.cons (.set [5] (.lst .nil))
    (.frz 5 (.cons (.loop [6] (.of (.var 3))
   (.cons (.set [5] (.bin .add (.var 5) (.comp (.bin .add (.var 6) (.tup (.cons (.var 12) .nil))) [12] (.range1 (.var 1)) .no [("one", 12)])))
    (.frz 5 .nil)))
    (.cons (.set [3] (.var 5))
    (.frz 3 .nil))))))
    (.cons (.set [7] (.bin .mul (.lst (.cons (.int 0) .nil)) (.bin .add (.var 2) (.int 1))))
    (.cons (.loop [6] (.of (.var 3))
   (.cons (.augIx 7 (.lenSet (.var 6)) (.int 1))
    .nil))
    (.cons (.loop [8] (.range2 (.int 1) (.bin .add (.var 2) (.int 1)))
   (.cons (.set [9] (.call 9 (.cons (.var 1) (.cons (.var 2) (.cons (.var 8) .nil)))))
    (.frz 9 (.cons (.iff (.or (.cmp .NotEq (.bin .mul (.ix (.var 9) (.int 0)) (.b1 .len (.var 3))) (.bin .mul (.ix (.var 7) (.var 8)) (.ix (.var 9) (.int 1)))) (.or (.cmp .NotEq (.call 14 (.cons (.ix (.var 9) (.int 0)) (.cons (.ix (.var 9) (.int 1)) .nil))) (.int 1)) (.cmp .Lt (.ix (.var 9) (.int 1)) (.int 1))))
   (.cons (.ret (.bl false))
    .nil)
   .nil)
    .nil))))
    (.cons (.set [10] (.bin .mod (.call 13 (.cons (.var 0) (.cons (.int 2) .nil))) (.int 13)))
    (.frz 10 (.cons (.set [9] (.call 11 (.cons (.var 1) (.cons (.var 2) (.cons (.var 10) .nil)))))
    (.frz 9 (.cons (.iff (.or (.cmp .NotEq (.b1 .len (.var 9)) (.var 2)) (.cmp .NotEq (.comp (.var 12) [12] (.of (.var 9)) (.so (.cmp .NotEq (.call 14 (.cons (.ix (.var 12) (.int 0)) (.cons (.ix (.var 12) (.int 1)) .nil))) (.int 1))) [("one", 12)]) (.lst .nil)))
   (.cons (.ret (.bl false))
    .nil)
   .nil)
    (.cons (.iff (.cmp .NotEq (.call 12 (.cons (.var 1) (.cons (.var 2) (.cons (.var 10) .nil)))) (.ix (.var 9) (.int 0)))
   (.cons (.ret (.bl false))
    .nil)
   .nil)
    (.cons (.iff (.cmp .NotEq (.call 11 (.cons (.var 1) (.cons (.var 2) (.cons (.int 0) .nil)))) (.bin .add (.bin .mul (.lst (.cons (.tup (.cons (.int 0) (.cons (.int 1) .nil))) .nil)) (.bin .sub (.var 2) (.int 1))) (.lst (.cons (.tup (.cons (.int 1) (.cons (.int 1) .nil))) .nil))))
   (.cons (.ret (.bl false))
    .nil)
   .nil)
    (.cons (.set [11] (.call 11 (.cons (.var 1) (.cons (.var 2) (.cons (.int 1) .nil)))))
    (.frz 11 (.cons (.ret (.and (.cmp .Eq (.var 11) (.comp (.call 9 (.cons (.var 1) (.cons (.var 2) (.cons (.var 8) .nil)))) [8] (.range2 (.int 1) (.bin .add (.var 2) (.int 1))) .no [("left", 8)])) (.cmp .Eq (.call 15 (.cons (.var 9) .nil)) (.tup (.cons (.int 1) (.cons (.int 1) .nil))))))
    .nil)))))))))))))))))))) }
def dfs : List Df := [df0, df1, df2, df3, df4, df5, df6, df7, df8, df9, df10, df11, df12, df13, df14, df15, df16]
def sts : List Stmt := [topS 4, topS 7, topS 8, topS 9, topS 10, topS 11, topS 12, topS 13, topS 14, topS 15, topS 16, topS 17, topS 18, topS 20, topS 21, topS 22, topS 23]
def subT : List ((Str × Str) × Bool) := []
def cg : Cg := { fn := ["is_within", "common", "fraction", "plus", "times", "partings", "look_counts", "step", "power", "chance", "row_of", "behind", "all_one", "_law_cell", "_law_common", "_law_total", "law"], bn := ["bool", "int", "isinstance", "len", "range", "set"], gi := [("MOST", 6)], gs := [], cl := ["BadCount"], sub := fun c d => subT.lookup (c, d) }
theorem sc0 : FnScope df0.N df0.ps (defScope (topS 4)) := ⟨rfl, rfl, rfl, by decide +kernel, rfl, by decide +kernel, by decide +kernel⟩
theorem mt0 : mtB cg df0.N (defScope (topS 4)) df0.body (defBody (topS 4)) = true := by decide +kernel
theorem ok0 {K : PySem.W.Frag} {mg : Str → Option Value} (d : DefIn K mg df0.g df0.f (topS 4)) : DefOk K mg cg df0 (topS 4) := by
  obtain ⟨a, fd, h1, h2⟩ := d.ex
  exact ⟨⟨a, fd, h1, h2, h2.binds (ps := df0.ps) fun _ _ _ _ _ _ us hl => match us, hl with | [_, _, _], _ => rfl⟩, sc0, mt0⟩
theorem sc1 : FnScope df1.N df1.ps (defScope (topS 7)) := ⟨rfl, rfl, rfl, by decide +kernel, rfl, by decide +kernel, by decide +kernel⟩
theorem mt1 : mtB cg df1.N (defScope (topS 7)) df1.body (defBody (topS 7)) = true := by decide +kernel
theorem ok1 {K : PySem.W.Frag} {mg : Str → Option Value} (d : DefIn K mg df1.g df1.f (topS 7)) : DefOk K mg cg df1 (topS 7) := by
  obtain ⟨a, fd, h1, h2⟩ := d.ex
  exact ⟨⟨a, fd, h1, h2, h2.binds (ps := df1.ps) fun _ _ _ _ _ _ us hl => match us, hl with | [_, _], _ => rfl⟩, sc1, mt1⟩
theorem sc2 : FnScope df2.N df2.ps (defScope (topS 8)) := ⟨rfl, rfl, rfl, by decide +kernel, rfl, by decide +kernel, by decide +kernel⟩
theorem mt2 : mtB cg df2.N (defScope (topS 8)) df2.body (defBody (topS 8)) = true := by decide +kernel
theorem ok2 {K : PySem.W.Frag} {mg : Str → Option Value} (d : DefIn K mg df2.g df2.f (topS 8)) : DefOk K mg cg df2 (topS 8) := by
  obtain ⟨a, fd, h1, h2⟩ := d.ex
  exact ⟨⟨a, fd, h1, h2, h2.binds (ps := df2.ps) fun _ _ _ _ _ _ us hl => match us, hl with | [_, _], _ => rfl⟩, sc2, mt2⟩
theorem sc3 : FnScope df3.N df3.ps (defScope (topS 9)) := ⟨rfl, rfl, rfl, by decide +kernel, rfl, by decide +kernel, by decide +kernel⟩
theorem mt3 : mtB cg df3.N (defScope (topS 9)) df3.body (defBody (topS 9)) = true := by decide +kernel
theorem ok3 {K : PySem.W.Frag} {mg : Str → Option Value} (d : DefIn K mg df3.g df3.f (topS 9)) : DefOk K mg cg df3 (topS 9) := by
  obtain ⟨a, fd, h1, h2⟩ := d.ex
  exact ⟨⟨a, fd, h1, h2, h2.binds (ps := df3.ps) fun _ _ _ _ _ _ us hl => match us, hl with | [_, _], _ => rfl⟩, sc3, mt3⟩
theorem sc4 : FnScope df4.N df4.ps (defScope (topS 10)) := ⟨rfl, rfl, rfl, by decide +kernel, rfl, by decide +kernel, by decide +kernel⟩
theorem mt4 : mtB cg df4.N (defScope (topS 10)) df4.body (defBody (topS 10)) = true := by decide +kernel
theorem ok4 {K : PySem.W.Frag} {mg : Str → Option Value} (d : DefIn K mg df4.g df4.f (topS 10)) : DefOk K mg cg df4 (topS 10) := by
  obtain ⟨a, fd, h1, h2⟩ := d.ex
  exact ⟨⟨a, fd, h1, h2, h2.binds (ps := df4.ps) fun _ _ _ _ _ _ us hl => match us, hl with | [_, _], _ => rfl⟩, sc4, mt4⟩
theorem sc5 : FnScope df5.N df5.ps (defScope (topS 11)) := ⟨rfl, rfl, rfl, by decide +kernel, rfl, by decide +kernel, by decide +kernel⟩
theorem mt5 : mtB cg df5.N (defScope (topS 11)) df5.body (defBody (topS 11)) = true := by decide +kernel
theorem ok5 {K : PySem.W.Frag} {mg : Str → Option Value} (d : DefIn K mg df5.g df5.f (topS 11)) : DefOk K mg cg df5 (topS 11) := by
  obtain ⟨a, fd, h1, h2⟩ := d.ex
  exact ⟨⟨a, fd, h1, h2, h2.binds (ps := df5.ps) fun _ _ _ _ _ _ us hl => match us, hl with | [_, _], _ => rfl⟩, sc5, mt5⟩
theorem sc6 : FnScope df6.N df6.ps (defScope (topS 12)) := ⟨rfl, rfl, rfl, by decide +kernel, rfl, by decide +kernel, by decide +kernel⟩
theorem mt6 : mtB cg df6.N (defScope (topS 12)) df6.body (defBody (topS 12)) = true := by decide +kernel
theorem ok6 {K : PySem.W.Frag} {mg : Str → Option Value} (d : DefIn K mg df6.g df6.f (topS 12)) : DefOk K mg cg df6 (topS 12) := by
  obtain ⟨a, fd, h1, h2⟩ := d.ex
  exact ⟨⟨a, fd, h1, h2, h2.binds (ps := df6.ps) fun _ _ _ _ _ _ us hl => match us, hl with | [_, _], _ => rfl⟩, sc6, mt6⟩
theorem sc7 : FnScope df7.N df7.ps (defScope (topS 13)) := ⟨rfl, rfl, rfl, by decide +kernel, rfl, by decide +kernel, by decide +kernel⟩
theorem mt7 : mtB cg df7.N (defScope (topS 13)) df7.body (defBody (topS 13)) = true := by decide +kernel
theorem ok7 {K : PySem.W.Frag} {mg : Str → Option Value} (d : DefIn K mg df7.g df7.f (topS 13)) : DefOk K mg cg df7 (topS 13) := by
  obtain ⟨a, fd, h1, h2⟩ := d.ex
  exact ⟨⟨a, fd, h1, h2, h2.binds (ps := df7.ps) fun _ _ _ _ _ _ us hl => match us, hl with | [_, _, _], _ => rfl⟩, sc7, mt7⟩
theorem sc8 : FnScope df8.N df8.ps (defScope (topS 14)) := ⟨rfl, rfl, rfl, by decide +kernel, rfl, by decide +kernel, by decide +kernel⟩
theorem mt8 : mtB cg df8.N (defScope (topS 14)) df8.body (defBody (topS 14)) = true := by decide +kernel
theorem ok8 {K : PySem.W.Frag} {mg : Str → Option Value} (d : DefIn K mg df8.g df8.f (topS 14)) : DefOk K mg cg df8 (topS 14) := by
  obtain ⟨a, fd, h1, h2⟩ := d.ex
  exact ⟨⟨a, fd, h1, h2, h2.binds (ps := df8.ps) fun _ _ _ _ _ _ us hl => match us, hl with | [_, _], _ => rfl⟩, sc8, mt8⟩
theorem sc9 : FnScope df9.N df9.ps (defScope (topS 15)) := ⟨rfl, rfl, rfl, by decide +kernel, rfl, by decide +kernel, by decide +kernel⟩
theorem mt9 : mtB cg df9.N (defScope (topS 15)) df9.body (defBody (topS 15)) = true := by decide +kernel
theorem ok9 {K : PySem.W.Frag} {mg : Str → Option Value} (d : DefIn K mg df9.g df9.f (topS 15)) : DefOk K mg cg df9 (topS 15) := by
  obtain ⟨a, fd, h1, h2⟩ := d.ex
  exact ⟨⟨a, fd, h1, h2, h2.binds (ps := df9.ps) fun _ _ _ _ _ _ us hl => match us, hl with | [_, _, _], _ => rfl⟩, sc9, mt9⟩
theorem sc10 : FnScope df10.N df10.ps (defScope (topS 16)) := ⟨rfl, rfl, rfl, by decide +kernel, rfl, by decide +kernel, by decide +kernel⟩
theorem mt10 : mtB cg df10.N (defScope (topS 16)) df10.body (defBody (topS 16)) = true := by decide +kernel
theorem ok10 {K : PySem.W.Frag} {mg : Str → Option Value} (d : DefIn K mg df10.g df10.f (topS 16)) : DefOk K mg cg df10 (topS 16) := by
  obtain ⟨a, fd, h1, h2⟩ := d.ex
  exact ⟨⟨a, fd, h1, h2, h2.binds (ps := df10.ps) fun _ _ _ _ _ _ us hl => match us, hl with | [_, _, _], _ => rfl⟩, sc10, mt10⟩
theorem sc11 : FnScope df11.N df11.ps (defScope (topS 17)) := ⟨rfl, rfl, rfl, by decide +kernel, rfl, by decide +kernel, by decide +kernel⟩
theorem mt11 : mtB cg df11.N (defScope (topS 17)) df11.body (defBody (topS 17)) = true := by decide +kernel
theorem ok11 {K : PySem.W.Frag} {mg : Str → Option Value} (d : DefIn K mg df11.g df11.f (topS 17)) : DefOk K mg cg df11 (topS 17) := by
  obtain ⟨a, fd, h1, h2⟩ := d.ex
  exact ⟨⟨a, fd, h1, h2, h2.binds (ps := df11.ps) fun _ _ _ _ _ _ us hl => match us, hl with | [_, _, _], _ => rfl⟩, sc11, mt11⟩
theorem sc12 : FnScope df12.N df12.ps (defScope (topS 18)) := ⟨rfl, rfl, rfl, by decide +kernel, rfl, by decide +kernel, by decide +kernel⟩
theorem mt12 : mtB cg df12.N (defScope (topS 18)) df12.body (defBody (topS 18)) = true := by decide +kernel
theorem ok12 {K : PySem.W.Frag} {mg : Str → Option Value} (d : DefIn K mg df12.g df12.f (topS 18)) : DefOk K mg cg df12 (topS 18) := by
  obtain ⟨a, fd, h1, h2⟩ := d.ex
  exact ⟨⟨a, fd, h1, h2, h2.binds (ps := df12.ps) fun _ _ _ _ _ _ us hl => match us, hl with | [_, _, _], _ => rfl⟩, sc12, mt12⟩
theorem sc13 : FnScope df13.N df13.ps (defScope (topS 20)) := ⟨rfl, rfl, rfl, by decide +kernel, rfl, by decide +kernel, by decide +kernel⟩
theorem mt13 : mtB cg df13.N (defScope (topS 20)) df13.body (defBody (topS 20)) = true := by decide +kernel
theorem ok13 {K : PySem.W.Frag} {mg : Str → Option Value} (d : DefIn K mg df13.g df13.f (topS 20)) : DefOk K mg cg df13 (topS 20) := by
  obtain ⟨a, fd, h1, h2⟩ := d.ex
  exact ⟨⟨a, fd, h1, h2, h2.binds (ps := df13.ps) fun _ _ _ _ _ _ us hl => match us, hl with | [_, _], _ => rfl⟩, sc13, mt13⟩
theorem sc14 : FnScope df14.N df14.ps (defScope (topS 21)) := ⟨rfl, rfl, rfl, by decide +kernel, rfl, by decide +kernel, by decide +kernel⟩
theorem mt14 : mtB cg df14.N (defScope (topS 21)) df14.body (defBody (topS 21)) = true := by decide +kernel
theorem ok14 {K : PySem.W.Frag} {mg : Str → Option Value} (d : DefIn K mg df14.g df14.f (topS 21)) : DefOk K mg cg df14 (topS 21) := by
  obtain ⟨a, fd, h1, h2⟩ := d.ex
  exact ⟨⟨a, fd, h1, h2, h2.binds (ps := df14.ps) fun _ _ _ _ _ _ us hl => match us, hl with | [_, _], _ => rfl⟩, sc14, mt14⟩
theorem sc15 : FnScope df15.N df15.ps (defScope (topS 22)) := ⟨rfl, rfl, rfl, by decide +kernel, rfl, by decide +kernel, by decide +kernel⟩
theorem mt15 : mtB cg df15.N (defScope (topS 22)) df15.body (defBody (topS 22)) = true := by decide +kernel
theorem ok15 {K : PySem.W.Frag} {mg : Str → Option Value} (d : DefIn K mg df15.g df15.f (topS 22)) : DefOk K mg cg df15 (topS 22) := by
  obtain ⟨a, fd, h1, h2⟩ := d.ex
  exact ⟨⟨a, fd, h1, h2, h2.binds (ps := df15.ps) fun _ _ _ _ _ _ us hl => match us, hl with | [_], _ => rfl⟩, sc15, mt15⟩
theorem sc16 : FnScope df16.N df16.ps (defScope (topS 23)) := ⟨rfl, rfl, rfl, by decide +kernel, rfl, by decide +kernel, by decide +kernel⟩
theorem mt16 : mtB cg df16.N (defScope (topS 23)) df16.body (defBody (topS 23)) = true := by decide +kernel
theorem ok16 {K : PySem.W.Frag} {mg : Str → Option Value} (d : DefIn K mg df16.g df16.f (topS 23)) : DefOk K mg cg df16 (topS 23) := by
  obtain ⟨a, fd, h1, h2⟩ := d.ex
  exact ⟨⟨a, fd, h1, h2, h2.binds (ps := df16.ps) fun _ _ _ _ _ _ us hl => match us, hl with | [_], _ => rfl⟩, sc16, mt16⟩
theorem all {K : PySem.W.Frag} {mg : Str → Option Value} (d0 : DefIn K mg df0.g df0.f (topS 4)) (d1 : DefIn K mg df1.g df1.f (topS 7)) (d2 : DefIn K mg df2.g df2.f (topS 8)) (d3 : DefIn K mg df3.g df3.f (topS 9)) (d4 : DefIn K mg df4.g df4.f (topS 10)) (d5 : DefIn K mg df5.g df5.f (topS 11)) (d6 : DefIn K mg df6.g df6.f (topS 12)) (d7 : DefIn K mg df7.g df7.f (topS 13)) (d8 : DefIn K mg df8.g df8.f (topS 14)) (d9 : DefIn K mg df9.g df9.f (topS 15)) (d10 : DefIn K mg df10.g df10.f (topS 16)) (d11 : DefIn K mg df11.g df11.f (topS 17)) (d12 : DefIn K mg df12.g df12.f (topS 18)) (d13 : DefIn K mg df13.g df13.f (topS 20)) (d14 : DefIn K mg df14.g df14.f (topS 21)) (d15 : DefIn K mg df15.g df15.f (topS 22)) (d16 : DefIn K mg df16.g df16.f (topS 23)) :
    ∀ (f : Nat) (df : Df), dfs[f]? = some df → ∃ st, sts[f]? = some st ∧ DefOk K mg cg df st
  | 0, _, rfl => ⟨_, rfl, ok0 d0⟩
  | 1, _, rfl => ⟨_, rfl, ok1 d1⟩
  | 2, _, rfl => ⟨_, rfl, ok2 d2⟩
  | 3, _, rfl => ⟨_, rfl, ok3 d3⟩
  | 4, _, rfl => ⟨_, rfl, ok4 d4⟩
  | 5, _, rfl => ⟨_, rfl, ok5 d5⟩
  | 6, _, rfl => ⟨_, rfl, ok6 d6⟩
  | 7, _, rfl => ⟨_, rfl, ok7 d7⟩
  | 8, _, rfl => ⟨_, rfl, ok8 d8⟩
  | 9, _, rfl => ⟨_, rfl, ok9 d9⟩
  | 10, _, rfl => ⟨_, rfl, ok10 d10⟩
  | 11, _, rfl => ⟨_, rfl, ok11 d11⟩
  | 12, _, rfl => ⟨_, rfl, ok12 d12⟩
  | 13, _, rfl => ⟨_, rfl, ok13 d13⟩
  | 14, _, rfl => ⟨_, rfl, ok14 d14⟩
  | 15, _, rfl => ⟨_, rfl, ok15 d15⟩
  | 16, _, rfl => ⟨_, rfl, ok16 d16⟩
  | _ + 17, _, h => by cases h
theorem modOk {K : PySem.W.Frag} {mg : Str → Option Value} (b0 : mg "bool" = none) (b1 : mg "int" = none) (b2 : mg "isinstance" = none) (b3 : mg "len" = none) (b4 : mg "range" = none) (b5 : mg "set" = none) {t0 : Tok} (i0 : mg "MOST" = some (.int 6 t0))  {C0 : Addr} (c0 : ClsIn K mg "BadCount" C0)   : ModOk cg mg K where
  blt := fun x h => (show ∀ x ∈ cg.bn, mg x = none from (List.forall_mem_cons.mpr ⟨b0, (List.forall_mem_cons.mpr ⟨b1, (List.forall_mem_cons.mpr ⟨b2, (List.forall_mem_cons.mpr ⟨b3, (List.forall_mem_cons.mpr ⟨b4, (List.forall_mem_cons.mpr ⟨b5, (List.forall_mem_nil _)⟩)⟩)⟩)⟩)⟩)⟩)) x (by simpa using h)
  gi := fun x i h => (show ∀ p ∈ cg.gi, ∃ t, mg p.1 = some (.int p.2 t) from (List.forall_mem_cons.mpr ⟨⟨_, i0⟩, (List.forall_mem_nil _)⟩)) (x, i) (by simpa using h)
  gs := fun x i h => (show ∀ p ∈ cg.gs, ∃ t, mg p.1 = some (.str p.2 t) from (List.forall_mem_nil _)) (x, i) (by simpa using h)
  cls := fun x h => (show ∀ x ∈ cg.cl, ∃ C, mg x = some (.ref C) ∧ ClsOk K C from (List.forall_mem_cons.mpr ⟨⟨_, c0.m, c0.ok⟩, (List.forall_mem_nil _)⟩)) x (by simpa using h)
  exm := fun c d b E E' h h1 h2 => (show ∀ p ∈ subT, ∀ E E', mg p.1.1 = some (.ref E) → mg p.1.2 = some (.ref E') → PySem.W.exmOne K (.ref E) (.ref E') = some p.2 from (List.forall_mem_nil _)) ((c, d), b) (lookup_mem h) E E' h1 h2
end Law
namespace Law
open PySem L2 PP
theorem cell_ok {M : Orc} (ds : List D) : Le (cellS ds) (textR dfs cg.sub M 13 ds) := by
  unfold cellS
  split
  · rename_i xs k
    refine .inr ?_
    rw [textR_at (df := df13) rfl rfl]
    have c : ∀ env : En, getS env 0 = some (.sh (scr xs)) → getS env 1 = some (.sh (.int (.ofNat k))) → denT M (.cmp .Lt (.var 1) (.b1 .len (.var 0))) env = .ok (decide (k < xs.length)) := fun env h0 h1 => by
      refine (vT_cmp (va_var h1) (va_of ((vE_b1 (va_var h0)).trans (rfl : b1D .len (scr xs) = .ok (.sh (.int (.ofNat xs.length))))))).trans ?_
      show Rs.ok (decide ((Int.ofNat k) < Int.ofNat xs.length)) = _
      congr 1
      exact decide_eq_decide.mpr ⟨fun h => Int.ofNat_lt.mp h, fun h => Int.ofNat_lt.mpr h⟩
    have s := vS_iff (M := M) (sub := cg.sub) (a := thenB df13.body) (b := .nil) (c (startE df13.N.length [scr xs, .int (.ofNat k)]) rfl rfl)
    by_cases h : k < xs.length
    · rw [decide_eq_true h, if_pos rfl] at s
      have e : denE M (.ix (.var 0) (.var 1)) (startE df13.N.length [scr xs, .int (.ofNat k)]) = .ok (.sh (xs.getD k (.int 0))) := by
        refine (vE_ix (va_var rfl) (va_var rfl)).trans ?_
        show (Rs.ofO (atI xs (.ofNat k))).bind _ = _
        rw [atI_nat h, List.getD_eq_getElem?_getD, List.getElem?_eq_getElem h]; rfl
      exact (congrArg endR (vB_rt (s.trans (vB_rt (vS_ret e))))).symm
    · rw [decide_eq_false h, if_neg Bool.false_ne_true] at s
      have g : xs.getD k (.int 0) = .int 0 := by rw [List.getD_eq_getElem?_getD, List.getElem?_eq_none (by omega)]; rfl
      rw [g]
      exact (congrArg endR ((vB_cons s).trans (vB_rt (vS_ret rfl)))).symm
  · exact .inl rfl
theorem lgcd_ok {M : Orc} (ds : List D) : Le (gcdS 40000 ds) (textR dfs cg.sub M 14 ds) := by
  unfold gcdS
  split
  · rename_i a b
    by_cases h : b.log2 < 40000
    · rw [if_pos h]
      refine .inr ?_
      have g := euclid_go (c := fun e => denT M (.cmp .Gt (.var 1) (.int 0)) e) (b := fun e => denB M cg.sub (.cons (.par 0 1 (.var 1) (.bin .mod (.var 0) (.var 1))) .nil) e)
        (fun x y => by
          show Rs.ok (decide ((0 : Int) < Int.ofNat y)) = _
          congr 1
          exact decide_eq_decide.mpr ⟨fun h => Int.ofNat_lt.mp h, fun h => Int.ofNat_lt.mpr h⟩)
        (fun x y h => by
          have p : (0 : Int) < Int.ofNat y := Int.ofNat_lt.mpr h
          simp only [denB, denS, denA, denE, bor, getS, nI, List.getD_cons_zero, List.getD_cons_succ, Rs.bind, binD, if_pos p, Rs.ofO, Rv.toD?, Rs.st, List.set_cons_zero, List.set_cons_succ]
          rfl)
        40000 100000 a b (lt_two h) (by decide)
      show _ = endR (match whileGo _ _ 100000 [nI a, nI b] with | .nx e => denB M cg.sub (.cons (.ret (.var 0)) .nil) e | t => t)
      rw [g]
      rfl
    · rw [if_neg h]; exact .inl rfl
  · exact .inl rfl
theorem within_ok {M : Orc} (ds : List D) : Le (withinS ds) (textR dfs cg.sub M 0 ds) := by
  unfold withinS
  split
  · rename_i d lo hi
    refine .inr ?_
    cases d with
    | int n =>
      show _ = endR (match ((Rs.ok (decide (lo ≤ n))).bind fun k => if k = true then (Rs.ok (decide (n ≤ hi))).bind fun k => .ok (.sh (.bool k)) else Rs.ok (Rv.sh (.bool false))).st _ fun r => .rt r with | .nx e => _ | t => t)
      by_cases h : lo ≤ n
      · simp only [inR, h, decide_true, Rs.bind, Rs.st, if_true, Bool.true_and, endR]
      · simp only [inR, h, decide_false, Rs.bind, Rs.st, Bool.false_and, endR]; rfl
    | _ => rfl
  · exact .inl rfl
theorem gcd_ok {M : Orc} (ds : List D) : Le (gcdS 40000 ds) (textR dfs cg.sub M 1 ds) := by
  unfold gcdS
  split
  · rename_i a b
    by_cases h : b.log2 < 40000
    · rw [if_pos h]
      refine .inr ?_
      have g := euclid_go (c := fun e => denT M (.cmp .Gt (.var 1) (.int 0)) e) (b := fun e => denB M cg.sub (.cons (.par 0 1 (.var 1) (.bin .mod (.var 0) (.var 1))) .nil) e)
        (fun x y => by
          show Rs.ok (decide ((0 : Int) < Int.ofNat y)) = _
          congr 1
          exact decide_eq_decide.mpr ⟨fun h => Int.ofNat_lt.mp h, fun h => Int.ofNat_lt.mpr h⟩)
        (fun x y h => by
          have p : (0 : Int) < Int.ofNat y := Int.ofNat_lt.mpr h
          simp (implicitDefEqProofs := false) only [denB, denS, denA, denE, bor, getS, nI, List.getD_cons_zero, List.getD_cons_succ, Rs.bind, binD, if_pos p, Rs.ofO, Rv.toD?, Rs.st, List.set_cons_zero, List.set_cons_succ]
          rfl)
        40000 100000 a b (lt_two h) (by decide)
      show _ = endR (match whileGo _ _ 100000 [nI a, nI b] with | .nx e => denB M cg.sub (.cons (.ret (.var 0)) .nil) e | t => t)
      rw [g]
      rfl
    · rw [if_neg h]; exact .inl rfl
  · exact .inl rfl
def m1 : Orc := byTold 0 withinS orc0
def m2 : Orc := byTold 1 (gcdS 40000) m1
def m3 : Orc := byTold 2 frS m2
def m4 : Orc := byTold 3 plusS m3
def m5 : Orc := byTold 4 timesS m4
theorem fr_ok (ds : List D) : Le (frS ds) (textR dfs cg.sub m2 2 ds) := by
  unfold frS
  split
  · rename_i a b
    by_cases h : (decide (0 < b) && decide (b.log2 < 8000)) = true
    · rw [if_pos h]
      rw [Bool.and_eq_true, decide_eq_true_eq, decide_eq_true_eq] at h
      refine .inr ?_
      have k : m2 1 [.int (.ofNat a), .int (.ofNat b)] = .ok (.sh (.int (.ofNat (Nat.gcd a b)))) := by
        exact byTold_at.trans (gcdS_at (by omega))
      have q := divOk_gcd (a := a) h.1 h.2
      rw [textR_at (df := df2) rfl rfl]
      unfold df2
      simp (implicitDefEqProofs := false) only [denB, denS, denA, denE, bor, getS, startE, List.map_cons, List.map_nil, List.length_cons, List.length_nil, List.cons_append, List.nil_append, List.replicate, List.getD_cons_zero, List.getD_cons_succ, Rs.bind, Rs.ofO, Rv.toD?, k, setR, setT, Rs.st, List.set_cons_zero, List.set_cons_succ, binD, q, if_true]
      rfl
    · rw [if_neg h]; exact .inl rfl
  · exact .inl rfl
theorem plus_ok (ds : List D) : Le (plusS ds) (textR dfs cg.sub m3 3 ds) := by
  unfold plusS
  split
  · rename_i a b c d
    by_cases h : sm4 a b c d = true
    · rw [if_pos h]
      unfold sm4 at h
      simp only [Bool.and_eq_true, decide_eq_true_eq] at h
      obtain ⟨⟨⟨⟨⟨h1, h2⟩, h3⟩, h4⟩, h5⟩, h6⟩ := h
      refine .inr ?_
      have k : m3 2 [.int (.ofNat (a * d + c * b)), .int (.ofNat (b * d))] = .ok (.sh (frN (a * d + c * b) (b * d))) := by
        exact byTold_at.trans (frS_at (Nat.mul_pos h1 h2) (log_mul h1 h2 h4 h6))
      rw [textR_at (df := df3) rfl rfl]
      have i1 : ∀ {i : Nat} {x y : Int} {env : En}, getS env i = some (.sh (.tuple [.int x, .int y])) → Va m3 (.ix (.var i) (.int 0)) env (.int x) := fun h => va_of ((vE_ix (va_var h) va_int).trans (ixD_0 _ _))
      have i2 : ∀ {i : Nat} {x y : Int} {env : En}, getS env i = some (.sh (.tuple [.int x, .int y])) → Va m3 (.ix (.var i) (.int 1)) env (.int y) := fun h => va_of ((vE_ix (va_var h) va_int).trans (ixD_1 _ _))
      have g0 : getS (startE df3.N.length [nT a b, nT c d]) 0 = some (.sh (nT a b)) := rfl
      have g1 : getS (startE df3.N.length [nT a b, nT c d]) 1 = some (.sh (nT c d)) := rfl
      exact ((congrArg endR (vB_rt (vS_ret ((vE_call (vA_sh ((vE_bin (va_of ((vE_bin (i1 g0) (i2 g1)).trans (bin_mulN h3 h6))) (va_of ((vE_bin (i1 g1) (i2 g0)).trans (bin_mulN h5 h4)))).trans (bin_addN _ _)) (vA_sh ((vE_bin (i2 g0) (i2 g1)).trans (bin_mulN h4 h6)) vA_nil))).trans k)))).trans rfl).symm
    · rw [if_neg h]; exact .inl rfl
  · exact .inl rfl
theorem times_ok (ds : List D) : Le (timesS ds) (textR dfs cg.sub m4 4 ds) := by
  unfold timesS
  split
  · rename_i a b c d
    by_cases h : sm4 a b c d = true
    · rw [if_pos h]
      unfold sm4 at h
      simp only [Bool.and_eq_true, decide_eq_true_eq] at h
      obtain ⟨⟨⟨⟨⟨h1, h2⟩, h3⟩, h4⟩, h5⟩, h6⟩ := h
      refine .inr ?_
      have k : m4 2 [.int (.ofNat (a * c)), .int (.ofNat (b * d))] = .ok (.sh (frN (a * c) (b * d))) := by
        exact (byTold_ne (by decide)).trans (byTold_at.trans (frS_at (Nat.mul_pos h1 h2) (log_mul h1 h2 h4 h6)))
      rw [textR_at (df := df4) rfl rfl]
      have i1 : ∀ {i : Nat} {x y : Int} {env : En}, getS env i = some (.sh (.tuple [.int x, .int y])) → Va m4 (.ix (.var i) (.int 0)) env (.int x) := fun h => va_of ((vE_ix (va_var h) va_int).trans (ixD_0 _ _))
      have i2 : ∀ {i : Nat} {x y : Int} {env : En}, getS env i = some (.sh (.tuple [.int x, .int y])) → Va m4 (.ix (.var i) (.int 1)) env (.int y) := fun h => va_of ((vE_ix (va_var h) va_int).trans (ixD_1 _ _))
      have g0 : getS (startE df4.N.length [nT a b, nT c d]) 0 = some (.sh (nT a b)) := rfl
      have g1 : getS (startE df4.N.length [nT a b, nT c d]) 1 = some (.sh (nT c d)) := rfl
      exact ((congrArg endR (vB_rt (vS_ret ((vE_call (vA_sh ((vE_bin (i1 g0) (i1 g1)).trans (bin_mulN h3 h5)) (vA_sh ((vE_bin (i2 g0) (i2 g1)).trans (bin_mulN h4 h6)) vA_nil))).trans k)))).trans rfl).symm
    · rw [if_neg h]; exact .inl rfl
  · exact .inl rfl
theorem m1_le : LeC m1 (denCall dfs cg.sub 1) := byTold_le (orc0_le 0) within_ok
theorem m2_le : LeC m2 (denCall dfs cg.sub 2) := byTold_le m1_le gcd_ok
theorem m3_le : LeC m3 (denCall dfs cg.sub 3) := byTold_le m2_le fr_ok
theorem m4_le : LeC m4 (denCall dfs cg.sub 4) := byTold_le m3_le plus_ok
theorem m5_le : LeC m5 (denCall dfs cg.sub 5) := byTold_le m4_le times_ok
def stepT : List (List (List (Option Rv))) :=
  [[], [[], [none, some (.sh (nT 1 1))]], [[], [none, some (.sh (nT 1 1))], [none, some (.sh (nT 1 2)), some (.sh (nT 1 2))]], [[], [none, some (.sh (nT 1 1))], [none, some (.sh (nT 1 3)), some (.sh (nT 2 3))], [none, some (.sh (nT 1 9)), some (.sh (nT 2 3)), some (.sh (nT 2 9))]], [[], [none, some (.sh (nT 1 1))], [none, some (.sh (nT 1 4)), some (.sh (nT 3 4))], [none, some (.sh (nT 1 16)), some (.sh (nT 9 16)), some (.sh (nT 3 8))], [none, some (.sh (nT 1 64)), some (.sh (nT 21 64)), some (.sh (nT 9 16)), some (.sh (nT 3 32))]], [[], [none, some (.sh (nT 1 1))], [none, some (.sh (nT 1 5)), some (.sh (nT 4 5))], [none, some (.sh (nT 1 25)), some (.sh (nT 12 25)), some (.sh (nT 12 25))], [none, some (.sh (nT 1 125)), some (.sh (nT 28 125)), some (.sh (nT 72 125)), some (.sh (nT 24 125))], [none, some (.sh (nT 1 625)), some (.sh (nT 12 125)), some (.sh (nT 12 25)), some (.sh (nT 48 125)), some (.sh (nT 24 625))]], [[], [none, some (.sh (nT 1 1))], [none, some (.sh (nT 1 6)), some (.sh (nT 5 6))], [none, some (.sh (nT 1 36)), some (.sh (nT 5 12)), some (.sh (nT 5 9))], [none, some (.sh (nT 1 216)), some (.sh (nT 35 216)), some (.sh (nT 5 9)), some (.sh (nT 5 18))], [none, some (.sh (nT 1 1296)), some (.sh (nT 25 432)), some (.sh (nT 125 324)), some (.sh (nT 25 54)), some (.sh (nT 5 54))], [none, some (.sh (nT 1 7776)), some (.sh (nT 155 7776)), some (.sh (nT 25 108)), some (.sh (nT 325 648)), some (.sh (nT 25 108)), some (.sh (nT 5 324))]]]
def row11 : List (Option Rv) :=
  [some (.sh (.list [nT 1 1])), some (.sh (.list [nT 1 1])), some (.sh (.list [nT 1 1])), some (.sh (.list [nT 1 1])), some (.sh (.list [nT 1 1])), some (.sh (.list [nT 1 1])), some (.sh (.list [nT 1 1])), some (.sh (.list [nT 1 1])), some (.sh (.list [nT 1 1])), some (.sh (.list [nT 1 1])), some (.sh (.list [nT 1 1])), some (.sh (.list [nT 1 1])), some (.sh (.list [nT 1 1]))]
def row21 : List (Option Rv) :=
  [some (.sh (.list [nT 1 1])), some (.sh (.list [nT 1 1])), some (.sh (.list [nT 1 1])), some (.sh (.list [nT 1 1])), some (.sh (.list [nT 1 1])), some (.sh (.list [nT 1 1])), some (.sh (.list [nT 1 1])), some (.sh (.list [nT 1 1])), some (.sh (.list [nT 1 1])), some (.sh (.list [nT 1 1])), some (.sh (.list [nT 1 1])), some (.sh (.list [nT 1 1])), some (.sh (.list [nT 1 1]))]
def row22 : List (Option Rv) :=
  [some (.sh (.list [nT 0 1, nT 1 1])), some (.sh (.list [nT 1 2, nT 1 2])), some (.sh (.list [nT 3 4, nT 1 4])), some (.sh (.list [nT 7 8, nT 1 8])), some (.sh (.list [nT 15 16, nT 1 16])), some (.sh (.list [nT 31 32, nT 1 32])), some (.sh (.list [nT 63 64, nT 1 64])), some (.sh (.list [nT 127 128, nT 1 128])), some (.sh (.list [nT 255 256, nT 1 256])), some (.sh (.list [nT 511 512, nT 1 512])), some (.sh (.list [nT 1023 1024, nT 1 1024])), some (.sh (.list [nT 2047 2048, nT 1 2048])), some (.sh (.list [nT 4095 4096, nT 1 4096]))]
def row31 : List (Option Rv) :=
  [some (.sh (.list [nT 1 1])), some (.sh (.list [nT 1 1])), some (.sh (.list [nT 1 1])), some (.sh (.list [nT 1 1])), some (.sh (.list [nT 1 1])), some (.sh (.list [nT 1 1])), some (.sh (.list [nT 1 1])), some (.sh (.list [nT 1 1])), some (.sh (.list [nT 1 1])), some (.sh (.list [nT 1 1])), some (.sh (.list [nT 1 1])), some (.sh (.list [nT 1 1])), some (.sh (.list [nT 1 1]))]
def row32 : List (Option Rv) :=
  [some (.sh (.list [nT 0 1, nT 1 1])), some (.sh (.list [nT 1 3, nT 2 3])), some (.sh (.list [nT 5 9, nT 4 9])), some (.sh (.list [nT 19 27, nT 8 27])), some (.sh (.list [nT 65 81, nT 16 81])), some (.sh (.list [nT 211 243, nT 32 243])), some (.sh (.list [nT 665 729, nT 64 729])), some (.sh (.list [nT 2059 2187, nT 128 2187])), some (.sh (.list [nT 6305 6561, nT 256 6561])), some (.sh (.list [nT 19171 19683, nT 512 19683])), some (.sh (.list [nT 58025 59049, nT 1024 59049])), some (.sh (.list [nT 175099 177147, nT 2048 177147])), some (.sh (.list [nT 527345 531441, nT 4096 531441]))]
def row33 : List (Option Rv) :=
  [some (.sh (.list [nT 0 1, nT 0 1, nT 1 1])), some (.sh (.list [nT 1 9, nT 2 3, nT 2 9])), some (.sh (.list [nT 29 81, nT 16 27, nT 4 81])), some (.sh (.list [nT 409 729, nT 104 243, nT 8 729])), some (.sh (.list [nT 4625 6561, nT 640 2187, nT 16 6561])), some (.sh (.list [nT 47401 59049, nT 3872 19683, nT 32 59049])), some (.sh (.list [nT 461489 531441, nT 23296 177147, nT 64 531441])), some (.sh (.list [nT 4363129 4782969, nT 139904 1594323, nT 128 4782969])), some (.sh (.list [nT 40527425 43046721, nT 839680 14348907, nT 256 43046721])), some (.sh (.list [nT 372304201 387420489, nT 5038592 129140163, nT 512 387420489])), some (.sh (.list [nT 3396085649 3486784401, nT 30232576 1162261467, nT 1024 3486784401])), some (.sh (.list [nT 30836865049 31381059609, nT 181397504 10460353203, nT 2048 31381059609])), some (.sh (.list [nT 279164365025 282429536481, nT 1088389120 94143178827, nT 4096 282429536481]))]
def row41 : List (Option Rv) :=
  [some (.sh (.list [nT 1 1])), some (.sh (.list [nT 1 1])), some (.sh (.list [nT 1 1])), some (.sh (.list [nT 1 1])), some (.sh (.list [nT 1 1])), some (.sh (.list [nT 1 1])), some (.sh (.list [nT 1 1])), some (.sh (.list [nT 1 1])), some (.sh (.list [nT 1 1])), some (.sh (.list [nT 1 1])), some (.sh (.list [nT 1 1])), some (.sh (.list [nT 1 1])), some (.sh (.list [nT 1 1]))]
def row42 : List (Option Rv) :=
  [some (.sh (.list [nT 0 1, nT 1 1])), some (.sh (.list [nT 1 4, nT 3 4])), some (.sh (.list [nT 7 16, nT 9 16])), some (.sh (.list [nT 37 64, nT 27 64])), some (.sh (.list [nT 175 256, nT 81 256])), some (.sh (.list [nT 781 1024, nT 243 1024])), some (.sh (.list [nT 3367 4096, nT 729 4096])), some (.sh (.list [nT 14197 16384, nT 2187 16384])), some (.sh (.list [nT 58975 65536, nT 6561 65536])), some (.sh (.list [nT 242461 262144, nT 19683 262144])), some (.sh (.list [nT 989527 1048576, nT 59049 1048576])), some (.sh (.list [nT 4017157 4194304, nT 177147 4194304])), some (.sh (.list [nT 16245775 16777216, nT 531441 16777216]))]
def row43 : List (Option Rv) :=
  [some (.sh (.list [nT 0 1, nT 0 1, nT 1 1])), some (.sh (.list [nT 1 16, nT 9 16, nT 3 8])), some (.sh (.list [nT 29 128, nT 81 128, nT 9 64])), some (.sh (.list [nT 403 1024, nT 567 1024, nT 27 512])), some (.sh (.list [nT 4385 8192, nT 3645 8192, nT 81 4096])), some (.sh (.list [nT 42451 65536, nT 22599 65536, nT 243 32768])), some (.sh (.list [nT 385049 524288, nT 137781 524288, nT 729 262144])), some (.sh (.list [nT 3356683 4194304, nT 833247 4194304, nT 2187 2097152])), some (.sh (.list [nT 28522145 33554432, nT 5019165 33554432, nT 6561 16777216])), some (.sh (.list [nT 238222051 268435456, nT 30174039 268435456, nT 19683 134217728])), some (.sh (.list [nT 1966144169 2147483648, nT 181221381 2147483648, nT 59049 1073741824])), some (.sh (.list [nT 16091655163 17179869184, nT 1087859727 17179869184, nT 177147 8589934592])), some (.sh (.list [nT 130909137905 137438953472, nT 6528752685 137438953472, nT 531441 68719476736]))]
def row44 : List (Option Rv) :=
  [some (.sh (.list [nT 0 1, nT 0 1, nT 0 1, nT 1 1])), some (.sh (.list [nT 1 64, nT 21 64, nT 9 16, nT 3 32])), some (.sh (.list [nT 275 2048, nT 1215 2048, nT 135 512, nT 9 1024])), some (.sh (.list [nT 19609 65536, nT 39069 65536, nT 1701 16384, nT 27 32768])), some (.sh (.list [nT 953675 2097152, nT 1060695 2097152, nT 20655 524288, nT 81 1048576])), some (.sh (.list [nT 39168481 67108864, nT 26945541 67108864, nT 248589 16777216, nT 243 33554432])), some (.sh (.list [nT 1470944675 2147483648, nT 664596495 2147483648, nT 2985255 536870912, nT 729 1073741824])), some (.sh (.list [nT 52410884329 68719476736, nT 16165269549 68719476736, nT 35829621 17179869184, nT 2187 34359738368])), some (.sh (.list [nT 1806757094075 2199023255552, nT 390546247815 2199023255552, nT 429975135 549755813888, nT 6561 1099511627776])), some (.sh (.list [nT 60944036800561 70368744177664, nT 9404068295061 70368744177664, nT 5159760669 17592186044416, nT 19683 35184372088832])), some (.sh (.list [nT 2025483002083475 2251799813685248, nT 226069142262975 2251799813685248, nT 61917305175 562949953421312, nT 59049 1125899906842624])), some (.sh (.list [nT 66624504543275449 72057594037927936, nT 5430117461524029 72057594037927936, nT 743008193541 18014398509481984, nT 177147 36028797018963968])), some (.sh (.list [nT 2175431029142732075 2305843009213693952, nT 130376315670231735 2305843009213693952, nT 8916099916815 576460752303423488, nT 531441 1152921504606846976]))]
def row51 : List (Option Rv) :=
  [some (.sh (.list [nT 1 1])), some (.sh (.list [nT 1 1])), some (.sh (.list [nT 1 1])), some (.sh (.list [nT 1 1])), some (.sh (.list [nT 1 1])), some (.sh (.list [nT 1 1])), some (.sh (.list [nT 1 1])), some (.sh (.list [nT 1 1])), some (.sh (.list [nT 1 1])), some (.sh (.list [nT 1 1])), some (.sh (.list [nT 1 1])), some (.sh (.list [nT 1 1])), some (.sh (.list [nT 1 1]))]
def row52 : List (Option Rv) :=
  [some (.sh (.list [nT 0 1, nT 1 1])), some (.sh (.list [nT 1 5, nT 4 5])), some (.sh (.list [nT 9 25, nT 16 25])), some (.sh (.list [nT 61 125, nT 64 125])), some (.sh (.list [nT 369 625, nT 256 625])), some (.sh (.list [nT 2101 3125, nT 1024 3125])), some (.sh (.list [nT 11529 15625, nT 4096 15625])), some (.sh (.list [nT 61741 78125, nT 16384 78125])), some (.sh (.list [nT 325089 390625, nT 65536 390625])), some (.sh (.list [nT 1690981 1953125, nT 262144 1953125])), some (.sh (.list [nT 8717049 9765625, nT 1048576 9765625])), some (.sh (.list [nT 44633821 48828125, nT 4194304 48828125])), some (.sh (.list [nT 227363409 244140625, nT 16777216 244140625]))]
def row53 : List (Option Rv) :=
  [some (.sh (.list [nT 0 1, nT 0 1, nT 1 1])), some (.sh (.list [nT 1 25, nT 12 25, nT 12 25])), some (.sh (.list [nT 97 625, nT 384 625, nT 144 625])), some (.sh (.list [nT 4489 15625, nT 9408 15625, nT 1728 15625])), some (.sh (.list [nT 160993 390625, nT 208896 390625, nT 20736 390625])), some (.sh (.list [nT 5090041 9765625, nT 4426752 9765625, nT 248832 9765625])), some (.sh (.list [nT 149633617 244140625, nT 91521024 244140625, nT 2985984 244140625])), some (.sh (.list [nT 4201431529 6103515625, nT 1866252288 6103515625, nT 35831808 6103515625])), some (.sh (.list [nT 114402881473 152587890625, nT 37755027456 152587890625, nT 429981696 152587890625])), some (.sh (.list [nT 3049277155801 3814697265625, nT 760260329472 3814697265625, nT 5159780352 3814697265625])), some (.sh (.list [nT 80038390322737 95367431640625, nT 15267123953664 95367431640625, nT 61917364224 95367431640625])), some (.sh (.list [nT 2077357295200969 2384185791015625, nT 306085487443968 2384185791015625, nT 743008370688 2384185791015625])), some (.sh (.list [nT 53465102825614753 59604644775390625, nT 6130625849327616 59604644775390625, nT 8916100448256 59604644775390625]))]
def row54 : List (Option Rv) :=
  [some (.sh (.list [nT 0 1, nT 0 1, nT 0 1, nT 1 1])), some (.sh (.list [nT 1 125, nT 28 125, nT 72 125, nT 24 125])), some (.sh (.list [nT 1209 15625, nT 7792 15625, nT 6048 15625, nT 576 15625])), some (.sh (.list [nT 376741 1953125, nT 1158208 1953125, nT 404352 1953125, nT 13824 1953125])), some (.sh (.list [nT 78083409 244140625, nT 140468992 244140625, nT 25256448 244140625, nT 331776 244140625])), some (.sh (.list [nT 13398764941 30517578125, nT 15571575808 30517578125, nT 1539274752 30517578125, nT 7962624 30517578125])), some (.sh (.list [nT 2071839349209 3814697265625, nT 1649737019392 3814697265625, nT 92929794048 3814697265625, nT 191102976 3814697265625])), some (.sh (.list [nT 300688184209141 476837158203125, nT 170554840465408 476837158203125, nT 5589547057152 476837158203125, nT 4586471424 476837158203125])), some (.sh (.list [nT 41877846359535009 59604644775390625, nT 17390985291169792 59604644775390625, nT 335703049371648 59604644775390625, nT 110075314176 59604644775390625])), some (.sh (.list [nT 5671184052543293341 7450580596923828125, nT 1759243794188075008 7450580596923828125, nT 20150108384919552 7450580596923828125, nT 2641807540224 7450580596923828125])), some (.sh (.list [nT 752979854606345680809 931322574615478515625, nT 177133459892513800192 931322574615478515625, nT 1209196713238069248 931322574615478515625, nT 63403380965376 931322574615478515625])), some (.sh (.list [nT 98556864370075626417541 116415321826934814453125, nT 17785899567340331204608 116415321826934814453125, nT 72556367837713661952 116415321826934814453125, nT 1521681143169024 116415321826934814453125])), some (.sh (.list [nT 12764618318803831293786609 14551915228366851806640625, nT 1782943381411367948910592 14551915228366851806640625, nT 4353491631305127886848 14551915228366851806640625, nT 36520347436056576 14551915228366851806640625]))]
def row55 : List (Option Rv) :=
  [some (.sh (.list [nT 0 1, nT 0 1, nT 0 1, nT 0 1, nT 1 1])), some (.sh (.list [nT 1 625, nT 12 125, nT 12 25, nT 48 125, nT 24 625])), some (.sh (.list [nT 16849 390625, nT 31008 78125, nT 7344 15625, nT 6912 78125, nT 576 390625])), some (.sh (.list [nT 34674001 244140625, nT 27494592 48828125, nT 2707776 9765625, nT 857088 48828125, nT 13824 244140625])), some (.sh (.list [nT 40569171649 152587890625, nT 17929118208 30517578125, nT 874209024 6103515625, nT 103514112 30517578125, nT 331776 152587890625])), some (.sh (.list [nT 37110399985201 95367431640625, nT 10290368596992 19073486328125, nT 269719704576 3814697265625, nT 12437618688 19073486328125, nT 7962624 95367431640625])), some (.sh (.list [nT 29794366127660449 59604644775390625, nT 5551505217527808 11920928955078125, nT 81811515469824 2384185791015625, nT 1492896448512 11920928955078125, nT 191102976 59604644775390625])), some (.sh (.list [nT 22142339110513616401 37252902984619140625, nT 2898678889764667392 7450580596923828125, nT 24650945478475776 1490116119384765625, nT 179156746764288 7450580596923828125, nT 4586471424 37252902984619140625])), some (.sh (.list [nT 15666047570021230309249 23283064365386962890625, nT 1486340945099632017408 4656612873077392578125, nT 7408182984347418624 931322574615478515625, nT 21499029762342912 4656612873077392578125, nT 110075314176 23283064365386962890625])), some (.sh (.list [nT 10724873473791610224687601 14551915228366851806640625, nT 754285756891824768417792 2910383045673370361328125, nT 2224002826768018046976 582076609134674072265625, nT 2579888855096229888 2910383045673370361328125, nT 2641807540224 14551915228366851806640625])), some (.sh (.list [nT 7175864585441100901183518049 9094947017729282379150390625, nT 380479243870535826442027008 1818989403545856475830078125, nT 667386600059674033127424 363797880709171295166015625, nT 309586789418309517312 1818989403545856475830078125, nT 63403380965376 9094947017729282379150390625])), some (.sh (.list [nT 4723132017684480049897789198801 5684341886080801486968994140625, nT 191240745177508703674608648192 1136868377216160297393798828125, nT 200238270267501168795058176 227373675443232059478759765625, nT 37150417773559428415488 1136868377216160297393798828125, nT 1521681143169024 5684341886080801486968994140625])), some (.sh (.list [nT 3071608126636420605073912419286849 3552713678800500929355621337890625, nT 95920735195214110148990607556608 710542735760100185871124267578125, nT 60074155910348307091081396224 142108547152020037174224853515625, nT 4458050205867826281971712 710542735760100185871124267578125, nT 36520347436056576 3552713678800500929355621337890625]))]
def row61 : List (Option Rv) :=
  [some (.sh (.list [nT 1 1])), some (.sh (.list [nT 1 1])), some (.sh (.list [nT 1 1])), some (.sh (.list [nT 1 1])), some (.sh (.list [nT 1 1])), some (.sh (.list [nT 1 1])), some (.sh (.list [nT 1 1])), some (.sh (.list [nT 1 1])), some (.sh (.list [nT 1 1])), some (.sh (.list [nT 1 1])), some (.sh (.list [nT 1 1])), some (.sh (.list [nT 1 1])), some (.sh (.list [nT 1 1]))]
def row62 : List (Option Rv) :=
  [some (.sh (.list [nT 0 1, nT 1 1])), some (.sh (.list [nT 1 6, nT 5 6])), some (.sh (.list [nT 11 36, nT 25 36])), some (.sh (.list [nT 91 216, nT 125 216])), some (.sh (.list [nT 671 1296, nT 625 1296])), some (.sh (.list [nT 4651 7776, nT 3125 7776])), some (.sh (.list [nT 31031 46656, nT 15625 46656])), some (.sh (.list [nT 201811 279936, nT 78125 279936])), some (.sh (.list [nT 1288991 1679616, nT 390625 1679616])), some (.sh (.list [nT 8124571 10077696, nT 1953125 10077696])), some (.sh (.list [nT 50700551 60466176, nT 9765625 60466176])), some (.sh (.list [nT 313968931 362797056, nT 48828125 362797056])), some (.sh (.list [nT 1932641711 2176782336, nT 244140625 2176782336]))]
def row63 : List (Option Rv) :=
  [some (.sh (.list [nT 0 1, nT 0 1, nT 1 1])), some (.sh (.list [nT 1 36, nT 5 12, nT 5 9])), some (.sh (.list [nT 73 648, nT 125 216, nT 25 81])), some (.sh (.list [nT 2539 11664, nT 2375 3888, nT 125 729])), some (.sh (.list [nT 68077 209952, nT 40625 69984, nT 625 6561])), some (.sh (.list [nT 1601011 3779136, nT 659375 1259712, nT 3125 59049])), some (.sh (.list [nT 34852573 68024448, nT 10390625 22674816, nT 15625 531441])), some (.sh (.list [nT 721861939 1224440064, nT 160859375 408146688, nT 78125 4782969])), some (.sh (.list [nT 14451249277 22039921152, nT 2462890625 7346640384, nT 390625 43046721])), some (.sh (.list [nT 282388502611 396718580736, nT 37443359375 132239526912, nT 1953125 387420489])), some (.sh (.list [nT 5420983281373 7140934453248, nT 566650390625 2380311484416, nT 9765625 3486784401])), some (.sh (.list [nT 102687552580339 128536820158464, nT 8549755859375 42845606719488, nT 48828125 31381059609])), some (.sh (.list [nT 1925423749180477 2313662762852352, nT 128746337890625 771220920950784, nT 244140625 282429536481]))]
def row64 : List (Option Rv) :=
  [some (.sh (.list [nT 0 1, nT 0 1, nT 0 1, nT 1 1])), some (.sh (.list [nT 1 216, nT 35 216, nT 5 9, nT 5 18])), some (.sh (.list [nT 47 972, nT 100 243, nT 25 54, nT 25 324])), some (.sh (.list [nT 9109 69984, nT 38375 69984, nT 875 2916, nT 125 5832])), some (.sh (.list [nT 18107 78732, nT 184375 314928, nT 3125 17496, nT 625 104976])), some (.sh (.list [nT 7540441 22674816, nT 12771875 22674816, nT 96875 944784, nT 3125 1889568])), some (.sh (.list [nT 43802297 102036672, nT 26140625 51018336, nT 109375 1889568, nT 15625 34012224])), some (.sh (.list [nT 3792968509 7346640384, nT 3314609375 7346640384, nT 9921875 306110016, nT 78125 612220032])), some (.sh (.list [nT 9792050239 16529940864, nT 12876953125 33059881728, nT 33203125 1836660096, nT 390625 11019960576])), some (.sh (.list [nT 1565774375041 2380311484416, nT 790560546875 2380311484416, nT 998046875 99179645184, nT 1953125 198359290368])), some (.sh (.list [nT 7641899726747 10711401679872, nT 188095703125 669462604992, nT 3330078125 595077871104, nT 9765625 3570467226624])), some (.sh (.list [nT 586451047903909 771220920950784, nT 182370458984375 771220920950784, nT 99951171875 32134205039616, nT 48828125 64268410079232])), some (.sh (.list [nT 173506714095533 216905884017408, nT 688387451171875 3470494144278528, nT 111083984375 64268410079232, nT 244140625 1156831381426176]))]
def row65 : List (Option Rv) :=
  [some (.sh (.list [nT 0 1, nT 0 1, nT 0 1, nT 0 1, nT 1 1])), some (.sh (.list [nT 1 1296, nT 25 432, nT 125 324, nT 25 54, nT 5 54])), some (.sh (.list [nT 817 34992, nT 125 432, nT 8875 17496, nT 125 729, nT 25 2916])), some (.sh (.list [nT 326761 3779136, nT 201875 419904, nT 359375 944784, nT 8125 157464, nT 125 157464])), some (.sh (.list [nT 18101047 102036672, nT 6434375 11337408, nT 12259375 51018336, nT 15625 1062882, nT 625 8503056])), some (.sh (.list [nT 3071588701 11019960576, nT 704609375 1224440064, nT 390359375 2754990144, nT 1890625 459165024, nT 3125 459165024])), some (.sh (.list [nT 112646326177 297538935552, nT 17827578125 33059881728, nT 12051484375 148769467776, nT 7109375 6198727824, nT 15625 24794911296])), some (.sh (.list [nT 15126350430241 32134205039616, nT 1725660546875 3570467226624, nT 366665234375 8033551259904, nT 426953125 1338925209984, nT 78125 1338925209984])), some (.sh (.list [nT 479401990366507 867623536069632, nT 40665669921875 96402615118848, nT 11076818359375 433811768034816, nT 400390625 4518872583696, nT 390625 72301961339136])), some (.sh (.list [nT 58429752834973381 93703341895520256, nT 3770827958984375 10411482432835584, nT 333457724609375 23425835473880064, nT 96103515625 3904305912313344, nT 1953125 3904305912313344])), some (.sh (.list [nT 1731322520368500037 2529990231179046912, nT 86512038916015625 281110025686560768, nT 10021030615234375 1264995115589523456, nT 360400390625 52708129816230144, nT 9765625 210832519264920576])), some (.sh (.list [nT 201057917337503082121 273238944967337066496, nT 7886327446044921875 30359882774148562944, nT 300890407958984375 68309736241834266624, nT 21624267578125 11384956040305711104, nT 48828125 11384956040305711104])), some (.sh (.list [nT 5748862765774106654767 7377451514118100795392, nT 178947071859130859375 819716834902011199488, nT 9030604613037109375 3688725757059050397696, nT 40545654296875 76848453272063549952, nT 244140625 614787626176508399616]))]
def row66 : List (Option Rv) :=
  [some (.sh (.list [nT 0 1, nT 0 1, nT 0 1, nT 0 1, nT 0 1, nT 1 1])), some (.sh (.list [nT 1 7776, nT 155 7776, nT 25 108, nT 325 648, nT 25 108, nT 5 324])), some (.sh (.list [nT 31199 2519424, nT 524125 2519424, nT 4375 8748, nT 53375 209952, nT 875 34992, nT 25 104976])), some (.sh (.list [nT 50727751 816293376, nT 346425125 816293376, nT 2430625 5668704, nT 5599375 68024448, nT 26875 11337408, nT 125 34012224])), some (.sh (.list [nT 38394110699 264479053824, nT 144350040625 264479053824, nT 523184375 1836660096, nT 528171875 22039921152, nT 809375 3673320192, nT 625 11019960576])), some (.sh (.list [nT 20922162673351 85691213438976, nT 49479056253125 85691213438976, nT 102146359375 595077871104, nT 48264109375 7140934453248, nT 24296875 1190155742208, nT 3125 3570467226624])), some (.sh (.list [nT 9583900616900099 27763953154228224, nT 15375509604765625 27763953154228224, nT 19111824921875 192805230237696, nT 4365638046875 2313662762852352, nT 728984375 385610460475392, nT 15625 1156831381426176])), some (.sh (.list [nT 3960308838238303951 8995520821969944576, nT 4525672805868828125 8995520821969944576, nT 3505658618359375 62468894597013504, nT 393563515234375 749626735164162048, nT 21869921875 124937789194027008, nT 78125 374813367582081024])), some (.sh (.list [nT 1532076813212453839499 2914548746318262042624, nT 1290329635664494140625 2914548746318262042624, nT 636923370904296875 20239921849432375296, nT 35440399326171875 242879062193188503552, nT 656099609375 40479843698864750592, nT 390625 121439531096594251776])), some (.sh (.list [nT 566896778434407360794551 944313793807116901810176, nT 360793120297102970703125 944313793807116901810176, nT 115177853758896484375 6557734679216089595904, nT 3190226429130859375 78692816150593075150848, nT 19682998046875 13115469358432179191808, nT 1953125 39346408075296537575424])), some (.sh (.list [nT 203306712631693093481418899 305957669193505876186497024, nT 99655209826513149853515625 305957669193505876186497024, nT 20779868303225732421875 2124706036066013029072896, nT 287138093320654296875 25496472432792156348874752, nT 590489990234375 4249412072132026058145792, nT 9765625 12748236216396078174437376])), some (.sh (.list [nT 71279692101117561520899645151 99130284818695903884425035776, nT 27311048190769212199267578125 99130284818695903884425035776, nT 3744683402886066162109375 688404755685388221419618304, nT 25842959839853271484375 8260857068224658657035419648, nT 17714699951171875 1376809511370776442839236608, nT 48828125 4130428534112329328517709824])), some (.sh (.list [nT 24574270417927363715236084638299 32118212281257472858553711591424, nT 7446795937948406372496337890625 32118212281257472858553711591424, nT 674430658024258455810546875 223043140842065783739956330496, nT 2325882328816766357421875 2676517690104789404879475965952, nT 531440999755859375 446086281684131567479912660992, nT 244140625 1338258845052394702439737982976]))]
def rowT : List (List (List (Option Rv))) :=
  [[], [[], row11], [[], row21, row22], [[], row31, row32, row33], [[], row41, row42, row43, row44], [[], row51, row52, row53, row54, row55], [[], row61, row62, row63, row64, row65, row66]]
def meanT : List (List (Option Rv)) :=
  [[], [none, some (.sh (nT 0 1))], [none, some (.sh (nT 0 1)), some (.sh (nT 2 1))], [none, some (.sh (nT 0 1)), some (.sh (nT 3 1)), some (.sh (nT 27 7))], [none, some (.sh (nT 0 1)), some (.sh (nT 4 1)), some (.sh (nT 26 5)), some (.sh (nT 838 145))], [none, some (.sh (nT 0 1)), some (.sh (nT 5 1)), some (.sh (nT 85 13)), some (.sh (nT 9565 1313)), some (.sh (nT 468125 60701))], [none, some (.sh (nT 0 1)), some (.sh (nT 6 1)), some (.sh (nT 63 8)), some (.sh (nT 457 52)), some (.sh (nT 94957 10192)), some (.sh (nT 31394023 3251248))]]
def m6 : Orc := byTold 7 (spec3 stepT) m5
def mp : Orc := byTold 8 (textR dfs cg.sub m5 8) m5
theorem mp_le : LeC mp (denCall dfs cg.sub 6) := byText_le m5_le
def mq : Orc := deepM dfs cg.sub 5 mp 8
theorem mq_le : LeC mq (denCall dfs cg.sub 14) := deepM_le mp_le 8
theorem step_chk : chk3 (fun a b c => textR dfs cg.sub mq 7 [dN a, dN b, dN c]) 0 stepT = true := by decide +kernel
theorem m6_le : LeC m6 (denCall dfs cg.sub 15) := byCall_le (m5_le.up (by omega)) fun ds => (spec3_le (g := textR dfs cg.sub mq 7) step_chk ds).trans (textR_le mq_le _ ds)
def m7 : Orc := byTold 10 (spec3 rowT) m6
theorem row_chk11 : chk1 (fun c => textR dfs cg.sub m6 10 [dN 1, dN 1, dN c]) 0 row11 = true := by decide +kernel
theorem row_chk21 : chk1 (fun c => textR dfs cg.sub m6 10 [dN 2, dN 1, dN c]) 0 row21 = true := by decide +kernel
theorem row_chk22 : chk1 (fun c => textR dfs cg.sub m6 10 [dN 2, dN 2, dN c]) 0 row22 = true := by decide +kernel
theorem row_chk31 : chk1 (fun c => textR dfs cg.sub m6 10 [dN 3, dN 1, dN c]) 0 row31 = true := by decide +kernel
theorem row_chk32 : chk1 (fun c => textR dfs cg.sub m6 10 [dN 3, dN 2, dN c]) 0 row32 = true := by decide +kernel
theorem row_chk33 : chk1 (fun c => textR dfs cg.sub m6 10 [dN 3, dN 3, dN c]) 0 row33 = true := by decide +kernel
theorem row_chk41 : chk1 (fun c => textR dfs cg.sub m6 10 [dN 4, dN 1, dN c]) 0 row41 = true := by decide +kernel
theorem row_chk42 : chk1 (fun c => textR dfs cg.sub m6 10 [dN 4, dN 2, dN c]) 0 row42 = true := by decide +kernel
theorem row_chk43 : chk1 (fun c => textR dfs cg.sub m6 10 [dN 4, dN 3, dN c]) 0 row43 = true := by decide +kernel
theorem row_chk44 : chk1 (fun c => textR dfs cg.sub m6 10 [dN 4, dN 4, dN c]) 0 row44 = true := by decide +kernel
theorem row_chk51 : chk1 (fun c => textR dfs cg.sub m6 10 [dN 5, dN 1, dN c]) 0 row51 = true := by decide +kernel
theorem row_chk52 : chk1 (fun c => textR dfs cg.sub m6 10 [dN 5, dN 2, dN c]) 0 row52 = true := by decide +kernel
theorem row_chk53 : chk1 (fun c => textR dfs cg.sub m6 10 [dN 5, dN 3, dN c]) 0 row53 = true := by decide +kernel
theorem row_chk54 : chk1 (fun c => textR dfs cg.sub m6 10 [dN 5, dN 4, dN c]) 0 row54 = true := by decide +kernel
theorem row_chk55 : chk1 (fun c => textR dfs cg.sub m6 10 [dN 5, dN 5, dN c]) 0 row55 = true := by decide +kernel
theorem row_chk61 : chk1 (fun c => textR dfs cg.sub m6 10 [dN 6, dN 1, dN c]) 0 row61 = true := by decide +kernel
theorem row_chk62 : chk1 (fun c => textR dfs cg.sub m6 10 [dN 6, dN 2, dN c]) 0 row62 = true := by decide +kernel
theorem row_chk63 : chk1 (fun c => textR dfs cg.sub m6 10 [dN 6, dN 3, dN c]) 0 row63 = true := by decide +kernel
theorem row_chk64 : chk1 (fun c => textR dfs cg.sub m6 10 [dN 6, dN 4, dN c]) 0 row64 = true := by decide +kernel
theorem row_chk65 : chk1 (fun c => textR dfs cg.sub m6 10 [dN 6, dN 5, dN c]) 0 row65 = true := by decide +kernel
theorem row_chk66 : chk1 (fun c => textR dfs cg.sub m6 10 [dN 6, dN 6, dN c]) 0 row66 = true := by decide +kernel
theorem row_chk : chk3 (fun a b c => textR dfs cg.sub m6 10 [dN a, dN b, dN c]) 0 rowT = true := by
  unfold rowT
  simp only [chk3, chk2, chk1, Bool.and_eq_true, Nat.zero_add, Nat.reduceAdd]
  exact ⟨trivial, ⟨trivial, row_chk11, trivial⟩, ⟨trivial, row_chk21, row_chk22, trivial⟩, ⟨trivial, row_chk31, row_chk32, row_chk33, trivial⟩, ⟨trivial, row_chk41, row_chk42, row_chk43, row_chk44, trivial⟩, ⟨trivial, row_chk51, row_chk52, row_chk53, row_chk54, row_chk55, trivial⟩, ⟨trivial, row_chk61, row_chk62, row_chk63, row_chk64, row_chk65, row_chk66, trivial⟩, trivial⟩
theorem m7_le : LeC m7 (denCall dfs cg.sub 16) := byTold_le m6_le fun ds => spec3_le (g := textR dfs cg.sub m6 10) row_chk ds
def m8 : Orc := m7
theorem m8_le : LeC m8 (denCall dfs cg.sub 23) := m7_le.up (by omega)
/-! ### the asked ones -/
def okc (a b : D) : Bool := match a with
  | .int p => inR a 1 6 && inR b 1 p
  | _ => false
def bad : Rs Rv := .exc "BadCount"
theorem w8 (d : D) (lo hi : Int) : m8 0 [d, .int lo, .int hi] = .ok (.sh (.bool (inR d lo hi))) := rfl
def lookS : List D → Rs Rv
  | [a, b] => if okc a b = true then .ok (.sh .none) else bad
  | _ => .stuck
theorem look_ok (ds : List D) : Le (lookS ds) (textR dfs cg.sub m8 6 ds) := by
  unfold lookS
  split
  · rename_i a b
    refine .inr ?_
    rw [textR_at (df := df6) rfl rfl]
    have c1 : denT m8 (.not (.tru (.call 0 (.cons (.var 0) (.cons (.int 1) (.cons (.gint "MOST" 6) .nil)))))) (startE df6.N.length [a, b]) = .ok (!inR a 1 6) :=
      vT_not ((vT_tru (va_of ((vE_call (vA_sh (vE_var rfl) (vA_sh rfl (vA_sh rfl vA_nil)))).trans (w8 _ _ _)))).trans rfl)
    have c : denT m8 (condB df6.body) (startE df6.N.length [a, b]) = .ok (!okc a b) := by
      refine (vT_or c1).trans ?_
      cases h : inR a 1 6 with
      | false =>
        have : okc a b = false := by unfold okc; cases a <;> simp only [h, Bool.false_and]
        rw [this]; rfl
      | true =>
        rw [if_neg (by decide)]
        cases a with
        | int p =>
          have : okc (.int p) b = inR b 1 p := by unfold okc; simp only [h, Bool.true_and]
          rw [this]
          exact vT_not ((vT_tru (va_of ((vE_call (vA_sh (vE_var rfl) (vA_sh rfl (vA_sh (vE_var rfl) vA_nil)))).trans (w8 _ _ _)))).trans rfl)
        | _ => exact absurd h Bool.false_ne_true
    have s := vS_iff (sub := cg.sub) (a := thenB df6.body) (b := .nil) c
    cases h : okc a b with
    | true =>
      rw [h, if_neg (by decide)] at s
      exact (congrArg endR ((vB_cons s).trans vB_nil)).symm
    | false =>
      rw [h, if_pos (by decide)] at s
      exact (congrArg endR (vB_exc (s.trans (vB_exc rfl)))).symm
  · exact .inl rfl
def m9 : Orc := byTold 6 lookS m8
theorem m9_le : LeC m9 (denCall dfs cg.sub 24) := byTold_le m8_le look_ok
theorem w9 (d : D) (lo hi : Int) : m9 0 [d, .int lo, .int hi] = .ok (.sh (.bool (inR d lo hi))) := rfl
theorem l9 (a b : D) : m9 6 [a, b] = if okc a b = true then .ok (.sh .none) else bad := rfl
theorem okc_int {a b : D} (h : okc a b = true) : ∃ p l : Nat, a = .int (.ofNat p) ∧ b = .int (.ofNat l) ∧ 1 ≤ l ∧ l ≤ p ∧ p ≤ 6 := by
  unfold okc at h
  cases a with
  | int p =>
    cases b with
    | int l =>
      simp only [inR, Bool.and_eq_true, decide_eq_true_eq] at h
      exact ⟨p.toNat, l.toNat, by congr 1; show p = ((p.toNat : Nat) : Int); omega, by congr 1; show l = ((l.toNat : Nat) : Int); omega, by omega, by omega, by omega⟩
    | _ => simp only [inR, Bool.and_false] at h; exact absurd h Bool.false_ne_true
  | _ => exact absurd h Bool.false_ne_true
def inD2 (c b : D) : Bool := match b with
  | .int l => inR c 1 l
  | _ => false
def chanceS : List D → Rs Rv
  | [a, b, c] => if okc a b = true then (if inD2 c b = true then spec3 stepT [a, b, c] else bad) else bad
  | _ => .stuck
theorem chance_ok (ds : List D) : Le (chanceS ds) (textR dfs cg.sub m9 9 ds) := by
  unfold chanceS
  split
  · rename_i a b c
    rw [textR_at (df := df9) rfl rfl]
    have e0 : denE m9 (.call 6 (.cons (.var 0) (.cons (.var 1) .nil))) (startE df9.N.length [a, b, c]) = if okc a b = true then .ok (.sh .none) else bad :=
      (vE_call (vA_sh (vE_var rfl) (vA_sh (vE_var rfl) vA_nil))).trans (l9 a b)
    by_cases h : okc a b = true
    · rw [if_pos h] at e0 ⊢
      obtain ⟨p, l, rfl, rfl, _, _, _⟩ := okc_int h
      have cc : denT m9 (condB (dropB 1 df9.body)) (startE df9.N.length [.int (.ofNat p), .int (.ofNat l), c]) = .ok (!inR c 1 (.ofNat l)) :=
        vT_not ((vT_tru (va_of ((vE_call (vA_sh (vE_var rfl) (vA_sh rfl (vA_sh (vE_var rfl) vA_nil)))).trans (w9 _ _ _)))).trans rfl)
      have s := vS_iff (sub := cg.sub) (a := thenB (dropB 1 df9.body)) (b := .nil) cc
      show Le (if inR c 1 (.ofNat l) = true then _ else _) _
      cases k : inR c 1 (.ofNat l) with
      | true =>
        rw [k, if_neg (by decide)] at s
        rw [if_pos rfl]
        refine .inr ?_
        have e7 : denE m9 (retE (dropB 2 df9.body)) (startE df9.N.length [.int (.ofNat p), .int (.ofNat l), c]) = spec3 stepT [.int (.ofNat p), .int (.ofNat l), c] :=
          vE_call (vA_sh (vE_var rfl) (vA_sh (vE_var rfl) (vA_sh (vE_var rfl) vA_nil)))
        have t := (vB_cons (vS_expr (sub := cg.sub) e0)).trans ((vB_cons (r := dropB 2 df9.body) s))
        refine (congrArg endR t).symm ▸ ?_
        show _ = endR (match (denE m9 (retE (dropB 2 df9.body)) (startE df9.N.length [.int (.ofNat p), .int (.ofNat l), c])).st _ _ with | .nx _ => _ | t => t)
        rw [e7]
        cases spec3 stepT [.int (.ofNat p), .int (.ofNat l), c] <;> rfl
      | false =>
        rw [k, if_pos (by decide)] at s
        rw [if_neg Bool.false_ne_true]
        exact .inr (congrArg endR ((vB_cons (vS_expr (sub := cg.sub) e0)).trans (vB_exc (r := dropB 2 df9.body) (s.trans (vB_exc rfl))))).symm
    · rw [if_neg h] at e0 ⊢
      exact .inr (congrArg endR (vB_exc (r := dropB 1 df9.body) (vS_exprX (sub := cg.sub) e0))).symm
  · exact .inl rfl
def m10 : Orc := byTold 9 chanceS m9
theorem m10_le : LeC m10 (denCall dfs cg.sub 25) := byTold_le m9_le chance_ok
theorem end_call {M : Orc} {sub : Str → Str → Option Bool} {env : En} {f : Nat} {as : SA} {r : SB} : endR (denB M sub (.cons (.ret (.call f as)) r) env) = denE M (.call f as) env := by
  simp only [denB, denS]
  cases denE M (.call f as) env <;> rfl
theorem end_ix {M : Orc} {sub : Str → Str → Option Bool} {env : En} {a b : SE} {r : SB} : endR (denB M sub (.cons (.ret (.ix a b)) r) env) = denE M (.ix a b) env := by
  simp only [denB, denS]
  cases denE M (.ix a b) env <;> rfl
theorem ixD_cons0 (x : D) (r : List D) : ixD (.list (x :: r)) (.int 0) = .ok (.sh x) := by
  show (Rs.ofO (atI (x :: r) (.ofNat 0))).bind _ = _
  rw [atI_nat (Nat.zero_lt_succ _)]; rfl
theorem w10 (d : D) (lo hi : Int) : m10 0 [d, .int lo, .int hi] = .ok (.sh (.bool (inR d lo hi))) := rfl
theorem l10 (a b : D) : m10 6 [a, b] = if okc a b = true then .ok (.sh .none) else bad := rfl
def behindS : List D → Rs Rv
  | [a, b, c] => if okc a b = true then (if inR c 0 12 = true then spec3 rowT [a, b, c] else bad) else bad
  | _ => .stuck
theorem behind_ok (ds : List D) : Le (behindS ds) (textR dfs cg.sub m10 11 ds) := by
  unfold behindS
  split
  · rename_i a b c
    rw [textR_at (df := df11) rfl rfl]
    have e0 : denE m10 (.call 6 (.cons (.var 0) (.cons (.var 1) .nil))) (startE df11.N.length [a, b, c]) = if okc a b = true then .ok (.sh .none) else bad :=
      (vE_call (vA_sh (vE_var rfl) (vA_sh (vE_var rfl) vA_nil))).trans (l10 a b)
    by_cases h : okc a b = true
    · rw [if_pos h] at e0 ⊢
      have cc : denT m10 (condB (dropB 1 df11.body)) (startE df11.N.length [a, b, c]) = .ok (!inR c 0 12) :=
        vT_not ((vT_tru (va_of ((vE_call (vA_sh (vE_var rfl) (vA_sh rfl (vA_sh rfl vA_nil)))).trans (w10 _ _ _)))).trans rfl)
      have s := vS_iff (sub := cg.sub) (a := thenB (dropB 1 df11.body)) (b := .nil) cc
      cases k : inR c 0 12 with
      | true =>
        rw [k, if_neg (by decide)] at s
        rw [if_pos rfl]
        refine .inr ?_
        have t := (vB_cons (vS_expr (sub := cg.sub) e0)).trans ((vB_cons (r := dropB 2 df11.body) s))
        refine Eq.trans ?_ (congrArg endR t).symm
        symm
        refine end_call.trans ?_
        exact vE_call (vA_sh (vE_var rfl) (vA_sh (vE_var rfl) (vA_sh (vE_var rfl) vA_nil)))
      | false =>
        rw [k, if_pos (by decide)] at s
        rw [if_neg Bool.false_ne_true]
        exact .inr (congrArg endR ((vB_cons (vS_expr (sub := cg.sub) e0)).trans (vB_exc (r := dropB 2 df11.body) (s.trans (vB_exc rfl))))).symm
    · rw [if_neg h] at e0 ⊢
      exact .inr (congrArg endR (vB_exc (r := dropB 1 df11.body) (vS_exprX (sub := cg.sub) e0))).symm
  · exact .inl rfl
def m11 : Orc := byTold 11 behindS m10
theorem m11_le : LeC m11 (denCall dfs cg.sub 26) := byTold_le m10_le behind_ok
def fstR : Rs Rv → Rs Rv
  | .ok (.sh (.list (x :: _))) => .ok (.sh x)
  | .exc c => .exc c
  | _ => .stuck
def oneS (ds : List D) : Rs Rv := fstR (behindS ds)
theorem vE_ix0 {M : Orc} {env : En} {a : SE} (f : Nat) (as : SA) (h : a = .call f as) : Le (fstR (denE M a env)) (denE M (.ix a (.int 0)) env) := by
  subst h
  cases e : denE M (.call f as) env with
  | ok v =>
    unfold fstR
    split
    · rename_i x r q
      cases q
      exact .inr ((vE_ix (va_of e) va_int).trans (ixD_cons0 x r)).symm
    · rename_i q; cases q
    · exact .inl rfl
  | exc c =>
    refine .inr ?_
    simp only [fstR, denE, bor]
    simp only [denE] at e
    rw [e]; rfl
  | stuck => exact .inl rfl
theorem one_ok (ds : List D) : Le (oneS ds) (textR dfs cg.sub m11 12 ds) := by
  match ds with
  | [a, b, c] =>
    rw [textR_at (df := df12) rfl rfl]
    have t : denE m11 (.call 11 (.cons (.var 0) (.cons (.var 1) (.cons (.var 2) .nil)))) (startE df12.N.length [a, b, c]) = behindS [a, b, c] := vE_call (vA_sh (vE_var rfl) (vA_sh (vE_var rfl) (vA_sh (vE_var rfl) vA_nil)))
    have u := vE_ix0 (M := m11) (env := startE df12.N.length [a, b, c]) (a := .call 11 (.cons (.var 0) (.cons (.var 1) (.cons (.var 2) .nil)))) _ _ rfl
    rw [t] at u
    refine Le.trans u (.inr ?_)
    exact end_ix.symm
  | [] => exact .inl rfl
  | [_] => exact .inl rfl
  | [_, _] => exact .inl rfl
  | _ :: _ :: _ :: _ :: _ => exact .inl rfl
def m12 : Orc := byTold 12 oneS m11
theorem m12_le : LeC m12 (denCall dfs cg.sub 27) := byTold_le m11_le one_ok
def m13 : Orc := byTold 14 (gcdS 40000) m12
theorem m13_le : LeC m13 (denCall dfs cg.sub 28) := byTold_le m12_le lgcd_ok
def m14 : Orc := byTold 13 cellS m13
theorem m14_le : LeC m14 (denCall dfs cg.sub 29) := byTold_le m13_le cell_ok
def m15 : Orc := byTold 15 (textR dfs cg.sub m14 15) m14
theorem m15_le : LeC m15 (denCall dfs cg.sub 30) := byText_le m14_le
def env2 (p l : Nat) : En := [none, some (.sh (dN p)), some (.sh (dN l)), none, none, none, none, none, none, none, none, none, none]
def env3 (p l r : Nat) : En := [none, some (.sh (dN p)), some (.sh (dN l)), none, none, none, none, none, none, none, some (.sh (dN r)), none, none]
def midB : SB := takeB 6 (dropB 4 df16.body)
def endB : SB := dropB 12 df16.body
def okRt : Rt → Bool
  | .nx e => decide (e.length = 13) && e.all okS
  | _ => false
def isTrue : Rt → Bool
  | .rt (.sh (.bool true)) => true
  | _ => false
theorem mid11 : okRt (denB m15 cg.sub midB (env2 1 1)) = true := by decide +kernel
theorem end11 : ((List.range 13).all fun r => isTrue (denB m15 cg.sub endB (env3 1 1 r))) = true := by decide +kernel
theorem mid21 : okRt (denB m15 cg.sub midB (env2 2 1)) = true := by decide +kernel
theorem end21 : ((List.range 13).all fun r => isTrue (denB m15 cg.sub endB (env3 2 1 r))) = true := by decide +kernel
theorem mid22 : okRt (denB m15 cg.sub midB (env2 2 2)) = true := by decide +kernel
theorem end22 : ((List.range 13).all fun r => isTrue (denB m15 cg.sub endB (env3 2 2 r))) = true := by decide +kernel
theorem mid31 : okRt (denB m15 cg.sub midB (env2 3 1)) = true := by decide +kernel
theorem end31 : ((List.range 13).all fun r => isTrue (denB m15 cg.sub endB (env3 3 1 r))) = true := by decide +kernel
theorem mid32 : okRt (denB m15 cg.sub midB (env2 3 2)) = true := by decide +kernel
theorem end32 : ((List.range 13).all fun r => isTrue (denB m15 cg.sub endB (env3 3 2 r))) = true := by decide +kernel
theorem mid33 : okRt (denB m15 cg.sub midB (env2 3 3)) = true := by decide +kernel
theorem end33 : ((List.range 13).all fun r => isTrue (denB m15 cg.sub endB (env3 3 3 r))) = true := by decide +kernel
theorem mid41 : okRt (denB m15 cg.sub midB (env2 4 1)) = true := by decide +kernel
theorem end41 : ((List.range 13).all fun r => isTrue (denB m15 cg.sub endB (env3 4 1 r))) = true := by decide +kernel
theorem mid42 : okRt (denB m15 cg.sub midB (env2 4 2)) = true := by decide +kernel
theorem end42 : ((List.range 13).all fun r => isTrue (denB m15 cg.sub endB (env3 4 2 r))) = true := by decide +kernel
theorem mid43 : okRt (denB m15 cg.sub midB (env2 4 3)) = true := by decide +kernel
theorem end43 : ((List.range 13).all fun r => isTrue (denB m15 cg.sub endB (env3 4 3 r))) = true := by decide +kernel
theorem mid44 : okRt (denB m15 cg.sub midB (env2 4 4)) = true := by decide +kernel
theorem end44 : ((List.range 13).all fun r => isTrue (denB m15 cg.sub endB (env3 4 4 r))) = true := by decide +kernel
theorem all_pl {P : Nat → Nat → Prop} (h11 : P 1 1) (h21 : P 2 1) (h22 : P 2 2) (h31 : P 3 1) (h32 : P 3 2) (h33 : P 3 3) (h41 : P 4 1) (h42 : P 4 2) (h43 : P 4 3) (h44 : P 4 4) : ∀ p, p < 5 → ∀ l, 1 ≤ l → l ≤ p → P p l := by
  intro p hp l h1 h2
  match p, l, hp, h1, h2 with
  | 1, 1, _, _, _ => exact h11
  | 2, 1, _, _, _ => exact h21
  | 2, 2, _, _, _ => exact h22
  | 3, 1, _, _, _ => exact h31
  | 3, 2, _, _, _ => exact h32
  | 3, 3, _, _, _ => exact h33
  | 4, 1, _, _, _ => exact h41
  | 4, 2, _, _, _ => exact h42
  | 4, 3, _, _, _ => exact h43
  | 4, 4, _, _, _ => exact h44
  | 0, l, _, h, k => exact absurd h (by omega)
  | _, 0, _, h, _ => exact absurd h (by omega)
  | 1, l + 2, _, _, h => exact absurd h (by omega)
  | 2, l + 3, _, _, h => exact absurd h (by omega)
  | 3, l + 4, _, _, h => exact absurd h (by omega)
  | 4, l + 5, _, _, h => exact absurd h (by omega)
  | _ + 5, _, h, _, _ => exact absurd h (by omega)
theorem mid_all : ∀ p, p < 5 → ∀ l, 1 ≤ l → l ≤ p → okRt (denB m15 cg.sub midB (env2 p l)) = true := all_pl mid11 mid21 mid22 mid31 mid32 mid33 mid41 mid42 mid43 mid44
theorem end_all : ∀ p, p < 5 → ∀ l, 1 ≤ l → l ≤ p → ((List.range 13).all fun r => isTrue (denB m15 cg.sub endB (env3 p l r))) = true := all_pl end11 end21 end22 end31 end32 end33 end41 end42 end43 end44
theorem low_env {e f : En} {S : D} {p l : Nat} (q : EnLe e f) (he : e.length = 13) (ho : e.all okS = true) (h0 : getS f 0 = some (.sh S)) (h1 : getS f 1 = some (.sh (dN p))) (h2 : getS f 2 = some (.sh (dN l))) :
    EnLe [some (.sh S), some (.sh (dN p)), some (.sh (dN l)), none, none, none, none, none, none, none, none, none, none] f := by
  refine ⟨he.symm.trans q.1, fun i => ?_⟩
  have ok : okS (getS f i) = true := by
    rcases q.2 i with z | z
    · exact z.2
    · rw [← z]
      unfold getS
      rw [List.getD_eq_getElem?_getD]
      cases g : e[i]? with
      | none => rfl
      | some x => exact List.all_eq_true.mp ho x (List.mem_of_getElem? g)
  match i with
  | 0 => exact .inr h0.symm
  | 1 => exact .inr h1.symm
  | 2 => exact .inr h2.symm
  | 3 => exact .inl ⟨rfl, ok⟩
  | 4 => exact .inl ⟨rfl, ok⟩
  | 5 => exact .inl ⟨rfl, ok⟩
  | 6 => exact .inl ⟨rfl, ok⟩
  | 7 => exact .inl ⟨rfl, ok⟩
  | 8 => exact .inl ⟨rfl, ok⟩
  | 9 => exact .inl ⟨rfl, ok⟩
  | 10 => exact .inl ⟨rfl, ok⟩
  | 11 => exact .inl ⟨rfl, ok⟩
  | 12 => exact .inl ⟨rfl, ok⟩
  | i + 13 => exact .inl ⟨rfl, ok⟩
theorem okRt_inv {t : Rt} (h : okRt t = true) : ∃ e, t = .nx e ∧ e.length = 13 ∧ e.all okS = true := by
  cases t with
  | nx e =>
    unfold okRt at h
    rw [Bool.and_eq_true, decide_eq_true_eq] at h
    exact ⟨e, rfl, h.1, h.2⟩
  | _ => cases h
theorem isTrue_inv {t : Rt} (h : isTrue t = true) : t = .rt (.sh (.bool true)) := by
  unfold isTrue at h
  split at h
  · rfl
  · cases h
def depth : Nat := 31
def envR (S : D) (p l r : Nat) : En := [some (.sh S), some (.sh (dN p)), some (.sh (dN l)), none, none, none, none, none, none, none, some (.sh (dN r)), none, none]
def envS (S : D) (p l : Nat) : En := [some (.sh S), some (.sh (dN p)), some (.sh (dN l)), none, none, none, none, none, none, none, none, none, none]
theorem law : ∀ ns, ns.length ≤ 63 → (∀ z ∈ ns, Builtin.Int.intBits z ≤ 1048576) → denCall dfs cg.sub depth 16 [intsD ns] = .ok (.sh (.bool true)) := by
  intro ns _ _
  refine Le.ok (textR_le m15_le 16 [intsD ns]) ?_
  rw [textR_at (df := df16) rfl rfl]
  have c : ∀ (i : Nat) (env : En), getS env 0 = some (.sh (intsD ns)) → denE m15 (.call 13 (.cons (.var 0) (.cons (.int (.ofNat i)) .nil))) env = .ok (.sh (.int (ns.getD i 0))) := fun i env h => by
    refine (vE_call (vA_sh (vE_var h) (vA_sh rfl vA_nil))).trans ?_
    show Rs.ok (Rv.sh ((ns.map PyData.int).getD i (.int 0))) = _
    rw [getD_ints]
  obtain ⟨a, ha, ha2⟩ := mod_of (ns.getD 0 0) 4 (by omega)
  obtain ⟨b, hb, hb2⟩ := mod_of (ns.getD 1 0) (1 + a) (by omega)
  obtain ⟨r, hr, hr2⟩ := mod_of (ns.getD 2 0) 13 (by omega)
  have e1 : denE m15 (retE df16.body) (startE df16.N.length [intsD ns]) = .ok (.sh (dN (1 + a))) := by
    refine (vE_bin va_int (va_of ((vE_bin (va_of (c 0 _ rfl)) va_int).trans (bin_mod (by decide))))).trans ((bin_add _ _).trans ?_)
    rw [show (4 : Int) = .ofNat 4 from rfl, ha2]; rfl
  have e2 : denE m15 (retE (dropB 2 df16.body)) [some (.sh (intsD ns)), some (.sh (dN (1 + a))), none, none, none, none, none, none, none, none, none, none, none] = .ok (.sh (dN (1 + b))) := by
    refine (vE_bin va_int (va_of ((vE_bin (va_of (c 1 _ rfl)) (va_var rfl)).trans (bin_mod (j := .ofNat (1 + a)) (Int.ofNat_lt.mpr (by omega : 0 < 1 + a)))))).trans ((bin_add _ _).trans ?_)
    rw [hb2]; rfl
  have e10 : denE m15 (retE (dropB 10 df16.body)) (envS (intsD ns) (1 + a) (1 + b)) = .ok (.sh (dN r)) := by
    refine (vE_bin (va_of (c 2 _ rfl)) va_int).trans ((bin_mod (by decide)).trans ?_)
    rw [show (13 : Int) = .ofNat 13 from rfl, hr2]; rfl
  have mid := mid_all (1 + a) (by omega) (1 + b) (by omega) (by omega)
  have em := okRt_inv mid
  obtain ⟨e, em1, em2, em3⟩ := em
  obtain ⟨f, f1, f2⟩ := run_closed (env := envS (intsD ns) (1 + a) (1 + b)) (EnLe.skip rfl (EnLe.refl _)) em1
  have k0 := kept_nx (i := 0) (b := midB) (by decide +kernel) f1 rfl
  have k1 := kept_nx (i := 1) (b := midB) (by decide +kernel) f1 rfl
  have k2 := kept_nx (i := 2) (b := midB) (by decide +kernel) f1 rfl
  have low := low_env (S := intsD ns) (p := 1 + a) (l := 1 + b) f2 em2 em3 k0 k1 k2
  have ee := List.all_eq_true.mp (end_all (1 + a) (by omega) (1 + b) (by omega) (by omega)) r (List.mem_range.mpr hr)
  have et := isTrue_inv ee
  have up := run_ret (env := envR (intsD ns) (1 + a) (1 + b) r) (EnLe.skip rfl (EnLe.refl _)) et
  have t10 : denB m15 cg.sub (dropB 10 df16.body) (envS (intsD ns) (1 + a) (1 + b)) = .rt (.sh (.bool true)) := (vB_cons (r := dropB 11 df16.body) (vS_set (sub := cg.sub) (i := 10) e10)).trans ((vB_frz (r := endB) (i := 10) (d := dN r) rfl).trans up)
  have tf := run_ret low t10
  have t4 : denB m15 cg.sub (dropB 4 df16.body) (envS (intsD ns) (1 + a) (1 + b)) = .rt (.sh (.bool true)) :=
    (denB_step (n := 6) (b2 := dropB 10 df16.body) rfl rfl f1).trans tf
  have t : denB m15 cg.sub df16.body (startE df16.N.length [intsD ns]) = .rt (.sh (.bool true)) :=
    (vB_cons (vS_set e1)).trans ((vB_frz rfl).trans ((vB_cons (vS_set e2)).trans ((vB_frz rfl).trans t4)))
  rw [t]; rfl
end Law
open PySem PySem.W PyProof.Rows
set_option maxRecDepth 100000 in
set_option maxHeartbeats 0 in
theorem PySem.Challenge.cw_joinlines_k03_chances_holds : PySem.Challenge.rw_joinlines_k03_chances.Holds := by
  w_on; o_law; k_head; (case hw => w_witness2)
  k_fill
  refine PP.walk (l := PySem.Challenge.rw_joinlines_k03_chances) (k := Law.depth) rfl rfl ⟨rfl, by decide, by decide⟩ (fun w h Y => PySem.W.kIn_of Y) ?F
  case F =>
    intro w mg fa h KX G hmg
    have d0 := PP.def_in (g := Law.df0.g) (f := Law.df0.f) (st := Law.topS 4) KX G (by k_is) (by k_is) (by k_is) (by k_is)
    have d1 := PP.def_in (g := Law.df1.g) (f := Law.df1.f) (st := Law.topS 7) KX G (by k_is) (by k_is) (by k_is) (by k_is)
    have d2 := PP.def_in (g := Law.df2.g) (f := Law.df2.f) (st := Law.topS 8) KX G (by k_is) (by k_is) (by k_is) (by k_is)
    have d3 := PP.def_in (g := Law.df3.g) (f := Law.df3.f) (st := Law.topS 9) KX G (by k_is) (by k_is) (by k_is) (by k_is)
    have d4 := PP.def_in (g := Law.df4.g) (f := Law.df4.f) (st := Law.topS 10) KX G (by k_is) (by k_is) (by k_is) (by k_is)
    have d5 := PP.def_in (g := Law.df5.g) (f := Law.df5.f) (st := Law.topS 11) KX G (by k_is) (by k_is) (by k_is) (by k_is)
    have d6 := PP.def_in (g := Law.df6.g) (f := Law.df6.f) (st := Law.topS 12) KX G (by k_is) (by k_is) (by k_is) (by k_is)
    have d7 := PP.def_in (g := Law.df7.g) (f := Law.df7.f) (st := Law.topS 13) KX G (by k_is) (by k_is) (by k_is) (by k_is)
    have d8 := PP.def_in (g := Law.df8.g) (f := Law.df8.f) (st := Law.topS 14) KX G (by k_is) (by k_is) (by k_is) (by k_is)
    have d9 := PP.def_in (g := Law.df9.g) (f := Law.df9.f) (st := Law.topS 15) KX G (by k_is) (by k_is) (by k_is) (by k_is)
    have d10 := PP.def_in (g := Law.df10.g) (f := Law.df10.f) (st := Law.topS 16) KX G (by k_is) (by k_is) (by k_is) (by k_is)
    have d11 := PP.def_in (g := Law.df11.g) (f := Law.df11.f) (st := Law.topS 17) KX G (by k_is) (by k_is) (by k_is) (by k_is)
    have d12 := PP.def_in (g := Law.df12.g) (f := Law.df12.f) (st := Law.topS 18) KX G (by k_is) (by k_is) (by k_is) (by k_is)
    have d13 := PP.def_in (g := Law.df13.g) (f := Law.df13.f) (st := Law.topS 20) KX G (by k_is) (by k_is) (by k_is) (by k_is)
    have d14 := PP.def_in (g := Law.df14.g) (f := Law.df14.f) (st := Law.topS 21) KX G (by k_is) (by k_is) (by k_is) (by k_is)
    have d15 := PP.def_in (g := Law.df15.g) (f := Law.df15.f) (st := Law.topS 22) KX G (by k_is) (by k_is) (by k_is) (by k_is)
    have d16 := PP.def_in (g := Law.df16.g) (f := Law.df16.f) (st := Law.topS 23) KX G (by k_is) (by k_is) (by k_is) (by k_is)
    have c0 := PP.cls_in (c := "BadCount") KX G (by k_is) (by k_exc) (by k_is) (by k_is) (by k_is) (by k_is)
    refine PP.law_end (cg := Law.cg) (dfs := Law.dfs) (sts := Law.sts) (li := 16) (ldf := Law.df16) (h := h) (Law.modOk (PySem.W.mg_none_of KX G (by k_is)) (PySem.W.mg_none_of KX G (by k_is)) (PySem.W.mg_none_of KX G (by k_is)) (PySem.W.mg_none_of KX G (by k_is)) (PySem.W.mg_none_of KX G (by k_is)) (PySem.W.mg_none_of KX G (by k_is)) (PySem.W.mg_of KX G (by k_is))  c0 ) rfl (Law.all d0 d1 d2 d3 d4 d5 d6 d7 d8 d9 d10 d11 d12 d13 d14 d15 d16) rfl rfl rfl hmg (fun _ _ _ _ _ _ _ => rfl) Law.law
