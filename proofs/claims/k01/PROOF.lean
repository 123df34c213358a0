import PyProof.Rows.All
import Wide.All
import OpenK.AllK
import Wide.FinOn
import HandS.ForMost
import HandS.IsInst
import HandS.TupAny
import HandS.TupMul
import HandS.Conv
import HandS.Deep
import HandS.Style
import HandS.Defaults
import HandS.Head0
import HandS.Head1
import HandS.Head2
import HandS.HeadEnd
import HandS.HeadHook1
import HandS.HeadHook2
import KE.KStateDown
import PySem.Challenge.RW_toldbytrials_k01_machines_told
set_option Elab.async false
set_option linter.all false
set_option maxRecDepth 100000
set_option autoImplicit false
set_option maxHeartbeats 4000000
/-! Mp1: values as data, how a heap bears them, the operations on them. -/
namespace Mp
open PySem PySem.Spec PyProof.Rows L2
/-- a value as data: lists and dicts by what they hold -/
inductive D where
  | non | bl (b : Bool) | int (i : Int) | str (x : Str) | tup (xs : List D) | lst (xs : List D) | dct (ks vs : List D) | pool
  deriving Inhabited
/-- what stays fixed through the law: the written part, the addresses of the pool -/
structure Gb where
  K : PySem.W.Frag
  p : Addr
  r : Addr
  c : Addr
/-- a tuple of the written part -/
def KT (K : PySem.W.Frag) (a : Addr) (xs : List V) : Prop := SqT K (fun _ => none) a xs
def TupAt (K : PySem.W.Frag) (H : Hp) (A : Addr → Prop) (a : Addr) (xs : List V) : Prop := (¬ A a ∧ H a = some (.tup xs)) ∨ KT K a xs
theorem TupAt.sq {K : PySem.W.Frag} {H : Hp} {A : Addr → Prop} {a : Addr} {xs : List V} (h : TupAt K H A a xs) : SqT K H a xs := by
  rcases h with ⟨_, h⟩ | h
  · exact .inl (.inl h)
  · rcases h with h | h
    · rcases h with h | ⟨_, h⟩ <;> cases h
    · exact .inr h
mutual
/-- v stands for the data d in the heap H; nothing on the way lies in A -/
def Rp (g : Gb) (H : Hp) (A : Addr → Prop) : D → V → Prop
  | .non, v => v = .non
  | .bl b, v => v = .bl b
  | .int i, v => v = .int i
  | .str x, v => v = .str x
  | .tup ds, v => ∃ a xs, v = .ref a ∧ TupAt g.K H A a xs ∧ RpL g H A ds xs
  | .lst ds, v => ∃ a xs, v = .ref a ∧ ¬ A a ∧ H a = some (.lst xs) ∧ RpL g H A ds xs
  | .dct ks vs, v => ∃ a kvs, v = .ref a ∧ ¬ A a ∧ H a = some (.dT kvs) ∧ RpK ks kvs ∧ RpL g H A vs (kvs.map (·.2))
  | .pool, v => v = .ref g.p
def RpL (g : Gb) (H : Hp) (A : Addr → Prop) : List D → List V → Prop
  | [], xs => xs = []
  | d :: ds, xs => ∃ x r, xs = x :: r ∧ Rp g H A d x ∧ RpL g H A ds r
/-- keys -/
def RpK : List D → List (List Key × V) → Prop
  | [], xs => xs = []
  | _ :: _, _ => False
end
/-- a list (a dict) that is one's own, at a -/
def OwnAt (g : Gb) (H : Hp) (A : Addr → Prop) (a : Addr) : D → Prop
  | .lst ds => ∃ xs, H a = some (.lst xs) ∧ RpL g H A ds xs
  | _ => False
/-- a value that is read: data, or what is one's own -/
def Rb (g : Gb) (H : Hp) (A : Addr → Prop) (d : D) (v : V) : Prop := Rp g H A d v ∨ ∃ a, v = .ref a ∧ a ≠ g.c ∧ OwnAt g H A a d
/-- a value that is new (since H) and one's own -/
def Fr (g : Gb) (H H' : Hp) (A : Addr → Prop) (z : D) (v : V) : Prop := ∃ a, v = .ref a ∧ H a = none ∧ OwnAt g H' (fun b => A b ∨ b = a) a z
def RV (g : Gb) (H H' : Hp) (A : Addr → Prop) : Bool → D → V → Prop
  | true, z, v => Fr g H H' A z v
  | false, z, v => Rp g H' A z v
/-- all of A is tracked -/
def Trk (H : Hp) (A : Addr → Prop) : Prop := ∀ b, A b → H b ≠ none
/-- from (H, A) to (H', B): what A leaves out stays, B has beyond A only what was free -/
structure Mv (H H' : Hp) (A B : Addr → Prop) : Prop where
  st : ∀ b o, ¬ A b → H b = some o → H' b = some o
  nw : ∀ b, B b → ¬ A b → H b = none
section
variable {g : Gb} {H H' : Hp} {A B : Addr → Prop}
mutual
theorem Rp.mv (m : Mv H H' A B) : ∀ (d : D) (v : V), Rp g H A d v → Rp g H' B d v
  | .non, v, h => h
  | .bl b, v, h => h
  | .int i, v, h => h
  | .str x, v, h => h
  | .tup ds, v, h => by
    obtain ⟨a, xs, e, t, r⟩ := h
    refine ⟨a, xs, e, ?_, RpL.mv m ds xs r⟩
    rcases t with ⟨h1, h2⟩ | t
    · exact .inl ⟨fun hb => absurd ((m.nw a hb h1).symm.trans h2) (fun z => nomatch z), m.st a _ h1 h2⟩
    · exact .inr t
  | .lst ds, v, h => by
    obtain ⟨a, xs, e, h1, h2, r⟩ := h
    exact ⟨a, xs, e, fun hb => absurd ((m.nw a hb h1).symm.trans h2) (fun z => nomatch z), m.st a _ h1 h2, RpL.mv m ds xs r⟩
  | .dct ks vs, v, h => by
    obtain ⟨a, xs, e, h1, h2, k, r⟩ := h
    exact ⟨a, xs, e, fun hb => absurd ((m.nw a hb h1).symm.trans h2) (fun z => nomatch z), m.st a _ h1 h2, k, RpL.mv m vs _ r⟩
  | .pool, v, h => h
theorem RpL.mv (m : Mv H H' A B) : ∀ (ds : List D) (xs : List V), RpL g H A ds xs → RpL g H' B ds xs
  | [], xs, h => h
  | d :: ds, xs, h => by
    obtain ⟨x, r, e, h1, h2⟩ := h
    exact ⟨x, r, e, Rp.mv m d x h1, RpL.mv m ds r h2⟩
end
theorem RpL.length : ∀ {ds : List D} {xs : List V}, RpL g H A ds xs → xs.length = ds.length
  | [], xs, h => by
    have e : xs = [] := h
    rw [e]; rfl
  | d :: ds, xs, h => by
    obtain ⟨x, r, e, _, h2⟩ := h
    rw [e, List.length_cons, List.length_cons, RpL.length h2]
theorem RpL.append : ∀ {ds es : List D} {xs ys : List V}, RpL g H A ds xs → RpL g H A es ys → RpL g H A (ds ++ es) (xs ++ ys)
  | [], es, xs, ys, h, h' => by
    have e : xs = [] := h
    rw [e]; exact h'
  | d :: ds, es, xs, ys, h, h' => by
    obtain ⟨x, r, e, h1, h2⟩ := h
    rw [e]
    exact ⟨x, r ++ ys, rfl, h1, RpL.append h2 h'⟩
theorem RpL.get : ∀ {ds : List D} {xs : List V} {i : Nat} {d : D}, RpL g H A ds xs → ds[i]? = some d → ∃ x, xs[i]? = some x ∧ Rp g H A d x
  | [], _, _, _, _, e => by simp at e
  | _ :: _, _, 0, _, h, e => by
    obtain ⟨x, r, e1, h1, _⟩ := h
    simp at e
    subst e
    exact ⟨x, by rw [e1]; rfl, h1⟩
  | _ :: ds, _, i + 1, d, h, e => by
    obtain ⟨x, r, e1, _, h2⟩ := h
    obtain ⟨y, h3, h4⟩ := RpL.get (i := i) (d := d) h2 (by simpa using e)
    exact ⟨y, by rw [e1]; simpa using h3, h4⟩
theorem RpL.get' : ∀ {ds : List D} {xs : List V} {i : Nat} {x : V}, RpL g H A ds xs → xs[i]? = some x → ∃ d, ds[i]? = some d ∧ Rp g H A d x
  | [], xs, i, x, h, e => by
    have e1 : xs = [] := h
    rw [e1] at e
    simp at e
  | d :: ds, xs, i, x, h, e => by
    obtain ⟨y, r, e1, h1, h2⟩ := h
    subst e1
    cases i with
    | zero =>
      simp at e
      subst e
      exact ⟨d, rfl, h1⟩
    | succ i =>
      obtain ⟨z, h3, h4⟩ := RpL.get' (i := i) (x := x) h2 (by simpa using e)
      exact ⟨z, by simpa using h3, h4⟩
theorem RpL.take : ∀ {ds : List D} {xs : List V} (n : Nat), RpL g H A ds xs → RpL g H A (ds.take n) (xs.take n)
  | _, _, 0, _ => by simp only [List.take_zero]; exact rfl
  | [], xs, n + 1, h => by
    have e : xs = [] := h
    rw [e]; exact rfl
  | d :: ds, xs, n + 1, h => by
    obtain ⟨x, r, e, h1, h2⟩ := h
    rw [e]
    exact ⟨x, r.take n, rfl, h1, RpL.take n h2⟩
theorem RpL.drop : ∀ {ds : List D} {xs : List V} (n : Nat), RpL g H A ds xs → RpL g H A (ds.drop n) (xs.drop n)
  | _, _, 0, h => h
  | [], xs, n + 1, h => by
    have e : xs = [] := h
    rw [e]; exact rfl
  | d :: ds, xs, n + 1, h => by
    obtain ⟨x, r, e, h1, h2⟩ := h
    rw [e]
    exact RpL.drop n h2
theorem RpL.set {d : D} {x : V} (hd : Rp g H A d x) : ∀ {ds : List D} {xs : List V} (i : Nat), RpL g H A ds xs → RpL g H A (ds.set i d) (xs.set i x)
  | [], xs, i, h => by
    have e : xs = [] := h
    rw [e]; exact rfl
  | _ :: ds, xs, 0, h => by
    obtain ⟨y, r, e, _, h2⟩ := h
    rw [e]
    exact ⟨x, r, rfl, hd, h2⟩
  | d' :: ds, xs, i + 1, h => by
    obtain ⟨y, r, e, h1, h2⟩ := h
    rw [e]
    exact ⟨y, r.set i x, rfl, h1, RpL.set hd i h2⟩
theorem RpL.rep {ds : List D} {xs : List V} (h : RpL g H A ds xs) : ∀ n : Nat, RpL g H A (List.replicate n ds).flatten (List.replicate n xs).flatten
  | 0 => rfl
  | n + 1 => by
    rw [List.replicate_succ, List.replicate_succ, List.flatten_cons, List.flatten_cons]
    exact RpL.append h (RpL.rep h n)
theorem RpL.nil_iff {ds : List D} {xs : List V} (h : RpL g H A ds xs) : xs = [] ↔ ds = [] := by
  have := h.length
  constructor <;> intro e <;> subst e
  · exact List.eq_nil_of_length_eq_zero this.symm
  · exact List.eq_nil_of_length_eq_zero this
theorem RpL.isEmpty {ds : List D} {xs : List V} (h : RpL g H A ds xs) : xs.isEmpty = ds.isEmpty := by
  cases ds with
  | nil =>
    have e : xs = [] := h
    rw [e]; rfl
  | cons d ds =>
    obtain ⟨x, r, e, _⟩ := h
    rw [e]; rfl
theorem RpL.nil : RpL g H A [] [] := rfl
theorem RpL.one {d : D} {x : V} (h : Rp g H A d x) : RpL g H A [d] [x] := ⟨x, [], rfl, h, rfl⟩
theorem Mv.refl : Mv H H A A := ⟨fun _ _ _ h => h, fun _ h n => absurd h n⟩
theorem Mv.same (s : Same H H') : Mv H H' A A := ⟨fun b o _ h => s b o h, fun _ h n => absurd h n⟩
theorem Mv.less (h : ∀ b, B b → A b) : Mv H H A B := ⟨fun _ _ _ h => h, fun b hb n => absurd (h b hb) n⟩
theorem Mv.new {a : Addr} (hn : H a = none) (s : Same H H') : Mv H H' A (fun b => A b ∨ b = a) := ⟨fun b o _ h => s b o h, fun b hb n => by
  rcases hb with hb | hb
  · exact absurd hb n
  · rw [hb]; exact hn⟩
theorem same_new {a : Addr} {o : HO} (hn : H a = none) : Same H (upd H a o) := fun b u e => by
  rw [upd_ne (ne_of_none e hn)]
  exact e
/-- a fresh one is data -/
theorem RV.rp {fl : Bool} {z : D} {v : V} (t : Trk H A) (h : RV g H H' A fl z v) : Rp g H' A z v := by
  cases fl with
  | false => exact h
  | true =>
    obtain ⟨a, e, hn, o⟩ := h
    have na : ¬ A a := fun h => t a h hn
    cases z with
    | lst ds =>
      obtain ⟨xs, h1, h2⟩ := o
      exact ⟨a, xs, e, na, h1, RpL.mv (Mv.less fun b hb => .inl hb) ds xs h2⟩
    | _ => exact o.elim
theorem Rb.of {d : D} {v : V} (h : Rp g H A d v) : Rb g H A d v := .inl h
theorem RV.rb {fl : Bool} {z : D} {v : V} (t : Trk H A) (h : RV g H H' A fl z v) : Rb g H' A z v := .inl (h.rp t)
/-! ### reading a value -/
theorem Rb.int {i : Int} {v : V} (h : Rb g H A (.int i) v) : v = .int i := by
  rcases h with h | ⟨_, _, _, h⟩
  · exact h
  · exact h.elim
theorem Rb.bl {i : Bool} {v : V} (h : Rb g H A (.bl i) v) : v = .bl i := by
  rcases h with h | ⟨_, _, _, h⟩
  · exact h
  · exact h.elim
theorem Rb.non {v : V} (h : Rb g H A .non v) : v = .non := by
  rcases h with h | ⟨_, _, _, h⟩
  · exact h
  · exact h.elim
theorem Rb.str {x : Str} {v : V} (h : Rb g H A (.str x) v) : v = .str x := by
  rcases h with h | ⟨_, _, _, h⟩
  · exact h
  · exact h.elim
theorem Rb.tup {ds : List D} {v : V} (h : Rb g H A (.tup ds) v) : ∃ a xs, v = .ref a ∧ TupAt g.K H A a xs ∧ RpL g H A ds xs := by
  rcases h with h | ⟨_, _, _, h⟩
  · exact h
  · exact h.elim
theorem Rb.lst {ds : List D} {v : V} (h : Rb g H A (.lst ds) v) : ∃ a xs, v = .ref a ∧ H a = some (.lst xs) ∧ RpL g H A ds xs := by
  rcases h with h | ⟨a, e, _, h⟩
  · obtain ⟨a, xs, e, _, h2, h3⟩ := h
    exact ⟨a, xs, e, h2, h3⟩
  · obtain ⟨xs, h2, h3⟩ := h
    exact ⟨a, xs, e, h2, h3⟩
theorem sqL_of {K : PySem.W.Frag} {a : Addr} {xs : List V} (h : H a = some (.lst xs)) : SqL K H a xs := .inl (.inl h)
end
/-! ### data as the library has it -/
mutual
def toPy : D → PyData
  | .non => .none
  | .bl b => .bool b
  | .int i => .int i
  | .str x => .str x
  | .tup ds => .tuple (toPyL ds)
  | .lst ds => .list (toPyL ds)
  | .dct _ _ => .dict []
  | .pool => .dict []
def toPyL : List D → List PyData
  | [] => []
  | d :: ds => toPy d :: toPyL ds
end
theorem toPyL_map : ∀ ds : List D, toPyL ds = ds.map toPy
  | [] => rfl
  | d :: ds => by rw [toPyL, toPyL_map ds, List.map_cons]
def shp (d : D) : Bool := SeqAt.shaped (toPy d)
def eqv (d e : D) : Bool := PyData.eqv (toPy d) (toPy e)
mutual
theorem Rp.dp {g : Gb} {H : Hp} {A : Addr → Prop} : ∀ (d : D) (v : V), Rp g H A d v → (toPy d).canLay0 = true → Dp g.K H v (toPy d)
  | .non, v, h, _ => by
    have e : v = .non := h
    rw [e]; exact .non
  | .bl b, v, h, _ => by
    have e : v = .bl b := h
    rw [e]; exact .bl b
  | .int i, v, h, _ => by
    have e : v = .int i := h
    rw [e]; exact .int i
  | .str x, v, h, _ => by
    have e : v = .str x := h
    rw [e]; exact .str x
  | .tup ds, v, h, hs => by
    obtain ⟨a, xs, e, t, r⟩ := h
    rw [e]
    exact .tup t.sq (Rp.dpL ds xs r hs)
  | .lst ds, v, h, hs => by
    obtain ⟨a, xs, e, _, t, r⟩ := h
    rw [e]
    exact .lst (sqL_of t) (Rp.dpL ds xs r hs)
  | .dct ks vs, v, h, hs => by cases hs
  | .pool, v, h, hs => by cases hs
theorem Rp.dpL {g : Gb} {H : Hp} {A : Addr → Prop} : ∀ (ds : List D) (xs : List V), RpL g H A ds xs → PyData.canLayAll0 (toPyL ds) = true → DpAll g.K H xs (toPyL ds)
  | [], xs, h, _ => by
    have e : xs = [] := h
    rw [e]; exact .nil
  | d :: ds, xs, h, hs => by
    obtain ⟨x, r, e, h1, h2⟩ := h
    rw [e]
    have hs' : ((toPy d).canLay0 && PyData.canLayAll0 (toPyL ds)) = true := hs
    rw [Bool.and_eq_true] at hs'
    exact .cons (Rp.dp d x h1 hs'.1) (Rp.dpL ds r h2 hs'.2)
end
theorem Rb.dp {g : Gb} {H : Hp} {A : Addr → Prop} {d : D} {v : V} (h : Rb g H A d v) (hs : shp d = true) : Dp g.K H v (toPy d) := by
  have hc := SeqAt.canLay_of_shaped hs
  rcases h with h | ⟨a, e, _, h⟩
  · exact Rp.dp d v h hc
  · cases d with
    | lst ds =>
      obtain ⟨xs, h1, h2⟩ := h
      rw [e]
      exact .lst (sqL_of h1) (Rp.dpL ds xs h2 hc)
    | _ => exact h.elim
/-! ### the operations on data -/
def isNon : D → Bool
  | .non => true
  | _ => false
def bin : Operator → D → D → Option (Bool × D)
  | .Add, .int i, .int j => some (false, .int (i + j))
  | .Add, .str x, .str y => if x.length + y.length ≤ sizeLine then some (false, .str (x ++ y)) else none
  | .Add, .tup a, .tup b => if a.length + b.length ≤ sizeLine then some (false, .tup (a ++ b)) else none
  | .Add, .lst a, .lst b => if a.length + b.length ≤ sizeLine then some (true, .lst (a ++ b)) else none
  | .Sub, .int i, .int j => some (false, .int (i - j))
  | .Mult, .int i, .int j => if (-(2 ^ 64) < i ∧ i < 2 ^ 64) ∨ (-(2 ^ 64) < j ∧ j < 2 ^ 64) then some (false, .int (i * j)) else none
  | .Mult, .tup a, .int k => if a.length ≠ 0 ∧ 2 ≤ k ∧ k ≤ 1000 ∧ a.length ≤ 1000 then some (false, .tup (List.replicate k.toNat a).flatten) else none
  | .FloorDiv, .int i, .int j => if 0 < j ∧ j < 1073741824 then some (false, .int (i / j)) else none
  | .Mod, .int i, .int j => if 0 < j then some (false, .int (i % j)) else none
  | .Pow, .int i, .int j => if 0 ≤ j ∧ j ≤ 1000000 ∧ i.natAbs < 2 ^ 64 then some (false, .int (i ^ j.toNat)) else none
  | _, _, _ => none
def cmp : CmpOp → D → D → Option Bool
  | .Eq, a, b => if shp a && shp b then some (eqv a b) else none
  | .NotEq, a, b => if shp a && shp b then some (!eqv a b) else none
  | .Lt, .int i, .int j => some (decide (i < j))
  | .LtE, .int i, .int j => some (decide (i ≤ j))
  | .Gt, .int i, .int j => some (decide (j < i))
  | .GtE, .int i, .int j => some (decide (j ≤ i))
  | .Is, a, .non => some (isNon a)
  | .IsNot, a, .non => some (!isNon a)
  | .Is, .bl a, .bl b => some (a == b)
  | .In, a, .tup ds => if shp a && shp (.tup ds) then some (ds.any fun z => eqv z a) else none
  | .NotIn, a, .tup ds => if shp a && shp (.tup ds) then some (!ds.any fun z => eqv z a) else none
  | .In, a, .lst ds => if shp a && shp (.lst ds) then some (ds.any fun z => eqv z a) else none
  | .NotIn, a, .lst ds => if shp a && shp (.lst ds) then some (!ds.any fun z => eqv z a) else none
  | _, _, _ => none
def ix : D → D → Option D
  | .tup ds, .int i => atI ds i
  | .lst ds, .int i => atI ds i
  | .str z, .int i => if z.length ≤ sizeLine then (atI z.cps.toList i).map fun c => .str ⟨#[c]⟩ else none
  | _, _ => none
def cutD (xs : List D) (lo hi : Option Int) : List D := (xs.drop (HT.sIx xs.length 0 lo)).take (HT.sIx xs.length xs.length hi - HT.sIx xs.length 0 lo)
def slc : D → Option Int → Option Int → Option (Bool × D)
  | .tup ds, lo, hi => some (false, .tup (cutD ds lo hi))
  | .lst ds, lo, hi => some (true, .lst (cutD ds lo hi))
  | _, _, _ => none
/-- what a built-in class is called of a value -/
def tyN : D → Option String
  | .non => some "NoneType"
  | .bl _ => some "bool"
  | .int _ => some "int"
  | .str _ => some "str"
  | .tup _ => some "tuple"
  | .lst _ => some "list"
  | _ => none
/-- readings by data -/
def rD2 (K : PySem.W.Frag) (f : D → D → Option (Bool × D)) : R2 := fun x y H Q => ∃ g A d e fl z, K = g.K ∧ Trk H A ∧ Rb g H A d x ∧ Rb g H A e y ∧ f d e = some (fl, z) ∧ ∀ v H', Same H H' → RV g H H' A fl z v → Q v H'
def rC2 (K : PySem.W.Frag) (f : D → D → Option Bool) : R2 := fun x y H Q => ∃ g A d e z, K = g.K ∧ Trk H A ∧ Rb g H A d x ∧ Rb g H A e y ∧ f d e = some z ∧ Q (.bl z) H
def rI2 (K : PySem.W.Frag) (f : D → D → Option D) : R2 := fun x y H Q => ∃ g A d e z, K = g.K ∧ Trk H A ∧ Rb g H A d x ∧ Rb g H A e y ∧ f d e = some z ∧ ∀ v, Rp g H A z v → Q v H
def RbL (g : Gb) (H : Hp) (A : Addr → Prop) : List D → List V → Prop
  | [], xs => xs = []
  | d :: ds, xs => ∃ x r, xs = x :: r ∧ Rb g H A d x ∧ RbL g H A ds r
def rCl (K : PySem.W.Frag) (f : List D → Option (Bool × D)) : List V → Hp → VK → Prop := fun xs H Q => ∃ g A ds fl z, K = g.K ∧ Trk H A ∧ RbL g H A ds xs ∧ f ds = some (fl, z) ∧ ∀ v H', Same H H' → RV g H H' A fl z v → Q v H'
def rSl (K : PySem.W.Frag) (f : D → Option Int → Option Int → Option (Bool × D)) : V → Option Int → Option Int → Hp → VK → Prop := fun x lo hi H Q => ∃ g A d fl z, K = g.K ∧ Trk H A ∧ Rb g H A d x ∧ f d lo hi = some (fl, z) ∧ ∀ v H', Same H H' → RV g H H' A fl z v → Q v H'
theorem cutV_rp {g : Gb} {H : Hp} {A : Addr → Prop} {ds : List D} {xs : List V} (h : RpL g H A ds xs) (lo hi : Option Int) : RpL g H A (cutD ds lo hi) (cutV xs lo hi) := by
  unfold cutD cutV
  rw [h.length]
  exact RpL.take _ (RpL.drop _ h)
/-- the whole is not cut -/
theorem cutD_whole {ds : List D} {lo hi : Option Int} (h : HT.sIx ds.length 0 lo = 0 ∧ HT.sIx ds.length ds.length hi = ds.length) : cutD ds lo hi = ds := by
  unfold cutD
  rw [h.1, h.2]
  simp
section
variable {X : Cx} {g : Gb}
theorem op_bin (op : Operator) : OpR X (binaryOp op) (rD2 X.K (bin op)) := by
  intro pins s σ H x y v u Q I rx ry h
  obtain ⟨g, A, d, e, fl, z, hK, t, hd, he, hb, k⟩ := h
  unfold bin at hb
  split at hb
  · cases hb
    cases hd.int; cases he.int
    exact op_add pins s σ H _ _ v u Q I rx ry ⟨_, _, rfl, rfl, k _ H (Same.refl H) rfl⟩
  · split at hb
    · cases hb
      cases hd.str; cases he.str
      exact op_add_str pins s σ H _ _ v u Q I rx ry ⟨_, _, rfl, rfl, ‹_›, k _ H (Same.refl H) rfl⟩
    · cases hb
  · split at hb
    · rename_i hz
      cases hb
      obtain ⟨a, xs, rfl, ha, ra⟩ := hd.tup
      obtain ⟨b, ys, rfl, hb, rb⟩ := he.tup
      have ra' := ra.length
      have rb' := rb.length
      refine op_catA pins s σ H _ _ v u Q I rx ry ⟨a, b, xs, ys, rfl, rfl, by rw [hK]; exact ha.sq, by rw [hK]; exact hb.sq, by omega, fun e => ?_, fun n e => ?_, fun n1 n2 p np => ?_⟩
      · have e1 := ra.nil_iff.mp e
        subst e1
        exact k _ H (Same.refl H) ⟨b, ys, rfl, hb, rb⟩
      · have e1 := rb.nil_iff.mp e
        subst e1
        exact k _ H (Same.refl H) ⟨a, xs, rfl, ha, by rw [List.append_nil]; exact ra⟩
      · refine k _ _ (same_new np) ⟨p, xs ++ ys, rfl, .inl ⟨fun hp => t p hp np, upd_same⟩, ?_⟩
        exact RpL.mv (Mv.same (same_new np)) _ _ (ra.append rb)
    · cases hb
  · split at hb
    · rename_i hz
      cases hb
      obtain ⟨a, xs, rfl, ha, ra⟩ := hd.lst
      obtain ⟨b, ys, rfl, hb, rb⟩ := he.lst
      have ra' := ra.length
      have rb' := rb.length
      refine op_cat pins s σ H _ _ v u Q I rx ry ⟨a, b, xs, ys, rfl, rfl, ha, hb, by omega, fun p np => ?_⟩
      exact k _ _ (same_new np) ⟨p, rfl, np, xs ++ ys, upd_same, RpL.mv (Mv.new np (same_new np)) _ _ (ra.append rb)⟩
    · cases hb
  · cases hb
    cases hd.int; cases he.int
    exact op_sub pins s σ H _ _ v u Q I rx ry ⟨_, _, rfl, rfl, k _ H (Same.refl H) rfl⟩
  · split at hb
    · cases hb
      cases hd.int; cases he.int
      exact op_mul pins s σ H _ _ v u Q I rx ry ⟨_, _, rfl, rfl, ‹_›, k _ H (Same.refl H) rfl⟩
    · cases hb
  · split at hb
    · rename_i hz
      cases hb
      cases he.int
      obtain ⟨a, xs, rfl, ha, ra⟩ := hd.tup
      have ra' := ra.length
      refine op_repT pins s σ H _ _ v u Q I rx ry ⟨a, _, xs, rfl, rfl, by rw [hK]; exact ha.sq, fun e => hz.1 (by rw [← ra', e]; rfl), hz.2.1, hz.2.2.1, by omega, fun p np => ?_⟩
      refine k _ _ (same_new np) ⟨p, _, rfl, .inl ⟨fun hp => t p hp np, upd_same⟩, ?_⟩
      exact RpL.mv (Mv.same (same_new np)) _ _ (ra.rep _)
    · cases hb
  · split at hb
    · cases hb
      cases hd.int; cases he.int
      exact op_fdiv pins s σ H _ _ v u Q I rx ry ⟨_, _, rfl, rfl, ‹_›, k _ H (Same.refl H) rfl⟩
    · cases hb
  · split at hb
    · cases hb
      cases hd.int; cases he.int
      exact op_mod pins s σ H _ _ v u Q I rx ry ⟨_, _, rfl, rfl, ‹_›, k _ H (Same.refl H) rfl⟩
    · cases hb
  · split at hb
    · cases hb
      cases hd.int; cases he.int
      exact op_pow pins s σ H _ _ v u Q I rx ry ⟨_, _, rfl, rfl, ‹_›, k _ H (Same.refl H) rfl⟩
    · cases hb
  · cases hb
theorem isN_eq {H : Hp} {A : Addr → Prop} {d : D} {x : V} (h : Rb g H A d x) : decide (x = V.non) = isNon d := by
  cases d with
  | non => rw [h.non]; rfl
  | bl b => rw [h.bl]; rfl
  | int b => rw [h.int]; rfl
  | str b => rw [h.str]; rfl
  | tup b => obtain ⟨a, xs, e, _⟩ := h.tup; rw [e]; rfl
  | lst b => obtain ⟨a, xs, e, _⟩ := h.lst; rw [e]; rfl
  | dct a b =>
    rcases h with h | ⟨_, _, _, h⟩
    · obtain ⟨a, xs, e, _⟩ := h
      rw [e]; rfl
    · exact h.elim
  | pool =>
    rcases h with h | ⟨_, _, _, h⟩
    · have e : x = .ref g.p := h
      rw [e]; rfl
    · exact h.elim
theorem any_toPy (a : D) : ∀ ds : List D, ((toPyL ds).any fun z => PyData.eqv z (toPy a)) = ds.any fun z => eqv z a
  | [] => rfl
  | d :: ds => by
    rw [toPyL, List.any_cons, List.any_cons, any_toPy a ds]
    rfl
theorem op_cmp (hu : X.A.units + 65 < cLine) (op : CmpOp) : OpR X (compareOp op) (rC2 X.K (cmp op)) := by
  intro pins s σ H x y v u Q I rx ry h
  obtain ⟨g, A, d, e, z, hK, t, hd, he, hb, k⟩ := h
  unfold cmp at hb
  split at hb
  · split at hb
    · rename_i hs
      cases hb
      rw [Bool.and_eq_true] at hs
      exact op_eqD (by omega) pins s σ H _ _ v u Q I rx ry ⟨_, _, by rw [hK]; exact hd.dp hs.1, by rw [hK]; exact he.dp hs.2, hs.1, hs.2, k⟩
    · cases hb
  · split at hb
    · rename_i hs
      cases hb
      rw [Bool.and_eq_true] at hs
      exact op_neD (by omega) pins s σ H _ _ v u Q I rx ry ⟨_, _, by rw [hK]; exact hd.dp hs.1, by rw [hK]; exact he.dp hs.2, hs.1, hs.2, k⟩
    · cases hb
  · cases hb
    cases hd.int; cases he.int
    exact op_lt pins s σ H _ _ v u Q I rx ry ⟨_, _, rfl, rfl, k⟩
  · cases hb
    cases hd.int; cases he.int
    exact op_le pins s σ H _ _ v u Q I rx ry ⟨_, _, rfl, rfl, k⟩
  · cases hb
    cases hd.int; cases he.int
    exact op_gt pins s σ H _ _ v u Q I rx ry ⟨_, _, rfl, rfl, k⟩
  · cases hb
    cases hd.int; cases he.int
    exact op_ge pins s σ H _ _ v u Q I rx ry ⟨_, _, rfl, rfl, k⟩
  · cases hb
    cases he.non
    rw [← isN_eq hd] at k
    exact op_isN pins s σ H _ _ v u Q I rx ry ⟨rfl, k⟩
  · cases hb
    cases he.non
    rw [← isN_eq hd] at k
    exact op_notN pins s σ H _ _ v u Q I rx ry ⟨rfl, k⟩
  · cases hb
    cases hd.bl; cases he.bl
    exact op_isBl pins s σ H _ _ v u Q I rx ry ⟨_, _, rfl, rfl, by first | exact k | (rw [Bool.beq_eq_decide_eq] at k; exact k)⟩
  · split at hb
    · rename_i hs
      cases hb
      rw [Bool.and_eq_true] at hs
      have hd' := hd.dp hs.1
      have he' := he.dp hs.2
      rw [← hK] at hd' he'
      obtain ⟨as, r1⟩ := Dp.reads I _ _ v hd' rx
      obtain ⟨bs, r2⟩ := Dp.reads I _ _ u he' ry
      rw [← any_toPy] at k
      exact SeqAt.in_tuple_reads r2 r1 (SeqAt.canLay_of_shaped hs.2) (SeqAt.canLay_of_shaped hs.1) (room_in_shaped hs.1 hu) ⟨.bl _, H, I, rfl, k⟩
    · cases hb
  · split at hb
    · rename_i hs
      cases hb
      rw [Bool.and_eq_true] at hs
      have hd' := hd.dp hs.1
      have he' := he.dp hs.2
      rw [← hK] at hd' he'
      obtain ⟨as, r1⟩ := Dp.reads I _ _ v hd' rx
      obtain ⟨bs, r2⟩ := Dp.reads I _ _ u he' ry
      rw [← any_toPy] at k
      exact SeqAt.notIn_tuple_reads r2 r1 (SeqAt.canLay_of_shaped hs.2) (SeqAt.canLay_of_shaped hs.1) (room_in_shaped hs.1 hu) ⟨.bl _, H, I, rfl, k⟩
    · cases hb
  · split at hb
    · rename_i hs
      cases hb
      rw [Bool.and_eq_true] at hs
      rw [← any_toPy] at k
      exact op_inD hu pins s σ H _ _ v u Q I rx ry ⟨_, _, by rw [hK]; exact hd.dp hs.1, by rw [hK]; exact he.dp hs.2, hs.1, hs.2, k⟩
    · cases hb
  · split at hb
    · rename_i hs
      cases hb
      rw [Bool.and_eq_true] at hs
      rw [← any_toPy] at k
      exact op_notInD hu pins s σ H _ _ v u Q I rx ry ⟨_, _, by rw [hK]; exact hd.dp hs.1, by rw [hK]; exact he.dp hs.2, hs.1, hs.2, k⟩
    · cases hb
  · cases hb
theorem atI_rp {H : Hp} {A : Addr → Prop} {ds : List D} {xs : List V} {i : Int} {z : D} (h : RpL g H A ds xs) (e : atI ds i = some z) : ∃ x, atI xs i = some x ∧ Rp g H A z x := by
  unfold atI at e ⊢
  rw [h.length]
  cases q : ixN ds.length i with
  | none => rw [q] at e; cases e
  | some j =>
    rw [q] at e
    exact h.get e
theorem ix_ok : IxR X (rI2 X.K ix) := by
  intro value slice pins s σ H x y v u Q I rx ry h hs
  obtain ⟨g, A, d, e, z, hK, t, hd, he, hb, k⟩ := h
  unfold ix at hb
  split at hb
  · cases he.int
    obtain ⟨a, xs, rfl, ha, ra⟩ := hd.tup
    obtain ⟨w, hw, rw'⟩ := atI_rp ra hb
    exact ix_tup value slice pins s σ H _ _ v u Q I rx ry ⟨a, xs, _, w, rfl, rfl, by rw [hK]; exact ha.sq, hw, k w rw'⟩ hs
  · cases he.int
    obtain ⟨a, xs, rfl, ha, ra⟩ := hd.lst
    obtain ⟨w, hw, rw'⟩ := atI_rp ra hb
    exact ix_list value slice pins s σ H _ _ v u Q I rx ry ⟨a, xs, _, w, rfl, rfl, sqL_of ha, hw, k w rw'⟩ hs
  · split at hb
    · cases he.int
      cases hd.str
      cases q : atI _ _ with
      | none => rw [q] at hb; cases hb
      | some c =>
        rw [q] at hb
        cases hb
        exact ix_str value slice pins s σ H _ _ v u Q I rx ry ⟨_, _, c, rfl, rfl, ‹_›, q, k _ rfl⟩ hs
    · cases hb
  · cases hb
theorem sl_ok : SlR X (rSl X.K slc) := by
  intro pins s σ H x v vl vu lo hi sl Q I rx hs pl pu h
  obtain ⟨g, A, d, fl, z, hK, t, hd, hb, k⟩ := h
  unfold slc at hb
  split at hb
  · cases hb
    obtain ⟨a, xs, rfl, ha, ra⟩ := hd.tup
    refine sl_tupA pins s σ H _ v vl vu lo hi sl Q I rx hs pl pu ⟨a, xs, rfl, by rw [hK]; exact ha.sq, fun hw => ?_, fun hw p np => ?_⟩
    · rw [ra.length] at hw
      exact k _ H (Same.refl H) ⟨a, xs, rfl, ha, by rw [cutD_whole hw]; exact ra⟩
    · exact k _ _ (same_new np) ⟨p, _, rfl, .inl ⟨fun hp => t p hp np, upd_same⟩, RpL.mv (Mv.same (same_new np)) _ _ (cutV_rp ra lo hi)⟩
  · cases hb
    obtain ⟨a, xs, rfl, ha, ra⟩ := hd.lst
    refine sl_list pins s σ H _ v vl vu lo hi sl Q I rx hs pl pu ⟨a, xs, rfl, sqL_of ha, fun p np => ?_⟩
    exact k _ _ (same_new np) ⟨p, rfl, np, _, upd_same, RpL.mv (Mv.new np (same_new np)) _ _ (cutV_rp ra lo hi)⟩
  · cases hb
end
section
variable {g : Gb} {H H' : Hp} {A B C : Addr → Prop}
theorem Mv.trans {H2 : Hp} (m : Mv H H' A B) (n : Mv H' H2 B C) : Mv H H2 A C := by
  refine ⟨fun b o na e => ?_, fun b hc na => ?_⟩
  · have e1 := m.st b o na e
    refine n.st b o (fun hb => ?_) e1
    rw [m.nw b hb na] at e
    cases e
  · by_cases hb : B b
    · exact m.nw b hb na
    · have h1 := n.nw b hc hb
      cases q : H b with
      | none => rfl
      | some o =>
        rw [m.st b o na q] at h1
        cases h1
/-- all but the pool's count stays -/
def Kp (g : Gb) (H H' : Hp) : Prop := ∀ b o, b ≠ g.c → H b = some o → H' b = some o
theorem Kp.refl : Kp g H H := fun _ _ _ h => h
theorem Kp.trans {H2 : Hp} (m : Kp g H H') (n : Kp g H' H2) : Kp g H H2 := fun b o hb e => n b o hb (m b o hb e)
theorem Kp.same (s : Same H H') : Kp g H H' := fun b o _ e => s b o e
theorem OwnAt.mv (m : Mv H H' A B) {a : Addr} {d : D} (ha : ∀ o, H a = some o → H' a = some o) (h : OwnAt g H A a d) : OwnAt g H' B a d := by
  cases d with
  | lst ds =>
    obtain ⟨xs, h1, h2⟩ := h
    exact ⟨xs, ha _ h1, RpL.mv m ds xs h2⟩
  | _ => exact h.elim
theorem OwnAt.trk {a : Addr} {d : D} (h : OwnAt g H A a d) : H a ≠ none := by
  cases d with
  | lst ds =>
    obtain ⟨xs, h1, h2⟩ := h
    rw [h1]
    exact fun z => nomatch z
  | _ => exact h.elim
theorem OwnAt.rp {a : Addr} {d : D} (na : ¬ A a) (h : OwnAt g H A a d) : Rp g H A d (.ref a) := by
  cases d with
  | lst ds =>
    obtain ⟨xs, h1, h2⟩ := h
    exact ⟨a, xs, rfl, na, h1, h2⟩
  | _ => exact h.elim
theorem Rb.mv (m : Mv H H' A B) (k : Kp g H H') {d : D} {v : V} (h : Rb g H A d v) : Rb g H' B d v := by
  rcases h with h | ⟨a, e, n, h⟩
  · exact .inl (Rp.mv m d v h)
  · exact .inr ⟨a, e, n, h.mv m fun o q => k a o n q⟩
end
end Mp
/-! Mp2: the small language (its terms, what they are worth over data), and how a term is held against the program's text. -/
namespace Mp
open PySem PySem.Spec PyProof.Rows L2
/-! ### built-ins -/
inductive Ty where | int | bool | str | tuple | list
  deriving DecidableEq
def Ty.s : Ty → String
  | .int => "int" | .bool => "bool" | .str => "str" | .tuple => "tuple" | .list => "list"
def isi : Ty → D → Option Bool
  | t, .non => some false
  | t, .bl _ => some (t = .bool ∨ t = .int)
  | t, .int _ => some (t = .int)
  | t, .str _ => some (t = .str)
  | t, .tup _ => some (t = .tuple)
  | t, .lst _ => some (t = .list)
  | _, _ => none
inductive Bi where | len | tuple | list | int | str | max2 | min2 | all | any | sum
  deriving DecidableEq
def Bi.s : Bi → Str
  | .len => "len" | .tuple => "tuple" | .list => "list" | .int => "int" | .str => "str" | .max2 => "max" | .min2 => "min" | .all => "all" | .any => "any" | .sum => "sum"
def asBools : List D → Option (List Bool)
  | [] => some []
  | .bl b :: r => (asBools r).map (b :: ·)
  | _ => none
def asInts : List D → Option (List Int)
  | [] => some []
  | .int b :: r => (asInts r).map (b :: ·)
  | _ => none
def bi : Bi → List D → Option (Bool × D)
  | .len, [.tup ds] => some (false, .int ds.length)
  | .len, [.lst ds] => some (false, .int ds.length)
  | .len, [.str x] => if x.length ≤ sizeLine then some (false, .int x.length) else none
  | .tuple, [.lst ds] => some (false, .tup ds)
  | .tuple, [.tup ds] => some (false, .tup ds)
  | .list, [.lst ds] => some (true, .lst ds)
  | .list, [.tup ds] => some (true, .lst ds)
  | .int, [.int i] => some (false, .int i)
  | .int, [.bl k] => some (false, .int (if k then 1 else 0))
  | .str, [.int i] => if i.natAbs.log2 < 1920 then some (false, .str (toString i)) else none
  | .max2, [.int i, .int j] => some (false, .int (if j > i then j else i))
  | .min2, [.int i, .int j] => some (false, .int (if j < i then j else i))
  | .all, [.lst ds] => (asBools ds).map fun bs => (false, .bl (bs.all id))
  | .any, [.lst ds] => (asBools ds).map fun bs => (false, .bl (bs.any id))
  | .sum, [.lst ds] => (asInts ds).map fun ns => (false, .int ns.sum)
  | _, _ => none
/-- methods that change nothing -/
inductive Mt where | upper
  deriving DecidableEq
def Mt.s : Mt → Str
  | .upper => "upper"
def mt : Mt → D → List D → Option (Bool × D)
  | .upper, .str x, [] => if x.length ≤ 5592405 then some (false, .str (Txt.upper x)) else none
  | _, _, _ => none
/-! ### terms -/
inductive Tg where
  | nm (i : Nat)
  | tp (ts : List Tg)
inductive Sk where | e | rng1 | rng2
  deriving DecidableEq
inductive Ex where
  | v (i : Nat)
  | b (i : Nat)
  | k (c : D)
  | g (x : Str) (c : D)
  | tup (es : List Ex)
  | lst (es : List Ex)
  | bin (op : Operator) (a b : Ex)
  | neg (a : Ex)
  | nt (a : Ex)
  | cmp (op : CmpOp) (a b : Ex)
  | chn (o1 o2 : CmpOp) (a b c : Ex)
  | and (a b : Ex)
  | or (a b : Ex)
  | ite (t a b : Ex)
  | ix (a i : Ex)
  | sl (a : Ex) (lo hi : Option Ex)
  | call (f : Nat) (es : List Ex)
  | bi (b : Bi) (es : List Ex)
  | isi (t : Ty) (a : Ex)
  | mt (m : Mt) (a : Ex)
  | lc (elt : Ex) (tg : Tg) (sk : Sk) (es : List Ex) (ifs : Option Ex) (own : List (Str × Nat))
  | lc2 (elt : Ex) (tg : Tg) (sk : Sk) (es : List Ex) (tg1 : Tg) (sk1 : Sk) (es1 : List Ex) (ifs1 : Option Ex) (own : List (Str × Nat)) (vs1 : List Nat)
inductive Sm where
  | asg (t : Tg) (e : Ex)
  | aug (i : Nat) (e : Ex)
  | ret (e : Ex)
  | ex (e : Ex)
  | app (i : Nat) (e : Ex)
  | ife (t : Ex) (a b : List Sm)
  | for (t : Tg) (sk : Sk) (es : List Ex) (body : List Sm)
  | whl (t : Ex) (body : List Sm)
  | pas | brk | cnt
/-! ### what they are worth -/
structure Wd where
  rows : List Int
  n : Nat
structure Sta where
  sl : List (Option (Bool × D))
  w : Wd
inductive R (α : Type) where
  | ok (a : α) (s : Sta)
  | bad
def R.bind {α β : Type} : R α → (α → Sta → R β) → R β
  | .ok a s, f => f a s
  | .bad, _ => .bad
def R.opt {α : Type} (s : Sta) : Option α → R α
  | some a => .ok a s
  | none => .bad
inductive Kd where | val | fr | bo
  deriving DecidableEq
def kd : Bool → Kd
  | true => .fr
  | false => .val
abbrev Gf := Nat → List D → Wd → Option (Bool × D × Wd)
def Sta.set (s : Sta) (i : Nat) (x : Option (Bool × D)) : Sta := { s with sl := s.sl.set i x }
def stor : List (Kd × D) → Option (List D)
  | [] => some []
  | (.bo, _) :: _ => none
  | (_, d) :: r => (stor r).map (d :: ·)
/-- what is walked -/
def items : Sk → List (Kd × D) → Option (List D)
  | .e, [(.val, .tup ds)] => some ds
  | .e, [(.val, .lst ds)] => some ds
  | .e, [(.fr, .lst ds)] => some ds
  | .rng1, [(_, .int n)] => if -(2 ^ 62) ≤ n ∧ n < 2 ^ 62 then some ((List.range n.toNat).map fun i => .int (0 + (i : Nat))) else none
  | .rng2, [(_, .int a), (_, .int n)] => if -(2 ^ 62) ≤ a ∧ a < 2 ^ 62 ∧ -(2 ^ 62) ≤ n ∧ n < 2 ^ 62 then some ((List.range (n - a).toNat).map fun i => .int (a + (i : Nat))) else none
  | _, _ => none
mutual
def bindT : Tg → D → Sta → Option Sta
  | .nm i, d, s => some (s.set i (some (false, d)))
  | .tp ts, .tup ds, s => if ds.length = ts.length then bindTs ts ds s else none
  | .tp _, _, _ => none
def bindTs : List Tg → List D → Sta → Option Sta
  | [], _, s => some s
  | t :: ts, d :: ds, s => match bindT t d s with
    | some s => bindTs ts ds s
    | none => none
  | _ :: _, [], _ => none
end
/-- a comprehension's turns -/
def lcGo (bt : D → Sta → Option Sta) (tst : Sta → R Bool) (el : Sta → R D) (wp : Sta → Sta) : List D → Sta → R (List D)
  | [], s => .ok [] s
  | d :: ds, s => match bt d (wp s) with
    | none => .bad
    | some s => (tst s).bind fun b s => if b then (el s).bind fun x s => (lcGo bt tst el wp ds s).bind fun xs s => .ok (x :: xs) s else lcGo bt tst el wp ds s
def lcGo2 (bt : D → Sta → Option Sta) (inner : Sta → R (List D)) (wp : Sta → Sta) : List D → Sta → R (List D)
  | [], s => .ok [] s
  | d :: ds, s => match bt d (wp s) with
    | none => .bad
    | some s => (inner s).bind fun xs s => (lcGo2 bt inner wp ds s).bind fun ys s => .ok (xs ++ ys) s
def wipeS (vs : List Nat) (s : Sta) : Sta := vs.foldr (fun i s => s.set i none) s
/-- the slots vs as they are in s0 -/
def backS (vs : List Nat) (s0 s : Sta) : Sta := vs.foldr (fun i s => s.set i (s0.sl[i]?.getD none)) s
/-- none of the slots vs is one's own -/
def freeS (vs : List Nat) (s : Sta) : Bool := vs.all fun i => match s.sl[i]? with
  | some (some (true, _)) => false
  | _ => true
def toB : Kd × D → Option Bool
  | (_, .bl b) => some b
  | _ => none
def toI : Kd × D → Option Int
  | (_, .int b) => some b
  | _ => none
def toD : Kd × D → Option D
  | (.bo, _) => none
  | (_, d) => some d
mutual
def evE (gf : Gf) : Ex → Sta → R (Kd × D)
  | .v i, s => match s.sl[i]? with
    | some (some (false, d)) => .ok (.val, d) s
    | some (some (true, d)) => .ok (.val, d) (s.set i (some (false, d)))
    | _ => .bad
  | .b i, s => match s.sl[i]? with
    | some (some (false, d)) => .ok (.val, d) s
    | some (some (true, d)) => .ok (.bo, d) s
    | _ => .bad
  | .k c, s => .ok (.val, c) s
  | .g _ c, s => .ok (.val, c) s
  | .tup es, s => (evL gf es s).bind fun ds s => R.opt s ((stor ds).map fun ds => (.val, .tup ds))
  | .lst es, s => (evL gf es s).bind fun ds s => R.opt s ((stor ds).map fun ds => (.fr, .lst ds))
  | .bin op a b, s => (evE gf a s).bind fun x s => (evE gf b s).bind fun y s => R.opt s ((bin op x.2 y.2).map fun z => (kd z.1, z.2))
  | .neg a, s => (evE gf a s).bind fun x s => R.opt s ((toI x).map fun i => (.val, .int (-i)))
  | .nt a, s => (evE gf a s).bind fun x s => R.opt s ((toB x).map fun b => (.val, .bl (!b)))
  | .cmp op a b, s => (evE gf a s).bind fun x s => (evE gf b s).bind fun y s => R.opt s ((cmp op x.2 y.2).map fun z => (.val, .bl z))
  | .chn o1 o2 a b c, s => (evE gf a s).bind fun x s => (evE gf b s).bind fun y s => (R.opt s (cmp o1 x.2 y.2)).bind fun k s =>
      if k then (evE gf c s).bind fun z s => R.opt s ((cmp o2 y.2 z.2).map fun z => (.val, .bl z)) else .ok (.val, .bl false) s
  | .and a b, s => (evE gf a s).bind fun x s => (R.opt s (toB x)).bind fun k s => if k then (evE gf b s) else .ok (.val, .bl false) s
  | .or a b, s => (evE gf a s).bind fun x s => (R.opt s (toB x)).bind fun k s => if k then .ok (.val, .bl true) s else (evE gf b s)
  | .ite t a b, s => (evE gf t s).bind fun x s => (R.opt s (toB x)).bind fun k s => if k then evE gf a s else evE gf b s
  | .ix a i, s => (evE gf a s).bind fun x s => (evE gf i s).bind fun y s => R.opt s ((ix x.2 y.2).map fun z => (.val, z))
  | .sl a lo hi, s => (evE gf a s).bind fun x s => (evO gf lo s).bind fun l s => (evO gf hi s).bind fun h s => R.opt s ((slc x.2 l h).map fun z => (kd z.1, z.2))
  | .call f es, s => (evL gf es s).bind fun ds s => match stor ds with
    | some ds => match gf f ds s.w with
      | some (fl, d, w) => .ok (kd fl, d) { s with w := w }
      | none => .bad
    | none => .bad
  | .bi b es, s => (evL gf es s).bind fun ds s => R.opt s ((bi b (ds.map (·.2))).map fun z => (kd z.1, z.2))
  | .isi t a, s => (evE gf a s).bind fun x s => R.opt s ((isi t x.2).map fun z => (.val, .bl z))
  | .mt m a, s => (evE gf a s).bind fun x s => R.opt s ((mt m x.2 []).map fun z => (kd z.1, z.2))
  | .lc elt tg sk es ifs own, s => (evL gf es s).bind fun ds s0 => match (if freeS (own.map (·.2)) s0 then items sk ds else none) with
    | some ds => (lcGo (bindT tg) (fun s => evI gf ifs s) (fun s => (evE gf elt s).bind fun x s => R.opt s (toD x)) (wipeS (own.map (·.2))) ds s0).bind fun xs s => if xs.length ≤ sizeLine then .ok (.fr, .lst xs) (backS (own.map (·.2)) s0 s) else .bad
    | none => .bad
  | .lc2 elt tg sk es tg1 sk1 es1 ifs1 own vs1, s => (evL gf es s).bind fun ds s0 => match (if freeS (own.map (·.2)) s0 then items sk ds else none) with
    | some ds => (lcGo2 (bindT tg) (fun s => (evL gf es1 s).bind fun ds1 s => match items sk1 ds1 with
        | some ds1 => lcGo (bindT tg1) (fun s => evI gf ifs1 s) (fun s => (evE gf elt s).bind fun x s => R.opt s (toD x)) (wipeS vs1) ds1 s
        | none => .bad) (wipeS (own.map (·.2))) ds s0).bind fun xs s => if xs.length ≤ sizeLine then .ok (.fr, .lst xs) (backS (own.map (·.2)) s0 s) else .bad
    | none => .bad
def evL (gf : Gf) : List Ex → Sta → R (List (Kd × D))
  | [], s => .ok [] s
  | e :: es, s => (evE gf e s).bind fun x s => (evL gf es s).bind fun xs s => .ok (x :: xs) s
def evO (gf : Gf) : Option Ex → Sta → R (Option Int)
  | none, s => .ok none s
  | some e, s => (evE gf e s).bind fun x s => R.opt s ((toI x).map some)
def evI (gf : Gf) : Option Ex → Sta → R Bool
  | none, s => .ok true s
  | some e, s => (evE gf e s).bind fun x s => R.opt s (toB x)
end
inductive Fl where
  | nx | bk | ct
  | rt (fl : Bool) (d : D)
def forGo (bt : D → Sta → Option Sta) (bd : Sta → R Fl) : List D → Sta → R Fl
  | [], s => .ok .nx s
  | d :: ds, s => match bt d s with
    | none => .bad
    | some s => (bd s).bind fun f s => match f with
      | .nx => forGo bt bd ds s
      | .ct => forGo bt bd ds s
      | .bk => .ok .nx s
      | .rt fl d => .ok (.rt fl d) s
def whlGo (tst : Sta → R Bool) (bd : Sta → R Fl) : Nat → Sta → R Fl
  | 0, _ => .bad
  | n + 1, s => (tst s).bind fun b s => if b then (bd s).bind fun f s => match f with
      | .nx => whlGo tst bd n s
      | .ct => whlGo tst bd n s
      | .bk => .ok .nx s
      | .rt fl d => .ok (.rt fl d) s
    else .ok .nx s
mutual
def evS (gf : Gf) (F : Nat) : Sm → Sta → R Fl
  | .asg (.nm i) e, s => (evE gf e s).bind fun x s => match x with
    | (.val, d) => .ok .nx (s.set i (some (false, d)))
    | (.fr, d) => .ok .nx (s.set i (some (true, d)))
    | (.bo, _) => .bad
  | .asg t e, s => (evE gf e s).bind fun x s => match toD x with
    | some d => match bindT t d s with
      | some s => .ok .nx s
      | none => .bad
    | none => .bad
  | .aug i e, s => match s.sl[i]? with
    | some (some (false, .int a)) => (evE gf e s).bind fun x s => match x.2 with
      | .int b => .ok .nx (s.set i (some (false, .int (a + b))))
      | _ => .bad
    | _ => .bad
  | .ret (.v i), s => match s.sl[i]? with
    | some (some (fl, d)) => .ok (.rt fl d) s
    | _ => .bad
  | .ret e, s => (evE gf e s).bind fun x s => match x with
    | (.val, d) => .ok (.rt false d) s
    | (.fr, d) => .ok (.rt true d) s
    | (.bo, _) => .bad
  | .ex e, s => (evE gf e s).bind fun _ s => .ok .nx s
  | .app i e, s => match s.sl[i]? with
    | some (some (true, .lst _)) => (evE gf e s).bind fun x s => match toD x with
      | none => .bad
      | some d => match s.sl[i]? with
        | some (some (true, .lst ds)) => if ds.length < sizeLine then .ok .nx (s.set i (some (true, .lst (ds ++ [d])))) else .bad
        | _ => .bad
    | _ => .bad
  | .ife t a b, s => (evE gf t s).bind fun x s => (R.opt s (toB x)).bind fun k s => if k then evSs gf F a s else evSs gf F b s
  | .for t sk es body, s => (evL gf es s).bind fun ds s => match items sk ds with
    | some ds => forGo (bindT t) (fun s => evSs gf F body s) ds s
    | none => .bad
  | .whl t body, s => whlGo (fun s => (evE gf t s).bind fun x s => R.opt s (toB x)) (fun s => evSs gf F body s) F s
  | .pas, s => .ok .nx s
  | .brk, s => .ok .bk s
  | .cnt, s => .ok .ct s
def evSs (gf : Gf) (F : Nat) : List Sm → Sta → R Fl
  | [], s => .ok .nx s
  | st :: r, s => (evS gf F st s).bind fun f s => match f with
    | .nx => evSs gf F r s
    | f => .ok f s
end
/-- a def: how many names it has, its body -/
structure Fn where
  ar : Nat
  n : Nat
  body : List Sm
def runFn (gf : Gf) (F : Nat) (f : Fn) (args : List D) (w : Wd) : Option (Bool × D × Wd) := if args.length ≠ f.ar then none else
  match evSs gf F f.body ⟨args.map (fun d => some (false, d)) ++ List.replicate (f.n - args.length) none, w⟩ with
  | .ok (.rt fl d) s => some (fl, d, s.w)
  | .ok .nx s => some (false, .non, s.w)
  | _ => none
/-- what the pool gives at its n-th draw of so many -/
def drawn (rows : List Int) (n : Nat) (m : Int) : Int :=
  ((rows[n % rows.length]?.getD 0) + ((n / rows.length : Nat) : Int) * 1013 + ((n / rows.length : Nat) : Int) * (n : Int) * 7) % m
def drawF (args : List D) (w : Wd) : Option (Bool × D × Wd) := match args with
  | [.pool, .int m] => if 0 < m ∧ w.n < 2 ^ 60 ∧ 0 < w.rows.length ∧ w.rows.length < 1000000 then some (false, .int (drawn w.rows w.n m), { w with n := w.n + 1 }) else none
  | _ => none
end Mp
/-! Mp3: a term held against the text; the state of a run against slots and heap. -/
namespace Mp
open PySem PySem.Spec PyProof.Rows L2
/-! ### the text -/
structure Ck where
  N : List Str
  sc : Scope
  fn : Str → Bool
  gs : List (Str × Const)
  fs : List Str
def Ck.blk (k : Ck) (scope : Scope) : Ck := { k with sc := relS scope k.sc, fn := fun x => scope.names.lookup x == some .cell }
def fbs : List Str := ["len", "isinstance", "tuple", "list", "int", "str", "bool", "min", "max", "all", "any", "sum", "range"]
def visB (k : Ck) (i : Nat) (x : Str) : Bool := decide (k.N[i]? = some x) && (decide (k.sc.names.lookup x = some .local) || decide (k.sc.names.lookup x = some .cell) || decide (k.sc.names.lookup x = some .free)) && (decide ((x == ("__debug__" : Str)) = false) && decide ((x == ("__classdict__" : Str)) = false))
def glB (k : Ck) (x : Str) : Bool := decide (k.sc.names.lookup x = some .globalImplicit) && decide ((x == ("__debug__" : Str)) = false)
def cnD : Const → D → Bool
  | .none, .non => true
  | .bool b, .bl c => b == c
  | .int i, .int j => decide (i = j)
  | .str x, .str y => decide (x = y)
  | _, _ => false
def tailB (op : BoolOp) (b : Expr) (rest : List Expr) (pos : Pos) : Expr := match rest with
  | [] => b
  | _ :: _ => .BoolOp op (b :: rest) pos
def srcA (k : Ck) : Sk → Expr → Option (List Expr)
  | .e, i => some [i]
  | .rng1, .Call (.Name x _) [a] [] _ => if x = ("range" : Str) ∧ glB k x = true then some [a] else none
  | .rng2, .Call (.Name x _) [a, b] [] _ => if x = ("range" : Str) ∧ glB k x = true then some [a, b] else none
  | _, _ => none
mutual
def tgs : Tg → List Nat
  | .nm i => [i]
  | .tp ts => tgss ts
def tgss : List Tg → List Nat
  | [] => []
  | t :: ts => tgs t ++ tgss ts
end
mutual
def chkT (k : Ck) : Tg → Expr → Bool
  | .nm i, .Name x _ => decide (k.N[i]? = some x) && (decide (k.sc.names.lookup x = some .local) || (decide (k.sc.names.lookup x = some .cell) && k.fn x))
  | .tp ts, .Tuple es _ _ => chkTs k ts es
  | _, _ => false
def chkTs (k : Ck) : List Tg → List Expr → Bool
  | [], [] => true
  | t :: ts, e :: es => chkT k t e && chkTs k ts es
  | _, _ => false
end
/-- what may stand as a test -/
def testB : Ex → Bool
  | .ite _ _ _ => false
  | .nt a => testB a
  | .and a b => testB a && testB b
  | .or a b => testB a && testB b
  | _ => true
mutual
def chkE (k : Ck) : Ex → Expr → Bool
  | .v i, .Name x _ => visB k i x
  | .b i, .Name x _ => visB k i x
  | .k c, .Constant cc _ _ => cnD cc c
  | .g x c, .Name y _ => decide (x = y) && (glB k x && (match k.gs.lookup x with | some cc => cnD cc c | none => false))
  | .tup es, .Tuple as _ _ => decide (es.length ≤ 1000) && chkL k es as
  | .lst es, .List as _ => decide (es.length ≤ 1000) && chkL k es as
  | .bin op a b, .BinOp a' op' b' _ => decide (op = op') && (chkE k a a' && chkE k b b')
  | .neg a, .UnaryOp .USub a' _ => chkE k a a'
  | .nt a, .UnaryOp .Not a' _ => chkE k a a'
  | .cmp op a b, .Compare a' [op'] [b'] _ => decide (op = op') && (chkE k a a' && chkE k b b')
  | .chn o1 o2 a b c, .Compare a' [p1, p2] [b', c'] _ => decide (o1 = p1 ∧ o2 = p2) && (chkE k a a' && (chkE k b b' && chkE k c c'))
  | .and a b, .BoolOp .And (a' :: b' :: rest) pos => chkE k a a' && chkE k b (tailB .And b' rest pos)
  | .or a b, .BoolOp .Or (a' :: b' :: rest) pos => chkE k a a' && chkE k b (tailB .Or b' rest pos)
  | .ite t a b, .IfExp t' a' b' _ => testB t && (chkE k t t' && (chkE k a a' && chkE k b b'))
  | .ix a i, .Subscript a' i' _ => chkE k a a' && chkE k i i'
  | .sl a lo hi, .Subscript a' (.Slice lo' hi' none _) _ => chkE k a a' && (chkO k lo lo' && chkO k hi hi')
  | .call f es, .Call (.Name x _) as [] _ => decide (k.fs[f]? = some x) && (glB k x && (chkL k es as && decide (es ≠ [])))
  | .bi b es, .Call (.Name x _) as [] _ => decide (x = b.s) && (glB k x && (chkL k es as && decide (es ≠ [])))
  | .isi t a, .Call (.Name x _) [a', .Name y _] [] _ => decide (x = ("isinstance" : Str)) && (glB k x && (decide (y = Str.ofString t.s) && (glB k y && chkE k a a')))
  | .mt m a, .Call (.Attribute a' nm apos) [] [] cpos => decide (nm = m.s) && (decide ((apos.endLine == cpos.line) = true) && chkE k a a')
  | .lc elt tg sk es ifs own, .ListComp elt' [⟨tg', iter', ifs', as'⟩] scope _ => decide (as' = 0 ∧ ∀ i ∈ tgs tg, i ∈ own.map (·.2)) && (blkC k.N k.sc scope own && ((match srcA k sk iter' with | some l => chkL k es l | none => false) &&
      (chkT (k.blk scope) tg tg' && (chkI (k.blk scope) ifs ifs' && chkE (k.blk scope) elt elt'))))
  | .lc2 elt tg sk es tg1 sk1 es1 ifs1 own vs1, .ListComp elt' [⟨tg', iter', [], as'⟩, ⟨tg1', iter1', ifs1', as1'⟩] scope _ => decide (as' = 0 ∧ as1' = 0 ∧ (∀ i ∈ tgs tg, i ∈ own.map (·.2)) ∧ (∀ i ∈ tgs tg1, i ∈ vs1)) && (blkC k.N k.sc scope own && ((match srcA k sk iter' with | some l => chkL k es l | none => false) &&
      (chkT (k.blk scope) tg tg' && ((match srcA (k.blk scope) sk1 iter1' with | some l => chkL (k.blk scope) es1 l | none => false) && (chkT (k.blk scope) tg1 tg1' && (chkI (k.blk scope) ifs1 ifs1' && (chkE (k.blk scope) elt elt' && decide (∀ i ∈ vs1, i ∈ own.map (·.2)))))))))
  | _, _ => false
def chkL (k : Ck) : List Ex → List Expr → Bool
  | [], [] => true
  | e :: es, a :: as => chkE k e a && chkL k es as
  | _, _ => false
def chkO (k : Ck) : Option Ex → Option Expr → Bool
  | none, none => true
  | some e, some a => chkE k e a
  | _, _ => false
def chkI (k : Ck) : Option Ex → List Expr → Bool
  | none, [] => true
  | some e, [a] => testB e && chkE k e a
  | _, _ => false
end
/-- no display of names and values both, no comprehension to a tuple -/
def notTup : Expr → Bool
  | .Tuple _ _ _ => false
  | .ListComp _ _ _ _ => false
  | _ => true
mutual
def chkS (k : Ck) : Sm → Stmt → Bool
  | .asg (.nm i) e, .Assign [.Name x p] v _ => chkT k (.nm i) (.Name x p) && chkE k e v
  | .asg (.tp ts) e, .Assign [.Tuple es z p] v _ => chkT k (.tp ts) (.Tuple es z p) && (notTup v && chkE k e v)
  | .aug i e, .AugAssign (.Name x p) .Add v _ => chkT k (.nm i) (.Name x p) && (visB k i x && chkE k e v)
  | .ret e, .Return (some v) _ => chkE k e v
  | .ex (.call f es), .Expr v _ => chkE k (.call f es) v
  | .app i e, .Expr (.Call (.Attribute (.Name x _) nm apos) [v] [] cpos) _ => decide (nm = ("append" : Str)) && (decide ((apos.endLine == cpos.line) = true) && (visB k i x && chkE k e v))
  | .ife t a b, .If t' a' b' _ => (testB t && chkE k t t') && (chkSs k a a' && chkSs k b b')
  | .for t sk es body, .For t' i' body' [] _ => chkT k t t' && ((match srcA k sk i' with | some l => chkL k es l | none => false) && chkSs k body body')
  | .whl t body, .While t' body' [] _ => (testB t && chkE k t t') && chkSs k body body'
  | .pas, .Pass _ => true
  | .brk, .Break _ => true
  | .cnt, .Continue _ => true
  | _, _ => false
def chkSs (k : Ck) : List Sm → List Stmt → Bool
  | [], [] => true
  | e :: es, a :: as => chkS k e a && chkSs k es as
  | _, _ => false
end
/-! ### the pool -/
def WOk (g : Gb) (H : Hp) (w : Wd) : Prop := H g.p = some (.lst [.ref g.r, .ref g.c]) ∧ H g.r = some (.lst (w.rows.map V.int)) ∧ H g.c = some (.lst [.int (w.n : Nat)]) ∧ g.r ≠ g.c
theorem WOk.pc {g : Gb} {H : Hp} {w : Wd} (h : WOk g H w) : g.p ≠ g.c := fun e => by
  obtain ⟨h1, _, h2, _⟩ := h
  rw [e, h2] at h1
  cases h1
/-- what is there of the outside: S is left alone -/
structure SB (g : Gb) (H : Hp) (S : Addr → Prop) (w : Wd) : Prop where
  trk : Trk H S
  sp : S g.p
  sr : S g.r
  sc : S g.c
  w : WOk g H w
/-- a def's promise by its worth -/
def spOf (K : PySem.W.Frag) (n : Nat) (G : List D → Wd → Option (Bool × D × Wd)) : Sp := fun vs H Q _ => ∃ g S ds w fl d w', K = g.K ∧ vs.length = n ∧ SB g H S w ∧ RpL g H S ds vs ∧ G ds w = some (fl, d, w') ∧
  ∀ v H', Kp g H H' → WOk g H' w' → RV g H H' S fl d v → Q v H'
/-! ### states -/
def owned (s : Sta) (i : Nat) : Prop := ∃ d, s.sl[i]? = some (some (true, d))
/-- what is left alone: S, and what the slots own -/
def Av (S : Addr → Prop) (ow : Nat → Addr) (s : Sta) : Addr → Prop := fun b => S b ∨ ∃ i, owned s i ∧ ow i = b
structure StOk (g : Gb) (H0 : Hp) (S : Addr → Prop) (ow : Nat → Addr) (σ : L2.St) (H : Hp) (s : Sta) : Prop where
  val : ∀ (i : Nat) d, s.sl[i]? = some (some (false, d)) → ∃ v, σ[i]? = some (some v) ∧ Rp g H (Av S ow s) d v
  own : ∀ (i : Nat) d, s.sl[i]? = some (some (true, d)) → σ[i]? = some (some (.ref (ow i))) ∧ OwnAt g H (Av S ow s) (ow i) d ∧ ¬ S (ow i) ∧ H0 (ow i) = none
  inj : ∀ (i j : Nat), owned s i → owned s j → ow i = ow j → i = j
  sb : SB g H S s.w
  k0 : Kp g H0 H
  len : s.sl.length = σ.length
/-- slots behind an expression: some are no longer one's own -/
structure Rel (s s' : Sta) : Prop where
  len : s'.sl.length = s.sl.length
  at_ : ∀ i : Nat, s'.sl[i]? = s.sl[i]? ∨ ∃ d, s.sl[i]? = some (some (true, d)) ∧ s'.sl[i]? = some (some (false, d))
theorem Rel.refl {s : Sta} : Rel s s := ⟨rfl, fun _ => .inl rfl⟩
theorem Rel.trans {a b c : Sta} (x : Rel a b) (y : Rel b c) : Rel a c := ⟨y.len.trans x.len, fun i => by
  rcases y.at_ i with h | ⟨d, h1, h2⟩
  · rcases x.at_ i with h' | ⟨d, h1, h2⟩
    · exact .inl (h.trans h')
    · exact .inr ⟨d, h1, h.trans h2⟩
  · rcases x.at_ i with h' | ⟨d', h1', h2'⟩
    · exact .inr ⟨d, by rw [← h']; exact h1, h2⟩
    · rw [h2'] at h1
      cases h1⟩
theorem Rel.owned {s s' : Sta} (r : Rel s s') {i : Nat} (h : owned s' i) : Mp.owned s i := by
  obtain ⟨d, h⟩ := h
  rcases r.at_ i with q | ⟨d', _, q⟩
  · exact ⟨d, by rw [← q]; exact h⟩
  · rw [q] at h
    cases h
theorem Rel.av {s s' : Sta} (r : Rel s s') {S : Addr → Prop} {ow : Nat → Addr} : ∀ b, Av S ow s' b → Av S ow s b := fun b h => by
  rcases h with h | ⟨i, h, e⟩
  · exact .inl h
  · exact .inr ⟨i, r.owned h, e⟩
structure Post (g : Gb) (H : Hp) (s s' : Sta) (H' : Hp) : Prop where
  kp : Kp g H H'
  rel : Rel s s'
  w : WOk g H' s'.w
theorem Post.trans {g : Gb} {H H1 H2 : Hp} {s s1 s2 : Sta} (a : Post g H s s1 H1) (b : Post g H1 s1 s2 H2) : Post g H s s2 H2 := ⟨a.kp.trans b.kp, a.rel.trans b.rel, b.w⟩
section
variable {g : Gb} {H0 H H' : Hp} {S B : Addr → Prop} {ow : Nat → Addr} {σ : L2.St} {s s' : Sta}
theorem StOk.trk (h : StOk g H0 S ow σ H s) : Trk H (Av S ow s) := fun b hb => by
  rcases hb with hb | ⟨i, ⟨d, hi⟩, e⟩
  · exact h.sb.trk b hb
  · rw [← e]
    exact (h.own i d hi).2.1.trk
theorem StOk.ne (h : StOk g H0 S ow σ H s) {i : Nat} (hi : owned s i) : ow i ≠ g.c := fun e => by
  obtain ⟨d, hi⟩ := hi
  exact (h.own i d hi).2.2.1 (by rw [e]; exact h.sb.sc)
/-- the heap has grown, the rest is as it was, B is wider by what was free -/
theorem StOk.mvAv (h : StOk g H0 S ow σ H s) (k : Kp g H H') (r : Rel s s') (hB : ∀ b, B b → ¬ S b → H b = none) : Mv H H' (Av S ow s) (Av B ow s') := by
  refine ⟨fun b o nb e => k b o (fun z => nb (.inl (by rw [z]; exact h.sb.sc))) e, fun b hb nb => ?_⟩
  rcases hb with hb | ⟨i, hi, e⟩
  · exact hB b hb fun z => nb (.inl z)
  · exact absurd (.inr ⟨i, r.owned hi, e⟩) nb
theorem StOk.mv (h : StOk g H0 S ow σ H s) (p : Post g H s s' H') (hS : ∀ b, S b → B b) (hB : ∀ b, B b → ¬ S b → H b = none) (tB : Trk H' B) : StOk g H0 B ow σ H' s' := by
  have m := h.mvAv p.kp p.rel hB
  refine ⟨fun i d e => ?_, fun i d e => ?_, fun i j hi hj => h.inj i j (p.rel.owned hi) (p.rel.owned hj), ⟨tB, hS _ h.sb.sp, hS _ h.sb.sr, hS _ h.sb.sc, p.w⟩, h.k0.trans p.kp, p.rel.len.trans h.len⟩
  · rcases p.rel.at_ i with q | ⟨d', q1, q2⟩
    · rw [q] at e
      obtain ⟨v, e1, e2⟩ := h.val i d e
      exact ⟨v, e1, Rp.mv m d v e2⟩
    · rw [q2] at e
      cases e
      obtain ⟨e1, e2, e3, e4⟩ := h.own i d q1
      refine ⟨_, e1, OwnAt.rp (fun hb => ?_) (e2.mv m fun o eo => p.kp _ o (h.ne ⟨d, q1⟩) eo)⟩
      rcases hb with hb | ⟨j, hj, ej⟩
      · exact e2.trk (hB _ hb e3)
      · have : j = i := h.inj j i (p.rel.owned hj) ⟨d, q1⟩ ej
        subst this
        obtain ⟨d2, hj⟩ := hj
        rw [q2] at hj
        cases hj
  · rcases p.rel.at_ i with q | ⟨d', q1, q2⟩
    · rw [q] at e
      obtain ⟨e1, e2, e3, e4⟩ := h.own i d e
      exact ⟨e1, e2.mv m fun o eo => p.kp _ o (h.ne ⟨d, e⟩) eo, fun hb => e2.trk (hB _ hb e3), e4⟩
    · rw [q2] at e
      cases e
theorem StOk.trk' (h : StOk g H0 S ow σ H s) (p : Post g H s s' H') : Trk H' S := fun b hb => by
  by_cases e : b = g.c
  · rw [e, p.w.2.2.1]
    exact fun z => nomatch z
  · cases q : H b with
    | none => exact absurd q (h.sb.trk b hb)
    | some o =>
      rw [p.kp b o e q]
      exact fun z => nomatch z
theorem StOk.mv' (h : StOk g H0 S ow σ H s) (p : Post g H s s' H') : StOk g H0 S ow σ H' s' := h.mv p (fun _ x => x) (fun _ x n => absurd x n) (h.trk' p)
theorem StOk.post (h : StOk g H0 S ow σ H s) : Post g H s s H := ⟨Kp.refl, Rel.refl, h.sb.w⟩
/-! ### an expression's value -/
def KV (g : Gb) (S : Addr → Prop) (ow : Nat → Addr) (H : Hp) (s' : Sta) (H' : Hp) : Kd → D → V → Prop
  | .val, d, v => Rp g H' (Av S ow s') d v
  | .fr, d, v => Fr g H H' (Av S ow s') d v
  | .bo, d, v => ∃ i, s'.sl[i]? = some (some (true, d)) ∧ v = .ref (ow i)
/-- as an operand -/
def Rk (g : Gb) (H : Hp) (A : Addr → Prop) : Kd → D → V → Prop
  | .bo, d, v => Rb g H A d v
  | _, d, v => Rp g H A d v
def RkL (g : Gb) (H : Hp) (A : Addr → Prop) : List (Kd × D) → List V → Prop
  | [], xs => xs = []
  | d :: ds, xs => ∃ x r, xs = x :: r ∧ Rk g H A d.1 d.2 x ∧ RkL g H A ds r
theorem Rk.rb {A : Addr → Prop} {k : Kd} {d : D} {v : V} (h : Rk g H A k d v) : Rb g H A d v := by
  cases k with
  | bo => exact h
  | val => exact .inl h
  | fr => exact .inl h
theorem Rk.mv {A A' : Addr → Prop} {k : Kd} {d : D} {v : V} (m : Mv H H' A A') (kp : Kp g H H') (h : Rk g H A k d v) : Rk g H' A' k d v := by
  cases k with
  | bo => exact Rb.mv m kp h
  | val => exact Rp.mv m d v h
  | fr => exact Rp.mv m d v h
theorem RkL.mv {A A' : Addr → Prop} (m : Mv H H' A A') (kp : Kp g H H') : ∀ {ds : List (Kd × D)} {xs : List V}, RkL g H A ds xs → RkL g H' A' ds xs
  | [], _, h => h
  | _ :: _, _, h => by
    obtain ⟨x, r, e, h1, h2⟩ := h
    exact ⟨x, r, e, h1.mv m kp, RkL.mv m kp h2⟩
theorem RkL.rbL {A : Addr → Prop} : ∀ {ds : List (Kd × D)} {xs : List V}, RkL g H A ds xs → RbL g H A (ds.map (·.2)) xs
  | [], _, h => h
  | _ :: _, _, h => by
    obtain ⟨x, r, e, h1, h2⟩ := h
    exact ⟨x, r, e, h1.rb, RkL.rbL h2⟩
theorem RkL.stor {A : Addr → Prop} : ∀ {ds : List (Kd × D)} {xs : List V} {es : List D}, RkL g H A ds xs → Mp.stor ds = some es → RpL g H A es xs
  | [], _, es, h, e => by
    cases e
    exact h
  | (k, d) :: ds, _, es, h, e => by
    obtain ⟨x, r, e1, h1, h2⟩ := h
    have go : ∀ {es' : List D}, (Mp.stor ds).map (d :: ·) = some es' → Rp g H A d x → RpL g H A es' (x :: r) := fun {es'} e hx => by
      cases q : Mp.stor ds with
      | none => rw [q] at e; cases e
      | some es2 =>
        rw [q] at e
        cases e
        exact ⟨x, r, rfl, hx, RkL.stor h2 q⟩
    rw [e1]
    cases k with
    | bo => cases e
    | val => exact go e h1
    | fr => exact go e h1
theorem RkL.length {A : Addr → Prop} : ∀ {ds : List (Kd × D)} {xs : List V}, RkL g H A ds xs → xs.length = ds.length
  | [], _, h => by
    have e : _ = [] := h
    rw [e]; rfl
  | _ :: _, _, h => by
    obtain ⟨x, r, e, _, h2⟩ := h
    rw [e, List.length_cons, List.length_cons, RkL.length h2]
theorem Fr.rp {A : Addr → Prop} {z : D} {v : V} (t : Trk H A) (h : Fr g H H' A z v) : Rp g H' A z v := RV.rp (fl := true) t h
/-- a value that has come is an operand -/
theorem StOk.rk (h : StOk g H0 S ow σ H s) (p : Post g H s s' H') {k : Kd} {d : D} {v : V} (q : KV g S ow H s' H' k d v) : Rk g H' (Av S ow s') k d v := by
  cases k with
  | val => exact q
  | fr =>
    have t : Trk H (Av S ow s') := fun b hb => h.trk b (p.rel.av b hb)
    exact Fr.rp t q
  | bo =>
    obtain ⟨i, hi, e⟩ := q
    have h' := h.mv' p
    obtain ⟨e1, e2, e3, e4⟩ := h'.own i d hi
    exact .inr ⟨ow i, e, h'.ne ⟨d, hi⟩, e2⟩
theorem StOk.mv2 (h : StOk g H0 S ow σ H s) (p : Post g H s s' H') : Mv H H' (Av S ow s) (Av S ow s') := h.mvAv p.kp p.rel fun _ x n => absurd x n
/-- a value of an operation, behind the state that its operands left -/
theorem KV.of_rv {H1 : Hp} {fl : Bool} {z : D} {v : V} (kp : ∀ b, H1 b = none → H b = none) (h : RV g H1 H' (Av S ow s') fl z v) : KV g S ow H s' H' (kd fl) z v := by
  cases fl with
  | false => exact h
  | true =>
    obtain ⟨a, e, hn, o⟩ := h
    exact ⟨a, e, kp a hn, o⟩
theorem Post.free (p : Post g H s s' H') : ∀ b, H' b = none → H b = none := fun b hb => by
  cases q : H b with
  | none => rfl
  | some o =>
    by_cases e : b = g.c
    · rw [e, p.w.2.2.1] at hb
      cases hb
    · rw [p.kp b o e q] at hb
      cases hb
end
end Mp
/-! Mp4: each term does in the text's run what it is worth over data: built-ins, expressions. -/
namespace Mp
open PySem PySem.Spec PyProof.Rows L2
/-! ### built-ins by data -/
theorem bools_rp {g : Gb} {H : Hp} {A : Addr → Prop} : ∀ {ds : List D} {bs : List Bool} {xs : List V}, asBools ds = some bs → RpL g H A ds xs → xs = bs.map V.bl
  | [], bs, xs, e, h => by
    cases e
    exact h
  | d :: ds, bs, xs, e, h => by
    obtain ⟨x, r, e1, h1, h2⟩ := h
    cases d with
    | bl b =>
      have e' : (asBools ds).map (b :: ·) = some bs := e
      cases q : asBools ds with
      | none => rw [q] at e'; cases e'
      | some bs' =>
        rw [q] at e'
        cases e'
        have ex : x = .bl b := h1
        rw [e1, ex, bools_rp q h2]
        rfl
    | _ => cases e
theorem ints_rp {g : Gb} {H : Hp} {A : Addr → Prop} : ∀ {ds : List D} {bs : List Int} {xs : List V}, asInts ds = some bs → RpL g H A ds xs → xs = bs.map V.int
  | [], bs, xs, e, h => by
    cases e
    exact h
  | d :: ds, bs, xs, e, h => by
    obtain ⟨x, r, e1, h1, h2⟩ := h
    cases d with
    | int b =>
      have e' : (asInts ds).map (b :: ·) = some bs := e
      cases q : asInts ds with
      | none => rw [q] at e'; cases e'
      | some bs' =>
        rw [q] at e'
        cases e'
        have ex : x = .int b := h1
        rw [e1, ex, ints_rp q h2]
        rfl
    | _ => cases e
def Bi.v : Bi → Value
  | .len => .builtin "len" | .tuple => .type "tuple" | .list => .type "list" | .int => .type "int" | .str => .type "str" | .max2 => .builtin "max" | .min2 => .builtin "min" | .all => .builtin "all" | .any => .builtin "any" | .sum => .builtin "sum"
section
variable {X : Cx}
theorem cl_bi (hc : X.calm = true) (b : Bi) : CallR X b.v (rCl X.K (bi b)) := by
  intro pins s σ H xs us Q I r h
  obtain ⟨g, A, ds, fl, z, hK, t, hd, hb, k⟩ := h
  unfold bi at hb
  split at hb
  · cases hb
    obtain ⟨x, _, rfl, h1, rfl⟩ := hd
    obtain ⟨a, ys, rfl, ha, ra⟩ := h1.tup
    exact call_len pins s σ H _ us Q I r ⟨_, _, rfl, .inr ⟨ys, by rw [hK]; exact ha.sq, rfl⟩, k _ H (Same.refl H) (by rw [ra.length]; rfl)⟩
  · cases hb
    obtain ⟨x, _, rfl, h1, rfl⟩ := hd
    obtain ⟨a, ys, rfl, ha, ra⟩ := h1.lst
    exact call_len pins s σ H _ us Q I r ⟨_, _, rfl, .inl ⟨ys, sqL_of ha, rfl⟩, k _ H (Same.refl H) (by rw [ra.length]; rfl)⟩
  · split at hb
    · cases hb
      obtain ⟨x, _, rfl, h1, rfl⟩ := hd
      cases h1.str
      exact call_len pins s σ H _ us Q I r ⟨_, _, rfl, ⟨‹_›, rfl⟩, k _ H (Same.refl H) rfl⟩
    · cases hb
  · cases hb
    obtain ⟨x, _, rfl, h1, rfl⟩ := hd
    obtain ⟨a, ys, rfl, ha, ra⟩ := h1.lst
    exact call_tuple_of pins s σ H _ us Q I r ⟨a, ys, rfl, .inl ⟨sqL_of ha, fun l nl => k _ _ (same_new nl) ⟨l, ys, rfl, .inl ⟨fun hp => t l hp nl, upd_same⟩, RpL.mv (Mv.same (same_new nl)) _ _ ra⟩⟩⟩
  · cases hb
    obtain ⟨x, _, rfl, h1, rfl⟩ := hd
    obtain ⟨a, ys, rfl, ha, ra⟩ := h1.tup
    exact call_tuple_of pins s σ H _ us Q I r ⟨a, ys, rfl, .inr ⟨by rw [hK]; exact ha.sq, k _ H (Same.refl H) ⟨a, ys, rfl, ha, ra⟩⟩⟩
  · cases hb
    obtain ⟨x, _, rfl, h1, rfl⟩ := hd
    obtain ⟨a, ys, rfl, ha, ra⟩ := h1.lst
    exact call_list_of pins s σ H _ us Q I r ⟨a, ys, rfl, .inl (sqL_of ha), fun l nl => k _ _ (same_new nl) ⟨l, rfl, nl, ys, upd_same, RpL.mv (Mv.new nl (same_new nl)) _ _ ra⟩⟩
  · cases hb
    obtain ⟨x, _, rfl, h1, rfl⟩ := hd
    obtain ⟨a, ys, rfl, ha, ra⟩ := h1.tup
    exact call_list_of pins s σ H _ us Q I r ⟨a, ys, rfl, .inr (by rw [hK]; exact ha.sq), fun l nl => k _ _ (same_new nl) ⟨l, rfl, nl, ys, upd_same, RpL.mv (Mv.new nl (same_new nl)) _ _ ra⟩⟩
  · cases hb
    obtain ⟨x, _, rfl, h1, rfl⟩ := hd
    cases h1.int
    exact call_int1 pins s σ H _ us Q I r (.inl ⟨_, rfl, k _ H (Same.refl H) rfl⟩)
  · cases hb
    obtain ⟨x, _, rfl, h1, rfl⟩ := hd
    cases h1.bl
    exact call_int1 pins s σ H _ us Q I r (.inr ⟨_, rfl, k _ H (Same.refl H) rfl⟩)
  · split at hb
    · cases hb
      obtain ⟨x, _, rfl, h1, rfl⟩ := hd
      cases h1.int
      exact call_str_int pins s σ H _ us Q I r ⟨_, rfl, ‹_›, k _ H (Same.refl H) rfl⟩
    · cases hb
  · cases hb
    obtain ⟨x, _, rfl, h1, y, _, rfl, h2, rfl⟩ := hd
    cases h1.int; cases h2.int
    exact call_max2 hc pins s σ H _ us Q I r ⟨_, _, rfl, k _ H (Same.refl H) rfl⟩
  · cases hb
    obtain ⟨x, _, rfl, h1, y, _, rfl, h2, rfl⟩ := hd
    cases h1.int; cases h2.int
    exact call_min2 hc pins s σ H _ us Q I r ⟨_, _, rfl, k _ H (Same.refl H) rfl⟩
  · obtain ⟨x, _, rfl, h1, rfl⟩ := hd
    obtain ⟨a, ys, rfl, ha, ra⟩ := h1.lst
    cases q : asBools _ with
    | none => rw [q] at hb; cases hb
    | some bs =>
      rw [q] at hb
      cases hb
      have e := bools_rp q ra
      subst e
      exact cr_all hc pins s σ H _ us Q I r ⟨a, bs, rfl, sqL_of ha, k _ H (Same.refl H) rfl⟩
  · obtain ⟨x, _, rfl, h1, rfl⟩ := hd
    obtain ⟨a, ys, rfl, ha, ra⟩ := h1.lst
    cases q : asBools _ with
    | none => rw [q] at hb; cases hb
    | some bs =>
      rw [q] at hb
      cases hb
      have e := bools_rp q ra
      subst e
      exact cr_any hc pins s σ H _ us Q I r ⟨a, bs, rfl, sqL_of ha, k _ H (Same.refl H) rfl⟩
  · obtain ⟨x, _, rfl, h1, rfl⟩ := hd
    obtain ⟨a, ys, rfl, ha, ra⟩ := h1.lst
    cases q : asInts _ with
    | none => rw [q] at hb; cases hb
    | some bs =>
      rw [q] at hb
      cases hb
      have e := ints_rp q ra
      subst e
      exact cr_sum hc pins s σ H _ us Q I r ⟨a, bs, rfl, sqL_of ha, k _ H (Same.refl H) rfl⟩
  · cases hb
def rIs (K : PySem.W.Frag) (t : Ty) : List V → Hp → VK → Prop := fun xs H Q => ∃ g A x d z, K = g.K ∧ Trk H A ∧ xs = [x, .ty t.s] ∧ Rb g H A d x ∧ isi t d = some z ∧ Q (.bl z) H
theorem kit_tab (t : Ty) : kitB "NoneType" t.s = some false ∧ kitB "bool" t.s = some (decide (t = .bool ∨ t = .int)) ∧ kitB "int" t.s = some (decide (t = .int)) ∧ kitB "str" t.s = some (decide (t = .str)) ∧ kitB "tuple" t.s = some (decide (t = .tuple)) ∧ kitB "list" t.s = some (decide (t = .list)) := by
  cases t <;> decide +kernel
theorem cl_isi (t : Ty) : CallR X (.builtin "isinstance") (rIs X.K t) := by
  intro pins s σ H xs us Q I r h
  obtain ⟨g, A, x, d, z, hK, tr, rfl, hd, hb, k⟩ := h
  obtain ⟨k0, k1, k2, k3, k4, k5⟩ := kit_tab t
  have go : ∀ {n : String}, TyX X.K H x (.type n) → kitB n t.s = some z → wpAny (model X.prog X.w) X.A (call (.builtin "isinstance") us) (EP X pins σ Q) X.xe s := fun {n} ty e =>
    call_isi pins s σ H _ us Q I r ⟨x, _, _, _, z, rfl, .ty _, ty, kit_ty e, k⟩
  cases d with
  | non => cases hb; cases hd.non; exact go (.base .non) k0
  | bl b => cases hb; cases hd.bl; exact go (.base (.bl b)) k1
  | int b => cases hb; cases hd.int; exact go (.base (.int b)) k2
  | str b => cases hb; cases hd.str; exact go (.base (.str b)) k3
  | tup ds =>
    cases hb
    obtain ⟨a, ys, rfl, ha, ra⟩ := hd.tup
    rcases ha with ⟨_, ha⟩ | ha
    · exact go (.base (.tup ha)) k4
    · rcases ha with ha | ⟨o, its, n, e1, e2, _⟩
      · rcases ha with ha | ⟨_, ha⟩ <;> cases ha
      · exact go (.kTuple (by rw [hK]; exact e1) e2) k4
  | lst ds =>
    cases hb
    obtain ⟨a, ys, rfl, ha, ra⟩ := hd.lst
    exact go (.base (.lst ha)) k5
  | dct _ _ => cases hb
  | pool => cases hb
end
/-! ### the context -/
structure Ctx (k : Ck) (gf : Gf) (X : Cx) : Prop where
  hN : X.N = k.N
  nd : X.N.Nodup
  hs : X.env.scope = k.sc
  calm : X.calm = true
  fr : ∀ x ∈ fbs, X.mg x = none
  gs : ∀ x c, k.gs.lookup x = some c → ∀ d, cnD c d = true → ∃ u, X.mg x = some u ∧ ∀ g H A v, (Rp g H A d v → RelV v u)
  fs : ∀ i x, k.fs[i]? = some x → ∃ (lvl : Nat) (f : Addr) (fd : FuncData) (ps : List Str), X.mg x = some (.ref f) ∧ PySem.W.keepIn X.K (.ref f) = true ∧ Binds X.K fd ps [] ∧ Room lvl X.A ∧
    (∀ ds w r, gf i ds w = some r → ds.length = ps.length) ∧ FnOk X.prog X.w X.K X.mg X.base CX0 lvl f fd ps (spOf X.K ps.length (gf i))
  hu : X.A.units + 65 < cLine
  hfn : ∀ x, k.fn x = true → X.fn x = true
/-! ### readings -/
section
variable (K : PySem.W.Frag) (gf : Gf)
def tE (e : Ex) : TE := fun σ H Q => ∃ g H0 S ow s k d s', K = g.K ∧ evE gf e s = .ok (k, d) s' ∧ StOk g H0 S ow σ H s ∧ ∀ v H', Post g H s s' H' → KV g S ow H s' H' k d v → Q v H'
def tT (e : Ex) : TT := fun σ H Q => ∃ g H0 S ow s k b s', K = g.K ∧ evE gf e s = .ok (k, .bl b) s' ∧ StOk g H0 S ow σ H s ∧ ∀ H', Post g H s s' H' → Q b H'
def tL (es : List Ex) : TA := fun σ H Q => ∃ g H0 S ow s ds s', K = g.K ∧ evL gf es s = .ok ds s' ∧ StOk g H0 S ow σ H s ∧ ∀ vs H', Post g H s s' H' → RkL g H' (Av S ow s') ds vs → Q vs H'
def tO (e : Option Ex) : TO := fun σ H Q => ∃ g H0 S ow s o s', K = g.K ∧ evO gf e s = .ok o s' ∧ StOk g H0 S ow σ H s ∧ ∀ H', Post g H s s' H' → Q o H'
def tI (e : Option Ex) : TT := fun σ H Q => ∃ g H0 S ow s b s', K = g.K ∧ evI gf e s = .ok b s' ∧ StOk g H0 S ow σ H s ∧ ∀ H', Post g H s s' H' → Q b H'
end
section
variable {X : Cx} {k : Ck} {gf : Gf} {a : Expr} {t t' : TE}
theorem PEimp (h : PE X a t) (w : ∀ σ H Q, t' σ H Q → t σ H Q) : PE X a t' := ⟨fun pins s σ H Q I hq => h.run pins s σ H Q I (w σ H Q hq)⟩
theorem PTimp {t t' : TT} (h : PT X a t) (w : ∀ σ H Q, t' σ H Q → t σ H Q) : PT X a t' := ⟨fun pins s σ H Q I hq => h.run pins s σ H Q I (w σ H Q hq)⟩
theorem PWimp {t t' : TT} (h : PW X a t) (w : ∀ σ H Q, t' σ H Q → t σ H Q) : PW X a t' := ⟨fun wh pins s σ H Q I hq => h.run wh pins s σ H Q I (w σ H Q hq)⟩
theorem PAimp {as : List Expr} {t t' : TA} (h : PA X as t) (w : ∀ σ H Q, t' σ H Q → t σ H Q) : PA X as t' := ⟨fun p pins s σ H Q I hq => h.run p pins s σ H Q I (w σ H Q hq)⟩
theorem POimp {o : Option Expr} {t t' : TO} (h : PO X o t) (w : ∀ σ H Q, t' σ H Q → t σ H Q) : PO X o t' := ⟨fun pins s σ H Q I hq => h.run pins s σ H Q I (w σ H Q hq)⟩
theorem bind_ok {α β : Type} {r : R α} {f : α → Sta → R β} {b : β} {s' : Sta} (h : r.bind f = .ok b s') : ∃ a s, r = .ok a s ∧ f a s = .ok b s' := by
  cases r with
  | ok a s => exact ⟨a, s, rfl, h⟩
  | bad => cases h
theorem opt_ok {α : Type} {o : Option α} {s s' : Sta} {a : α} (h : R.opt s o = .ok a s') : o = some a ∧ s = s' := by
  cases o with
  | none => cases h
  | some b =>
    cases h
    exact ⟨rfl, rfl⟩
theorem map_some {α β : Type} {o : Option α} {f : α → β} {b : β} (h : o.map f = some b) : ∃ a, o = some a ∧ f a = b := by
  cases o with
  | none => cases h
  | some a =>
    cases h
    exact ⟨a, rfl, rfl⟩
theorem toB_ok {x : Kd × D} {b : Bool} (h : toB x = some b) : ∃ k, x = (k, .bl b) := by
  obtain ⟨k, d⟩ := x
  cases d <;> cases h
  exact ⟨k, rfl⟩
theorem toI_ok {x : Kd × D} {b : Int} (h : toI x = some b) : ∃ k, x = (k, .int b) := by
  obtain ⟨k, d⟩ := x
  cases d <;> cases h
  exact ⟨k, rfl⟩
/-- a term in two steps -/
theorem tE_bind {e : Ex} {σ : L2.St} {H : Hp} {R' : V → Hp → Prop} {g : Gb} {H0 : Hp} {S : Addr → Prop} {ow : Nat → Addr} {s s1 : Sta} {x : Kd × D} (hK : X.K = g.K) (ev : evE gf e s = .ok x s1) (o : StOk g H0 S ow σ H s)
    (h : ∀ v H1, Post g H s s1 H1 → StOk g H0 S ow σ H1 s1 → Rk g H1 (Av S ow s1) x.1 x.2 v → R' v H1) : tE X.K gf e σ H R' :=
  ⟨g, H0, S, ow, s, x.1, x.2, s1, hK, ev, o, fun v H1 p q => h v H1 p (o.mv' p) (o.rk p q)⟩
theorem KV.val {g : Gb} {S : Addr → Prop} {ow : Nat → Addr} {H H' : Hp} {s : Sta} {d : D} {v : V} (h : Rp g H' (Av S ow s) d v) : KV g S ow H s H' .val d v := h
theorem star_ok {e : Ex} {as : List Expr} {env : Env} (h : chkE k e a = true) : starEach (a :: as) env = (false, eval a env) :: starEach as env := by
  cases a with
  | Starred => cases e <;> simp [chkE] at h
  | _ => rfl
theorem set_ok {e : Ex} {env : Env} (h : chkE k e a = true) : ∀ x, foldedSetIterable a env x = pure x := by
  intro x
  cases a with
  | Set => cases e <;> simp [chkE] at h
  | _ => rfl
theorem mark_ok {e : Ex} {op : CmpOp} (h : chkE k e a = true) : behindInMarks op a = false := by
  cases a with
  | Set => cases e <;> simp [chkE] at h
  | _ => rfl
theorem chkL_nil {es : List Ex} (h : chkL k es [] = true) : es = [] := by
  cases es with
  | nil => rfl
  | cons _ _ => cases h
theorem no_call0 {e : Ex} {x : Str} {p1 p : Pos} {kw : List Keyword} (h : chkE k e (.Call (.Name x p1) [] kw p) = true) : False := by
  cases kw with
  | cons _ _ => cases e <;> simp [chkE] at h
  | nil =>
    cases e <;> simp [chkE] at h
    · exact h.2.2.2 (chkL_nil h.2.2.1)
    · exact h.2.2.2 (chkL_nil h.2.2.1)
theorem base_ok {e : Ex} {nm : Str} {env : Env} (h : chkE k e a = true) : attributeBase a nm env (eval a env) = eval a env := by
  cases a with
  | Call f as kw p =>
    cases as with
    | nil =>
      cases f with
      | Name x p1 => exact (no_call0 h).elim
      | _ => cases kw <;> rfl
    | cons b bs => cases f <;> rfl
  | _ => rfl
theorem plain_ok : ∀ {es : List Ex} {as : List Expr} {env : Env} {pos : Pos}, chkL k es as = true → (backTo pos (starEach as env)).any (·.1) = false
  | [], [], env, pos, _ => rfl
  | e :: es, a :: as, env, pos, h => by
    have h' : (chkE k e a && chkL k es as) = true := h
    rw [Bool.and_eq_true] at h'
    rw [star_ok h'.1]
    exact plain_ok (es := es) h'.2
  | [], _ :: _, _, _, h => by cases h
  | _ :: _, [], _, _, h => by cases h
theorem len_ok : ∀ {es : List Ex} {as : List Expr}, chkL k es as = true → es.length = as.length
  | [], [], _ => rfl
  | e :: es, a :: as, h => by
    have h' : (chkE k e a && chkL k es as) = true := h
    rw [Bool.and_eq_true] at h'
    rw [List.length_cons, List.length_cons, len_ok h'.2]
  | [], _ :: _, h => by cases h
  | _ :: _, [], h => by cases h
theorem evL_len : ∀ {es : List Ex} {s s' : Sta} {ds : List (Kd × D)}, evL gf es s = .ok ds s' → ds.length = es.length
  | [], s, s', ds, h => by
    cases h
    rfl
  | e :: es, s, s', ds, h => by
    obtain ⟨x, s1, _, h2⟩ := bind_ok h
    obtain ⟨xs, s2, h3, h4⟩ := bind_ok h2
    cases h4
    rw [List.length_cons, List.length_cons, evL_len h3]
end
end Mp
/-! Mp5: each expression but the comprehensions, one lemma a form. -/
namespace Mp
open PySem PySem.Spec PyProof.Rows L2
section
variable {X : Cx} {k : Ck} {gf : Gf} {a : Expr} {g : Gb} {H0 H H' : Hp} {S : Addr → Prop} {ow : Nat → Addr} {σ : L2.St} {s s' : Sta}
theorem WOk.same {w : Wd} (h : WOk g H w) (sm : Same H H') : WOk g H' w := ⟨sm _ _ h.1, sm _ _ h.2.1, sm _ _ h.2.2.1, h.2.2.2⟩
theorem Post.more (p : Post g H s s' H') (o : WOk g H' s'.w) {H2 : Hp} (sm : Same H' H2) : Post g H s s' H2 := ⟨p.kp.trans (Kp.same sm), p.rel, o.same sm⟩
theorem bool_kv {kk : Kd} {b : Bool} {v : V} (o : StOk g H0 S ow σ H s) (p : Post g H s s' H') (h : KV g S ow H s' H' kk (.bl b) v) : v = .bl b := (o.rk p h).rb.bl
/-- a test whose term is no special one -/
theorem PT_of {e : Ex} (h : PE X a (tE X.K gf e)) (he : ∀ whole, isTrue a X.env whole = (do let v ← whole; standAt a.pos; holding [v] (truthy v))) : PT X a (tT X.K gf e) := by
  refine PTimp (pt_val h he) ?_
  rintro σ H Q ⟨g, H0, S, ow, s, kk, b, s', hK, ev, o, q⟩
  exact ⟨g, H0, S, ow, s, kk, .bl b, s', hK, ev, o, fun v H' p r => ⟨b, bool_kv o p r, q H' p⟩⟩
theorem wk_var {i : Nat} {σ : L2.St} {H : Hp} {Q : VK} (h : tE X.K gf (.v i) σ H Q) : tVar i σ H Q := by
  obtain ⟨g, H0, S, ow, s, kk, d, s', hK, ev, o, q⟩ := h
  unfold evE at ev
  split at ev
  · rename_i e
    obtain ⟨⟩ := ev
    obtain ⟨v, e1, e2⟩ := o.val i d e
    exact ⟨v, e1, q v H o.post e2⟩
  · rename_i e
    obtain ⟨⟩ := ev
    obtain ⟨e1, e2, e3, e4⟩ := o.own i d e
    have hl : i < s.sl.length := (List.getElem?_eq_some_iff.mp e).1
    have r : Rel s (s.set i (some (false, d))) := ⟨by show (s.sl.set i _).length = _; rw [List.length_set], fun j => by
      by_cases hj : i = j
      · subst hj
        exact .inr ⟨d, e, by show (s.sl.set i _)[i]? = _; rw [List.getElem?_set_self hl]⟩
      · exact .inl (by show (s.sl.set i _)[j]? = _; rw [List.getElem?_set_ne hj])⟩
    have p : Post g H s (s.set i (some (false, d))) H := ⟨Kp.refl, r, o.sb.w⟩
    have o' := o.mv' p
    obtain ⟨v, v1, v2⟩ := o'.val i d (by show (s.sl.set i _)[i]? = _; rw [List.getElem?_set_self hl])
    rw [e1] at v1
    cases v1
    exact ⟨_, e1, q _ H p v2⟩
  · obtain ⟨⟩ := ev
theorem wk_bor {i : Nat} {σ : L2.St} {H : Hp} {Q : VK} (h : tE X.K gf (.b i) σ H Q) : tVar i σ H Q := by
  obtain ⟨g, H0, S, ow, s, kk, d, s', hK, ev, o, q⟩ := h
  unfold evE at ev
  split at ev
  · rename_i e
    obtain ⟨⟩ := ev
    obtain ⟨v, e1, e2⟩ := o.val i d e
    exact ⟨v, e1, q v H o.post e2⟩
  · rename_i e
    obtain ⟨⟩ := ev
    obtain ⟨e1, e2, e3, e4⟩ := o.own i d e
    exact ⟨_, e1, q _ H o.post ⟨i, e, rfl⟩⟩
  · obtain ⟨⟩ := ev
theorem vis_ok (C : Ctx k gf X) {i : Nat} {x : Str} {p : Pos} (h : visB k i x = true) : PE X (.Name x p) (tVar i) := by
  unfold visB at h
  simp only [Bool.and_eq_true, Bool.or_eq_true, decide_eq_true_eq] at h
  obtain ⟨⟨h1, h2⟩, h3, h4⟩ := h
  refine pe_var (by rw [C.hN]; exact h1) ?_ h3 h4
  rw [C.hs]
  rcases h2 with (h2 | h2) | h2
  · exact .inl h2
  · exact .inr (.inl h2)
  · exact .inr (.inr h2)
theorem gl_ok (C : Ctx k gf X) {x : Str} (h : glB k x = true) : Gl X x ∧ (x == ("__debug__" : Str)) = false := by
  unfold glB at h
  rw [Bool.and_eq_true, decide_eq_true_eq, decide_eq_true_eq] at h
  refine ⟨?_, h.2⟩
  show X.env.scope.names.lookup x = _
  rw [C.hs]
  exact h.1
theorem wk_c {e : Ex} {c : D} {v : V} (he : ∀ s, evE gf e s = .ok (.val, c) s) (hv : ∀ g H A, Rp g H A c v) {σ : L2.St} {H : Hp} {Q : VK} (h : tE X.K gf e σ H Q) : tC v σ H Q := by
  obtain ⟨g, H0, S, ow, s, kk, d, s', hK, ev, o, q⟩ := h
  rw [he s] at ev
  cases ev
  exact q v H o.post (hv _ _ _)
theorem sd_k {cc : Const} {c : D} {j : Nat} {p : Pos} (h : cnD cc c = true) : PE X (.Constant cc j p) (tE X.K gf (.k c)) := by
  cases cc <;> cases c <;> first | (cases h; done) | skip
  · exact PEimp pe_non fun _ _ _ => wk_c (c := .non) (v := .non) (fun _ => rfl) fun _ _ _ => rfl
  · rename_i b c
    have e : b = c := by
      have h' : (b == c) = true := h
      exact eq_of_beq h'
    subst e
    exact PEimp pe_bl fun _ _ _ => wk_c (c := .bl b) (v := .bl b) (fun _ => rfl) fun _ _ _ => rfl
  · rename_i b c
    have e : b = c := of_decide_eq_true h
    subst e
    exact PEimp pe_int fun _ _ _ => wk_c (c := .int b) (v := .int b) (fun _ => rfl) fun _ _ _ => rfl
  · rename_i b c
    have e : b = c := of_decide_eq_true h
    subst e
    exact PEimp pe_str fun _ _ _ => wk_c (c := .str b) (v := .str b) (fun _ => rfl) fun _ _ _ => rfl
theorem sd_g (C : Ctx k gf X) {x : Str} {c : D} {p : Pos} (h : chkE k (.g x c) (.Name x p) = true) : PE X (.Name x p) (tE X.K gf (.g x c)) := by
  have h : (decide (x = x) && (glB k x && (match k.gs.lookup x with | some cc => cnD cc c | none => false))) = true := h
  rw [Bool.and_eq_true, Bool.and_eq_true] at h
  obtain ⟨_, h1, h2⟩ := h
  obtain ⟨g1, g2⟩ := gl_ok C h1
  cases q : k.gs.lookup x with
  | none => rw [q] at h2; cases h2
  | some cc =>
    rw [q] at h2
    obtain ⟨u, m, r⟩ := C.gs x cc q c h2
    have go : ∀ {v : V}, (∀ g H A, Rp g H A c v) → PE X (.Name x p) (tE X.K gf (.g x c)) := fun {v} hv =>
      PEimp (pe_glob g1 m (r ⟨X.K, 0, 0, 0⟩ (fun _ => none) (fun _ => False) v (hv _ _ _)) g2) fun _ _ _ => wk_c (fun _ => rfl) hv
    cases cc <;> cases c <;> first | (cases h2; done) | exact go fun _ _ _ => rfl
theorem pa_of_nil : PA X [] (tL X.K gf []) := by
  refine PAimp pa_nil ?_
  rintro σ H Q ⟨g, H0, S, ow, s, ds, s', hK, ev, o, q⟩
  cases ev
  exact q [] H o.post rfl
theorem pa_of_cons {e : Ex} {es : List Ex} {as : List Expr} (h1 : PE X a (tE X.K gf e)) (h2 : PA X as (tL X.K gf es)) (hc : chkE k e a = true) : PA X (a :: as) (tL X.K gf (e :: es)) := by
  refine PAimp (pa_cons h1 h2 (star_ok hc)) ?_
  rintro σ H Q ⟨g, H0, S, ow, s, ds, s', hK, ev, o, q⟩
  obtain ⟨x, s1, e1, ev⟩ := bind_ok ev
  obtain ⟨xs, s2, e2, ev⟩ := bind_ok ev
  cases ev
  refine tE_bind hK e1 o fun v1 H1 p1 o1 r1 => ?_
  exact ⟨g, H0, S, ow, s1, xs, s', hK, e2, o1, fun vs H2 p2 r2 => q _ H2 (p1.trans p2) ⟨v1, vs, rfl, r1.mv (o1.mv2 p2) p2.kp, r2⟩⟩
theorem small {n : Nat} (h : n ≤ 1000) : n ≤ sizeLine := Nat.le_trans h (by decide)
theorem sd_tup {es : List Ex} {as : List Expr} {j : Nat} {p : Pos} (h : PA X as (tL X.K gf es)) (hl : es.length ≤ 1000) : PE X (.Tuple as j p) (tE X.K gf (.tup es)) := by
  refine PEimp (pe_tup h) ?_
  rintro σ H Q ⟨g, H0, S, ow, s, kk, d, s', hK, ev, o, q⟩
  obtain ⟨ds, s1, e1, ev⟩ := bind_ok ev
  obtain ⟨e2, rfl⟩ := opt_ok ev
  obtain ⟨ds', e3, e4⟩ := map_some e2
  cases e4
  refine ⟨g, H0, S, ow, s, ds, s1, hK, e1, o, fun vs H1 p1 r1 => ?_⟩
  have o1 := o.mv' p1
  refine ⟨by rw [r1.length, evL_len e1]; exact small hl, fun a na => ?_⟩
  refine q _ _ (p1.more o1.sb.w (same_new na)) ⟨a, vs, rfl, .inl ⟨fun hA => o1.trk a hA na, upd_same⟩, RpL.mv (Mv.same (same_new na)) _ _ (r1.stor e3)⟩
theorem sd_lst {es : List Ex} {as : List Expr} {p : Pos} (h : PA X as (tL X.K gf es)) (hl : es.length ≤ 1000) : PE X (.List as p) (tE X.K gf (.lst es)) := by
  refine PEimp (pe_lst h) ?_
  rintro σ H Q ⟨g, H0, S, ow, s, kk, d, s', hK, ev, o, q⟩
  obtain ⟨ds, s1, e1, ev⟩ := bind_ok ev
  obtain ⟨e2, rfl⟩ := opt_ok ev
  obtain ⟨ds', e3, e4⟩ := map_some e2
  cases e4
  refine ⟨g, H0, S, ow, s, ds, s1, hK, e1, o, fun vs H1 p1 r1 => ?_⟩
  have o1 := o.mv' p1
  refine ⟨by rw [r1.length, evL_len e1]; exact small hl, fun a na => ?_⟩
  exact q _ _ (p1.more o1.sb.w (same_new na)) ⟨a, rfl, p1.free a na, vs, upd_same, RpL.mv (Mv.new na (same_new na)) _ _ (r1.stor e3)⟩
theorem sd_bin {op : Operator} {e1 e2 : Ex} {b : Expr} {p : Pos} (h1 : PE X a (tE X.K gf e1)) (h2 : PE X b (tE X.K gf e2)) : PE X (.BinOp a op b p) (tE X.K gf (.bin op e1 e2)) := by
  refine PEimp (pe_op (op_bin op) h1 h2) ?_
  rintro σ H Q ⟨g, H0, S, ow, s, kk, d, s', hK, ev, o, q⟩
  obtain ⟨x, s1, e1, ev⟩ := bind_ok ev
  obtain ⟨y, s2, e2, ev⟩ := bind_ok ev
  obtain ⟨e3, rfl⟩ := opt_ok ev
  obtain ⟨z, e4, e5⟩ := map_some e3
  cases e5
  refine tE_bind hK e1 o fun v1 H1 p1 o1 r1 => tE_bind hK e2 o1 fun v2 H2 p2 o2 r2 => ?_
  refine ⟨g, Av S ow s2, x.2, y.2, z.1, z.2, hK, o2.trk, (r1.mv (o1.mv2 p2) p2.kp).rb, r2.rb, e4, fun v H3 sm rv => ?_⟩
  exact q v H3 ((p1.trans p2).more o2.sb.w sm) (KV.of_rv (p1.trans p2).free rv)
theorem sd_neg {e : Ex} {p : Pos} (h1 : PE X a (tE X.K gf e)) : PE X (.UnaryOp .USub a p) (tE X.K gf (.neg e)) := by
  refine PEimp (pe_un un_neg h1) ?_
  rintro σ H Q ⟨g, H0, S, ow, s, kk, d, s', hK, ev, o, q⟩
  obtain ⟨x, s1, e1, ev⟩ := bind_ok ev
  obtain ⟨e3, rfl⟩ := opt_ok ev
  obtain ⟨z, e4, e5⟩ := map_some e3
  cases e5
  obtain ⟨kx, rfl⟩ := toI_ok e4
  refine tE_bind hK e1 o fun v1 H1 p1 o1 r1 => ?_
  exact ⟨z, r1.rb.int, q _ H1 p1 rfl⟩
theorem sd_nt {e : Ex} {p : Pos} (h1 : PE X a (tE X.K gf e)) : PE X (.UnaryOp .Not a p) (tE X.K gf (.nt e)) := by
  refine PEimp (pe_not h1) ?_
  rintro σ H Q ⟨g, H0, S, ow, s, kk, d, s', hK, ev, o, q⟩
  obtain ⟨x, s1, e1, ev⟩ := bind_ok ev
  obtain ⟨e3, rfl⟩ := opt_ok ev
  obtain ⟨z, e4, e5⟩ := map_some e3
  cases e5
  obtain ⟨kx, rfl⟩ := toB_ok e4
  refine tE_bind hK e1 o fun v1 H1 p1 o1 r1 => ?_
  exact ⟨z, r1.rb.bl, q _ H1 p1 rfl⟩
theorem st_nt {e : Ex} {p : Pos} (h1 : PT X a (tT X.K gf e)) : PT X (.UnaryOp .Not a p) (tT X.K gf (.nt e)) := by
  refine PTimp (pt_not h1) ?_
  rintro σ H Q ⟨g, H0, S, ow, s, kk, b, s', hK, ev, o, q⟩
  obtain ⟨x, s1, e1, ev⟩ := bind_ok ev
  obtain ⟨e3, rfl⟩ := opt_ok ev
  obtain ⟨z, e4, e5⟩ := map_some e3
  cases e5
  obtain ⟨kx, rfl⟩ := toB_ok e4
  exact ⟨g, H0, S, ow, s, kx, z, s1, hK, e1, o, q⟩
theorem sd_cmp (C : Ctx k gf X) {op : CmpOp} {e1 e2 : Ex} {b : Expr} {p : Pos} (h1 : PE X a (tE X.K gf e1)) (h2 : PE X b (tE X.K gf e2)) (hb : chkE k e2 b = true) : PE X (.Compare a [op] [b] p) (tE X.K gf (.cmp op e1 e2)) := by
  refine PEimp (pe_cmpR (op_cmp C.hu op) h1 h2 (mark_ok hb)) ?_
  rintro σ H Q ⟨g, H0, S, ow, s, kk, d, s', hK, ev, o, q⟩
  obtain ⟨x, s1, e1, ev⟩ := bind_ok ev
  obtain ⟨y, s2, e2, ev⟩ := bind_ok ev
  obtain ⟨e3, rfl⟩ := opt_ok ev
  obtain ⟨z, e4, e5⟩ := map_some e3
  cases e5
  refine tE_bind hK e1 o fun v1 H1 p1 o1 r1 => tE_bind hK e2 o1 fun v2 H2 p2 o2 r2 => ?_
  exact ⟨g, Av S ow s2, x.2, y.2, z, hK, o2.trk, (r1.mv (o1.mv2 p2) p2.kp).rb, r2.rb, e4, q _ H2 (p1.trans p2) rfl⟩
theorem st_cmp (C : Ctx k gf X) {op : CmpOp} {e1 e2 : Ex} {b : Expr} {p : Pos} (h1 : PE X a (tE X.K gf e1)) (h2 : PE X b (tE X.K gf e2)) (hb : chkE k e2 b = true) : PT X (.Compare a [op] [b] p) (tT X.K gf (.cmp op e1 e2)) := by
  refine PTimp (pt_cmpR (op_cmp C.hu op) h1 h2 (mark_ok hb)) ?_
  rintro σ H Q ⟨g, H0, S, ow, s, kk, b, s', hK, ev, o, q⟩
  obtain ⟨x, s1, e1, ev⟩ := bind_ok ev
  obtain ⟨y, s2, e2, ev⟩ := bind_ok ev
  obtain ⟨e3, rfl⟩ := opt_ok ev
  obtain ⟨z, e4, e5⟩ := map_some e3
  cases e5
  refine tE_bind hK e1 o fun v1 H1 p1 o1 r1 => tE_bind hK e2 o1 fun v2 H2 p2 o2 r2 => ?_
  exact ⟨g, Av S ow s2, x.2, y.2, b, hK, o2.trk, (r1.mv (o1.mv2 p2) p2.kp).rb, r2.rb, e4, b, rfl, q H2 (p1.trans p2)⟩
theorem chn_ok {o1 o2 : CmpOp} {e1 e2 e3 : Ex} {σ : L2.St} {H : Hp} {Q : VK} (h : tE X.K gf (.chn o1 o2 e1 e2 e3) σ H Q) : tChain (rC2 X.K (cmp o1)) (rC2 X.K (cmp o2)) (tE X.K gf e1) (tE X.K gf e2) (tE X.K gf e3) σ H Q := by
  obtain ⟨g, H0, S, ow, s, kk, d, s', hK, ev, o, q⟩ := h
  obtain ⟨x, s1, e1, ev⟩ := bind_ok ev
  obtain ⟨y, s2, e2, ev⟩ := bind_ok ev
  obtain ⟨b, s3, e3', ev⟩ := bind_ok ev
  obtain ⟨e3, e3e⟩ := opt_ok e3'
  subst e3e
  refine tE_bind hK e1 o fun v1 H1 p1 o1 r1 => tE_bind hK e2 o1 fun v2 H2 p2 o2 r2 => ?_
  refine ⟨g, Av S ow s2, x.2, y.2, b, hK, o2.trk, (r1.mv (o1.mv2 p2) p2.kp).rb, r2.rb, e3, b, rfl, ?_⟩
  cases b with
  | false =>
    cases ev
    exact iteF (q _ H2 (p1.trans p2) rfl)
  | true =>
    obtain ⟨z, s4, e4, ev⟩ := bind_ok ev
    obtain ⟨e5, rfl⟩ := opt_ok ev
    obtain ⟨w, e6, e7⟩ := map_some e5
    cases e7
    refine iteT (tE_bind hK e4 o2 fun v3 H3 p3 o3 r3 => ?_)
    exact ⟨g, Av S ow s4, y.2, z.2, w, hK, o3.trk, (r2.mv (o2.mv2 p3) p3.kp).rb, r3.rb, e6, q _ H3 ((p1.trans p2).trans p3) rfl⟩
theorem last_ok {op op' : CmpOp} {b c : Expr} {e : Ex} (hc : chkE k e c = true) : lastMarks [op, op'] [b, c] = false := mark_ok hc
theorem sd_chn (C : Ctx k gf X) {o1 o2 : CmpOp} {e1 e2 e3 : Ex} {b c : Expr} {p : Pos} (h1 : PE X a (tE X.K gf e1)) (h2 : PE X b (tE X.K gf e2)) (h3 : PE X c (tE X.K gf e3)) (hc : chkE k e3 c = true) : PE X (.Compare a [o1, o2] [b, c] p) (tE X.K gf (.chn o1 o2 e1 e2 e3)) :=
  PEimp (pe_chain (op_cmp C.hu o1) (op_cmp C.hu o2) h1 h2 h3 (last_ok hc)) fun _ _ _ => chn_ok
theorem st_chn (C : Ctx k gf X) {o1 o2 : CmpOp} {e1 e2 e3 : Ex} {b c : Expr} {p : Pos} (h1 : PE X a (tE X.K gf e1)) (h2 : PE X b (tE X.K gf e2)) (h3 : PE X c (tE X.K gf e3)) (hc : chkE k e3 c = true) : PT X (.Compare a [o1, o2] [b, c] p) (tT X.K gf (.chn o1 o2 e1 e2 e3)) := by
  refine PTimp (pt_chain (op_cmp C.hu o1) (op_cmp C.hu o2) h1 h2 h3 (last_ok hc)) ?_
  rintro σ H Q ⟨g, H0, S, ow, s, kk, b, s', hK, ev, o, q⟩
  exact chn_ok ⟨g, H0, S, ow, s, kk, .bl b, s', hK, ev, o, fun v H' p r => ⟨b, bool_kv o p r, q H' p⟩⟩
theorem sd_and {e1 e2 : Ex} {b : Expr} {rest : List Expr} {p : Pos} (h1 : PE X a (tE X.K gf e1)) (h2 : PE X (.BoolOp .And (b :: rest) p) (tE X.K gf e2)) : PE X (.BoolOp .And (a :: b :: rest) p) (tE X.K gf (.and e1 e2)) := by
  refine PEimp (pe_and h1 h2) ?_
  rintro σ H Q ⟨g, H0, S, ow, s, kk, d, s', hK, ev, o, q⟩
  obtain ⟨x, s1, e1, ev⟩ := bind_ok ev
  obtain ⟨b, s2, e2, ev⟩ := bind_ok ev
  obtain ⟨e3, e4⟩ := opt_ok e2
  subst e4
  obtain ⟨kx, e5⟩ := toB_ok e3
  subst e5
  refine tE_bind hK e1 o fun v1 H1 p1 o1 r1 => ⟨b, r1.rb.bl, ?_⟩
  cases b with
  | false =>
    cases ev
    exact iteF (q _ H1 p1 rfl)
  | true => exact iteT ⟨g, H0, S, ow, s1, kk, d, s', hK, ev, o1, fun v H2 p2 r2 => q v H2 (p1.trans p2) (by
      cases kk with
      | val => exact r2
      | fr => exact ⟨_, r2.choose_spec.1, p1.free _ r2.choose_spec.2.1, r2.choose_spec.2.2⟩
      | bo => exact r2)⟩
theorem sd_or {e1 e2 : Ex} {b : Expr} {rest : List Expr} {p : Pos} (h1 : PE X a (tE X.K gf e1)) (h2 : PE X (.BoolOp .Or (b :: rest) p) (tE X.K gf e2)) : PE X (.BoolOp .Or (a :: b :: rest) p) (tE X.K gf (.or e1 e2)) := by
  refine PEimp (pe_or h1 h2) ?_
  rintro σ H Q ⟨g, H0, S, ow, s, kk, d, s', hK, ev, o, q⟩
  obtain ⟨x, s1, e1, ev⟩ := bind_ok ev
  obtain ⟨b, s2, e2, ev⟩ := bind_ok ev
  obtain ⟨e3, e4⟩ := opt_ok e2
  subst e4
  obtain ⟨kx, e5⟩ := toB_ok e3
  subst e5
  refine tE_bind hK e1 o fun v1 H1 p1 o1 r1 => ⟨b, r1.rb.bl, ?_⟩
  cases b with
  | true =>
    cases ev
    exact iteT (q _ H1 p1 rfl)
  | false => exact iteF ⟨g, H0, S, ow, s1, kk, d, s', hK, ev, o1, fun v H2 p2 r2 => q v H2 (p1.trans p2) (by
      cases kk with
      | val => exact r2
      | fr => exact ⟨_, r2.choose_spec.1, p1.free _ r2.choose_spec.2.1, r2.choose_spec.2.2⟩
      | bo => exact r2)⟩
theorem sw_and {e1 e2 : Ex} {b : Expr} {rest : List Expr} {p : Pos} (h1 : PT X a (tT X.K gf e1)) (h2 : PW X (.BoolOp .And (b :: rest) p) (tT X.K gf e2)) : PW X (.BoolOp .And (a :: b :: rest) p) (tT X.K gf (.and e1 e2)) := by
  refine PWimp (pw_and h1 h2) ?_
  rintro σ H Q ⟨g, H0, S, ow, s, kk, d, s', hK, ev, o, q⟩
  obtain ⟨x, s1, e1, ev⟩ := bind_ok ev
  obtain ⟨b, s2, e2, ev⟩ := bind_ok ev
  obtain ⟨e3, e4⟩ := opt_ok e2
  subst e4
  obtain ⟨kx, e5⟩ := toB_ok e3
  subst e5
  refine ⟨g, H0, S, ow, s, kx, b, s1, hK, e1, o, fun H1 p1 => ?_⟩
  cases b with
  | false =>
    cases ev
    exact iteF (q H1 p1)
  | true => exact iteT ⟨g, H0, S, ow, s1, kk, d, s', hK, ev, o.mv' p1, fun H2 p2 => q H2 (p1.trans p2)⟩
theorem sw_or {e1 e2 : Ex} {b : Expr} {rest : List Expr} {p : Pos} (h1 : PT X a (tT X.K gf e1)) (h2 : PW X (.BoolOp .Or (b :: rest) p) (tT X.K gf e2)) : PW X (.BoolOp .Or (a :: b :: rest) p) (tT X.K gf (.or e1 e2)) := by
  refine PWimp (pw_or h1 h2) ?_
  rintro σ H Q ⟨g, H0, S, ow, s, kk, d, s', hK, ev, o, q⟩
  obtain ⟨x, s1, e1, ev⟩ := bind_ok ev
  obtain ⟨b, s2, e2, ev⟩ := bind_ok ev
  obtain ⟨e3, e4⟩ := opt_ok e2
  subst e4
  obtain ⟨kx, e5⟩ := toB_ok e3
  subst e5
  refine ⟨g, H0, S, ow, s, kx, b, s1, hK, e1, o, fun H1 p1 => ?_⟩
  cases b with
  | true =>
    cases ev
    exact iteT (q H1 p1)
  | false => exact iteF ⟨g, H0, S, ow, s1, kk, d, s', hK, ev, o.mv' p1, fun H2 p2 => q H2 (p1.trans p2)⟩
theorem KV.back {kk : Kd} {d : D} {v : V} {H1 H2 : Hp} (f : ∀ b, H1 b = none → H b = none) (h : KV g S ow H1 s' H2 kk d v) : KV g S ow H s' H2 kk d v := by
  cases kk with
  | val => exact h
  | bo => exact h
  | fr =>
    obtain ⟨a, e, n, r⟩ := h
    exact ⟨a, e, f a n, r⟩
theorem sd_ite {e0 e1 e2 : Ex} {t b : Expr} {p : Pos} (h0 : PT X t (tT X.K gf e0)) (h1 : PE X a (tE X.K gf e1)) (h2 : PE X b (tE X.K gf e2)) : PE X (.IfExp t a b p) (tE X.K gf (.ite e0 e1 e2)) := by
  refine PEimp (pe_ifExp h0 h1 h2) ?_
  rintro σ H Q ⟨g, H0, S, ow, s, kk, d, s', hK, ev, o, q⟩
  obtain ⟨x, s1, e1, ev⟩ := bind_ok ev
  obtain ⟨b, s2, e2, ev⟩ := bind_ok ev
  obtain ⟨e3, e4⟩ := opt_ok e2
  subst e4
  obtain ⟨kx, e5⟩ := toB_ok e3
  subst e5
  refine ⟨g, H0, S, ow, s, kx, b, s1, hK, e1, o, fun H1 p1 => ?_⟩
  cases b with
  | true => exact iteT ⟨g, H0, S, ow, s1, kk, d, s', hK, ev, o.mv' p1, fun v H2 p2 r => q v H2 (p1.trans p2) (r.back p1.free)⟩
  | false => exact iteF ⟨g, H0, S, ow, s1, kk, d, s', hK, ev, o.mv' p1, fun v H2 p2 r => q v H2 (p1.trans p2) (r.back p1.free)⟩
theorem plainIx_ok {e : Ex} (h : chkE k e a = true) : PlainIx a := by
  intro o i
  cases a with
  | Slice => cases e <;> simp [chkE] at h
  | _ => rfl
theorem sd_ix {e1 e2 : Ex} {b : Expr} {p : Pos} (h1 : PE X a (tE X.K gf e1)) (h2 : PE X b (tE X.K gf e2)) (hb : chkE k e2 b = true) : PE X (.Subscript a b p) (tE X.K gf (.ix e1 e2)) := by
  refine PEimp (pe_ix ix_ok h1 h2 (plainIx_ok hb)) ?_
  rintro σ H Q ⟨g, H0, S, ow, s, kk, d, s', hK, ev, o, q⟩
  obtain ⟨x, s1, e1, ev⟩ := bind_ok ev
  obtain ⟨y, s2, e2, ev⟩ := bind_ok ev
  obtain ⟨e3, rfl⟩ := opt_ok ev
  obtain ⟨z, e4, e5⟩ := map_some e3
  cases e5
  refine tE_bind hK e1 o fun v1 H1 p1 o1 r1 => tE_bind hK e2 o1 fun v2 H2 p2 o2 r2 => ?_
  exact ⟨g, Av S ow s2, x.2, y.2, d, hK, o2.trk, (r1.mv (o1.mv2 p2) p2.kp).rb, r2.rb, e4, fun v rv => q v H2 (p1.trans p2) rv⟩
theorem po_of_none : PO X none (tO X.K gf none) := by
  refine POimp po_none ?_
  rintro σ H Q ⟨g, H0, S, ow, s, d, s', hK, ev, o, q⟩
  cases ev
  exact q H o.post
theorem po_of_some {e : Ex} (h : PE X a (tE X.K gf e)) : PO X (some a) (tO X.K gf (some e)) := by
  refine POimp (po_some h) ?_
  rintro σ H Q ⟨g, H0, S, ow, s, d, s', hK, ev, o, q⟩
  obtain ⟨x, s1, e1, ev⟩ := bind_ok ev
  obtain ⟨e3, rfl⟩ := opt_ok ev
  obtain ⟨z, e4, e5⟩ := map_some e3
  cases e5
  obtain ⟨kx, rfl⟩ := toI_ok e4
  refine tE_bind hK e1 o fun v1 H1 p1 o1 r1 => ⟨z, r1.rb.int, q H1 p1⟩
theorem sd_sl {e : Ex} {lo hi : Option Ex} {lo' hi' : Option Expr} {p p2 : Pos} (h1 : PE X a (tE X.K gf e)) (h2 : PO X lo' (tO X.K gf lo)) (h3 : PO X hi' (tO X.K gf hi)) : PE X (.Subscript a (.Slice lo' hi' none p2) p) (tE X.K gf (.sl e lo hi)) := by
  refine PEimp (pe_slice sl_ok h1 h2 h3) ?_
  rintro σ H Q ⟨g, H0, S, ow, s, kk, d, s', hK, ev, o, q⟩
  obtain ⟨x, s1, e1, ev⟩ := bind_ok ev
  obtain ⟨l, s2, e2, ev⟩ := bind_ok ev
  obtain ⟨u, s3, e3, ev⟩ := bind_ok ev
  obtain ⟨e4, rfl⟩ := opt_ok ev
  obtain ⟨z, e5, e6⟩ := map_some e4
  cases e6
  refine tE_bind hK e1 o fun v1 H1 p1 o1 r1 => ⟨g, H0, S, ow, s1, l, s2, hK, e2, o1, fun H2 p2 => ?_⟩
  have o2 := o1.mv' p2
  refine ⟨g, H0, S, ow, s2, u, s3, hK, e3, o2, fun H3 p3 => ?_⟩
  have o3 := o2.mv' p3
  refine ⟨g, Av S ow s3, x.2, z.1, z.2, hK, o3.trk, ((r1.mv (o1.mv2 p2) p2.kp).mv (o2.mv2 p3) p3.kp).rb, e5, fun v H4 sm rv => ?_⟩
  exact q v H4 (((p1.trans p2).trans p3).more o3.sb.w sm) (KV.of_rv ((p1.trans p2).trans p3).free rv)
theorem SB.av (o : StOk g H0 S ow σ H s) : SB g H (Av S ow s) s.w := ⟨o.trk, .inl o.sb.sp, .inl o.sb.sr, .inl o.sb.sc, o.sb.w⟩
theorem sd_call (C : Ctx k gf X) {f : Nat} {x : Str} {es : List Ex} {b : Expr} {as : List Expr} {p p' : Pos} (h : PA X (b :: as) (tL X.K gf es)) (hf : k.fs[f]? = some x) (hg : glB k x = true) (hl : chkL k es (b :: as) = true) :
    PE X (.Call (.Name x p') (b :: as) [] p) (tE X.K gf (.call f es)) := by
  obtain ⟨lvl, fa, fd, ps, hm, hk, hb, hr, har, F⟩ := C.fs f x hf
  obtain ⟨g1, g2⟩ := gl_ok C hg
  cases es with
  | nil => cases hl
  | cons e0 es0 =>
  have hl' : (chkE k e0 b && chkL k es0 as) = true := hl
  rw [Bool.and_eq_true] at hl'
  refine PEimp (pe_call (E := E0) F hr g1 hm hk hb .nil (fun _ _ _ _ _ _ _ z => z.elim) h g2 (star_ok hl'.1) (plain_ok hl'.2)) ?_
  rintro σ H Q ⟨g, H0, S, ow, s, kk, d, s', hK, ev, o, q⟩
  obtain ⟨ds, s1, e1, ev⟩ := bind_ok ev
  refine ⟨g, H0, S, ow, s, ds, s1, hK, e1, o, fun vs H1 p1 r1 => ?_⟩
  have o1 := o.mv' p1
  split at ev
  · rename_i ds' es'
    split at ev
    · rename_i fl d' w' eg
      cases ev
      have rl := r1.stor es'
      have el : vs.length = ds'.length := rl.length
      show spOf X.K ps.length (gf f) (vs ++ []) H1 Q E0
      rw [List.append_nil]
      refine ⟨g, Av S ow s1, ds', s1.w, fl, d, w', hK, by rw [el]; exact har _ _ _ eg, SB.av o1, rl, eg, fun v H2 kp w2 rv => ?_⟩
      have p2 : Post g H1 s1 { s1 with w := w' } H2 := ⟨kp, ⟨rfl, fun _ => .inl rfl⟩, w2⟩
      refine q v H2 (p1.trans p2) (KV.of_rv p1.free (s' := { s1 with w := w' }) (S := S) (ow := ow) rv)
    · cases ev
  · cases ev
theorem bi_boot (b : Bi) : (∃ id, b.v = .builtin id ∧ bootBuiltins b.s = some (.builtin id)) ∨ (∃ id, b.v = .type id ∧ bootBuiltins b.s = some (.type id)) := by
  cases b
  case len => exact .inl ⟨_, rfl, by decide +kernel⟩
  case max2 => exact .inl ⟨_, rfl, by decide +kernel⟩
  case min2 => exact .inl ⟨_, rfl, by decide +kernel⟩
  case all => exact .inl ⟨_, rfl, by decide +kernel⟩
  case any => exact .inl ⟨_, rfl, by decide +kernel⟩
  case sum => exact .inl ⟨_, rfl, by decide +kernel⟩
  all_goals exact .inr ⟨_, rfl, by decide +kernel⟩
theorem bi_name (b : Bi) : b.s ∈ fbs ∧ b.s ≠ "__name__" := by cases b <;> decide +kernel
theorem sd_bi (C : Ctx k gf X) {b : Bi} {x : Str} {es : List Ex} {b0 : Expr} {as : List Expr} {p p' : Pos} (h : PA X (b0 :: as) (tL X.K gf es)) (hx : x = b.s) (hg : glB k x = true) (hl : chkL k es (b0 :: as) = true) :
    PE X (.Call (.Name x p') (b0 :: as) [] p) (tE X.K gf (.bi b es)) := by
  obtain ⟨g1, g2⟩ := gl_ok C hg
  cases es with
  | nil => cases hl
  | cons e0 es0 =>
  have hl' : (chkE k e0 b0 && chkL k es0 as) = true := hl
  rw [Bool.and_eq_true] at hl'
  have m : X.mg x = none := C.fr x (by rw [hx]; exact (bi_name b).1)
  have hn : x ≠ "__name__" := by rw [hx]; exact (bi_name b).2
  have hc := cl_bi C.calm b
  have main : PE X (.Call (.Name x p') (b0 :: as) [] p) (tCB (rCl X.K (bi b)) (tL X.K gf (e0 :: es0))) := by
    rcases bi_boot b with ⟨id, e1, e2⟩ | ⟨id, e1, e2⟩
    · rw [e1] at hc
      exact pe_callB hc g1 m (by rw [hx]; exact e2) h hn g2 (star_ok hl'.1) (plain_ok hl'.2)
    · rw [e1] at hc
      exact pe_callTy hc g1 m (by rw [hx]; exact e2) h hn g2 (star_ok hl'.1) (plain_ok hl'.2)
  refine PEimp main ?_
  rintro σ H Q ⟨g, H0, S, ow, s, kk, d, s', hK, ev, o, q⟩
  obtain ⟨ds, s1, e1, ev⟩ := bind_ok ev
  obtain ⟨e3, rfl⟩ := opt_ok ev
  obtain ⟨z, e4, e5⟩ := map_some e3
  cases e5
  refine ⟨g, H0, S, ow, s, ds, s1, hK, e1, o, fun vs H1 p1 r1 => ?_⟩
  have o1 := o.mv' p1
  exact ⟨g, Av S ow s1, _, z.1, z.2, hK, o1.trk, r1.rbL, e4, fun v H2 sm rv => q v H2 (p1.more o1.sb.w sm) (KV.of_rv p1.free rv)⟩
theorem ty_boot (t : Ty) : bootBuiltins (Str.ofString t.s) = some (.type t.s) ∧ Str.ofString t.s ∈ fbs ∧ Str.ofString t.s ≠ "__name__" := by cases t <;> decide +kernel
theorem sd_isi (C : Ctx k gf X) {t : Ty} {x y : Str} {e : Ex} {b : Expr} {p p' p2 : Pos} (h : PE X b (tE X.K gf e)) (hx : x = ("isinstance" : Str)) (hg : glB k x = true) (hy : y = Str.ofString t.s) (hgy : glB k y = true) (hl : chkE k e b = true) :
    PE X (.Call (.Name x p') [b, .Name y p2] [] p) (tE X.K gf (.isi t e)) := by
  obtain ⟨g1, g2⟩ := gl_ok C hg
  obtain ⟨g3, g4⟩ := gl_ok C hgy
  obtain ⟨b1, b2, b3⟩ := ty_boot t
  have m : X.mg x = none := C.fr x (by rw [hx]; decide +kernel)
  have m2 : X.mg y = none := C.fr y (by rw [hy]; exact b2)
  have hn : x ≠ "__name__" := by rw [hx]; decide +kernel
  have pt : PE X (.Name y p2) (tC (.ty t.s)) := pe_bltn g3 m2 (by rw [hy]; exact b1) rfl (by rw [hy]; exact b3) g4
  refine PEimp (pe_callB (cl_isi t) g1 m (by rw [hx]; decide +kernel) (pa_cons h (pa_cons pt pa_nil) (star_ok hl)) hn g2 (star_ok hl) rfl) ?_
  rintro σ H Q ⟨g, H0, S, ow, s, kk, d, s', hK, ev, o, q⟩
  obtain ⟨ds, s1, e1, ev⟩ := bind_ok ev
  obtain ⟨e3, rfl⟩ := opt_ok ev
  obtain ⟨z, e4, e5⟩ := map_some e3
  cases e5
  refine tE_bind hK e1 o fun v1 H1 p1 o1 r1 => ?_
  exact ⟨g, Av S ow s1, v1, ds.2, z, hK, o1.trk, rfl, r1.rb, e4, q _ H1 p1 rfl⟩
theorem sd_mt (C : Ctx k gf X) {m : Mt} {nm : Str} {e : Ex} {ap p : Pos} (h : PE X a (tE X.K gf e)) (hx : nm = m.s) (hp : (ap.endLine == p.line) = true) (hl : chkE k e a = true) : PE X (.Call (.Attribute a nm ap) [] [] p) (tE X.K gf (.mt m e)) := by
  subst hx
  cases m with
  | upper =>
    refine PEimp (pe_upper h (base_ok hl) hp) ?_
    rintro σ H Q ⟨g, H0, S, ow, s, kk, d, s', hK, ev, o, q⟩
    obtain ⟨ds, s1, e1, ev⟩ := bind_ok ev
    obtain ⟨e3, rfl⟩ := opt_ok ev
    obtain ⟨z, e4, e5⟩ := map_some e3
    cases e5
    refine tE_bind hK e1 o fun v1 H1 p1 o1 r1 => ?_
    obtain ⟨kd, dd⟩ := ds
    cases dd <;> first | (cases e4; done) | skip
    rename_i x
    have e4' : (if x.length ≤ 5592405 then some (false, D.str (Txt.upper x)) else none) = some z := e4
    split at e4'
    · cases e4'
      exact ⟨⟨x, r1.rb.str⟩, x, r1.rb.str, rfl, ‹_›, q _ H1 p1 rfl⟩
    · cases e4'
end
end Mp
/-! Mp6: what is walked, targets, comprehensions, all expressions. -/
namespace Mp
open PySem PySem.Spec PyProof.Rows L2
section
variable {g : Gb} {H0 H H' : Hp} {S B : Addr → Prop} {ow : Nat → Addr} {σ : L2.St} {s s' : Sta}
theorem Mv.kp {A A' : Addr → Prop} (k : Kp g H H') (hc : A g.c) (h : ∀ b, A' b → A b) : Mv H H' A A' := ⟨fun b o nb e => k b o (fun z => nb (by rw [z]; exact hc)) e, fun b hb nb => absurd (h b hb) nb⟩
theorem Mv.upd {A : Addr → Prop} {a : Addr} {o : HO} (ha : A a) : Mv H (upd H a o) A A := ⟨fun b u nb e => by
  rw [upd_ne (fun z => nb (by rw [z]; exact ha))]
  exact e, fun _ h n => absurd h n⟩
theorem owned_set {i j : Nat} {d : D} (h : owned (s.set i (some (false, d))) j) : owned s j := by
  obtain ⟨e, h⟩ := h
  have h : (s.sl.set i (some (false, d)))[j]? = some (some (true, e)) := h
  by_cases hi : i = j
  · subst hi
    by_cases hl : i < s.sl.length
    · rw [List.getElem?_set_self hl] at h
      cases h
    · rw [List.getElem?_eq_none (by simpa using hl)] at h
      cases h
  · rw [List.getElem?_set_ne hi] at h
    exact ⟨e, h⟩
theorem owned_setN {i j : Nat} (h : owned (s.set i none) j) : owned s j ∧ i ≠ j := by
  obtain ⟨e, h⟩ := h
  have h : (s.sl.set i none)[j]? = some (some (true, e)) := h
  by_cases hi : i = j
  · subst hi
    by_cases hl : i < s.sl.length
    · rw [List.getElem?_set_self hl] at h
      cases h
    · rw [List.getElem?_eq_none (by simpa using hl)] at h
      cases h
  · rw [List.getElem?_set_ne hi] at h
    exact ⟨⟨e, h⟩, hi⟩
theorem Av.less (h : ∀ i, owned s' i → owned s i) : ∀ b, Av S ow s' b → Av S ow s b := fun b hb => by
  rcases hb with hb | ⟨i, hi, e⟩
  · exact .inl hb
  · exact .inr ⟨i, h i hi, e⟩
/-- fewer slots are known -/
theorem StOk.weak {σ' : L2.St} (o : StOk g H0 S ow σ H s) (ho : ∀ i, owned s' i → owned s i) (hv : ∀ (i : Nat) x, s'.sl[i]? = some (some x) → s.sl[i]? = some (some x) ∧ σ'[i]? = σ[i]?) (hl : s'.sl.length = σ'.length) (hw : s'.w = s.w) : StOk g H0 S ow σ' H s' := by
  refine ⟨fun i d e => ?_, fun i d e => ?_, fun i j hi hj => o.inj i j (ho i hi) (ho j hj), by rw [hw]; exact o.sb, o.k0, hl⟩
  · obtain ⟨e1, e2⟩ := hv i _ e
    obtain ⟨v, v1, v2⟩ := o.val i d e1
    exact ⟨v, by rw [e2]; exact v1, Rp.mv (Mv.less (Av.less ho)) d v v2⟩
  · obtain ⟨e1, e2⟩ := hv i _ e
    obtain ⟨v1, v2, v3, v4⟩ := o.own i d e1
    exact ⟨by rw [e2]; exact v1, v2.mv (Mv.less (Av.less ho)) fun _ q => q, v3, v4⟩
theorem StOk.setVal {i : Nat} {d : D} {v : V} (o : StOk g H0 S ow σ H s) (h : Rp g H (Av S ow s) d v) : StOk g H0 S ow (σ.set i (some v)) H (s.set i (some (false, d))) := by
  have ho : ∀ j, owned (s.set i (some (false, d))) j → owned s j := fun j h => owned_set h
  refine ⟨fun j e q => ?_, fun j e q => ?_, fun a b ha hb => o.inj a b (ho a ha) (ho b hb), o.sb, o.k0, by show (s.sl.set i _).length = _; rw [List.length_set, List.length_set]; exact o.len⟩
  · have q : (s.sl.set i (some (false, d)))[j]? = some (some (false, e)) := q
    by_cases hi : i = j
    · subst hi
      by_cases hl : i < s.sl.length
      · rw [List.getElem?_set_self hl] at q
        cases q
        exact ⟨v, by rw [List.getElem?_set_self (by rw [← o.len]; exact hl)], Rp.mv (Mv.less (Av.less ho)) d v h⟩
      · rw [List.getElem?_eq_none (by simpa using hl)] at q
        cases q
    · rw [List.getElem?_set_ne hi] at q
      obtain ⟨w, w1, w2⟩ := o.val j e q
      exact ⟨w, by rw [List.getElem?_set_ne hi]; exact w1, Rp.mv (Mv.less (Av.less ho)) e w w2⟩
  · have q : (s.sl.set i (some (false, d)))[j]? = some (some (true, e)) := q
    by_cases hi : i = j
    · subst hi
      by_cases hl : i < s.sl.length
      · rw [List.getElem?_set_self hl] at q
        cases q
      · rw [List.getElem?_eq_none (by simpa using hl)] at q
        cases q
    · rw [List.getElem?_set_ne hi] at q
      obtain ⟨w1, w2, w3, w4⟩ := o.own j e q
      exact ⟨by rw [List.getElem?_set_ne hi]; exact w1, w2.mv (Mv.less (Av.less ho)) fun _ q => q, w3, w4⟩
/-- an object of the outside changes -/
theorem StOk.updS {a : Addr} {u : HO} (o : StOk g H0 S ow σ H s) (ha : S a) (h0 : H0 a = none) (hp : a ≠ g.p) (hr : a ≠ g.r) (hc : a ≠ g.c) : StOk g H0 S ow σ (upd H a u) s := by
  have m : Mv H (L2.upd H a u) (Av S ow s) (Av S ow s) := Mv.upd (.inl ha)
  refine ⟨fun i d e => ?_, fun i d e => ?_, o.inj, ⟨fun b hb => ?_, o.sb.sp, o.sb.sr, o.sb.sc, ?_⟩, fun b z nb e => ?_, o.len⟩
  · obtain ⟨v, v1, v2⟩ := o.val i d e
    exact ⟨v, v1, Rp.mv m d v v2⟩
  · obtain ⟨v1, v2, v3, v4⟩ := o.own i d e
    exact ⟨v1, v2.mv m fun z q => by rw [upd_ne (fun e => v3 (by rw [e]; exact ha))]; exact q, v3, v4⟩
  · by_cases e : b = a
    · rw [e, upd_same]
      exact fun z => nomatch z
    · rw [upd_ne e]
      exact o.sb.trk b hb
  · obtain ⟨w1, w2, w3, w4⟩ := o.sb.w
    exact ⟨by rw [upd_ne hp.symm]; exact w1, by rw [upd_ne hr.symm]; exact w2, by rw [upd_ne hc.symm]; exact w3, w4⟩
  · rw [upd_ne (ne_of_none e h0)]
    exact o.k0 b z nb e
theorem wipeS_len (vs : List Nat) : (wipeS vs s).sl.length = s.sl.length := by
  induction vs with
  | nil => rfl
  | cons v vs ih =>
    show ((wipeS vs s).sl.set v none).length = _
    rw [List.length_set, ih]
theorem wipeS_w (vs : List Nat) : (wipeS vs s).w = s.w := by
  induction vs with
  | nil => rfl
  | cons v vs ih => exact ih
theorem wipeS_at {vs : List Nat} {i : Nat} {x : Bool × D} (h : (wipeS vs s).sl[i]? = some (some x)) : s.sl[i]? = some (some x) ∧ i ∉ vs := by
  induction vs with
  | nil => exact ⟨h, List.not_mem_nil⟩
  | cons v vs ih =>
    have h : ((wipeS vs s).sl.set v none)[i]? = some (some x) := h
    by_cases hi : v = i
    · subst hi
      by_cases hl : v < (wipeS vs s).sl.length
      · rw [List.getElem?_set_self hl] at h
        cases h
      · rw [List.getElem?_eq_none (by simpa using hl)] at h
        cases h
    · rw [List.getElem?_set_ne hi] at h
      obtain ⟨h1, h2⟩ := ih h
      exact ⟨h1, by simp only [List.mem_cons, not_or]; exact ⟨fun e => hi e.symm, h2⟩⟩
theorem wipeS_out {vs : List Nat} {i : Nat} (h : i ∉ vs) : (wipeS vs s).sl[i]? = s.sl[i]? := by
  induction vs with
  | nil => rfl
  | cons v vs ih =>
    show ((wipeS vs s).sl.set v none)[i]? = _
    rw [List.getElem?_set_ne (fun e => h (by rw [e]; exact List.mem_cons_self)), ih fun m => h (List.mem_cons_of_mem _ m)]
theorem wipeS_owned {vs : List Nat} {i : Nat} (h : owned (wipeS vs s) i) : owned s i ∧ i ∉ vs := by
  obtain ⟨d, h⟩ := h
  obtain ⟨h1, h2⟩ := wipeS_at h
  exact ⟨⟨d, h1⟩, h2⟩
theorem StOk.wipe (o : StOk g H0 S ow σ H s) (vs : List Nat) : StOk g H0 S ow (L2.wipe σ vs) H (wipeS vs s) := by
  refine o.weak (fun i h => (wipeS_owned h).1) (fun i x h => ?_) (by rw [wipeS_len, wipe_length]; exact o.len) (wipeS_w vs)
  obtain ⟨h1, h2⟩ := wipeS_at h
  exact ⟨h1, wipe_out h2⟩
end
/-! ### targets -/
section
variable (K : PySem.W.Frag)
def tTg (t : Tg) : TG := fun v σ H Q => ∃ g H0 S ow s d s', K = g.K ∧ bindT t d s = some s' ∧ StOk g H0 S ow σ H s ∧ Rp g H (Av S ow s) d v ∧
  ∀ σ', StOk g H0 S ow σ' H s' → (∀ i, owned s' i → owned s i) → (∀ i : Nat, i ∉ tgs t → σ'[i]? = σ[i]? ∧ s'.sl[i]? = s.sl[i]?) → s'.sl.length = s.sl.length → s'.w = s.w → Q σ' H
def tTgs (ts : List Tg) : TGs := fun vs σ H Q => ∃ g H0 S ow s ds s', K = g.K ∧ bindTs ts ds s = some s' ∧ ds.length = ts.length ∧ StOk g H0 S ow σ H s ∧ RpL g H (Av S ow s) ds vs ∧
  ∀ σ', StOk g H0 S ow σ' H s' → (∀ i, owned s' i → owned s i) → (∀ i : Nat, i ∉ tgss ts → σ'[i]? = σ[i]? ∧ s'.sl[i]? = s.sl[i]?) → s'.sl.length = s.sl.length → s'.w = s.w → Q σ' H
end
section
variable {X : Cx} {k : Ck} {gf : Gf}
theorem PGimp {a : Expr} {t t' : TG} (h : PG X a t) (w : ∀ v σ H Q, t' v σ H Q → t v σ H Q) : PG X a t' := ⟨fun pins s σ H v u Q I r hq => h.run pins s σ H v u Q I r (w v σ H Q hq)⟩
theorem PGsimp {a : List Expr} {t t' : TGs} (h : PGs X a t) (w : ∀ v σ H Q, t' v σ H Q → t v σ H Q) : PGs X a t' := ⟨fun pins s σ H v u Q I r hq => h.run pins s σ H v u Q I r (w v σ H Q hq)⟩
theorem asgn_ok {t : Tg} {e : Expr} {es : List Expr} {env : Env} (h : chkT k t e = true) : assignEach (e :: es) env = (false, assign e env) :: assignEach es env := by
  cases e with
  | Starred => cases t <;> simp [chkT] at h
  | _ => rfl
theorem asgn_all : ∀ {ts : List Tg} {es : List Expr} {env : Env}, chkTs k ts es = true → (assignEach es env).length = ts.length ∧ (assignEach es env).findIdx? (·.1) = none
  | [], [], _, _ => ⟨rfl, rfl⟩
  | t :: ts, e :: es, env, h => by
    have h' : (chkT k t e && chkTs k ts es) = true := h
    rw [Bool.and_eq_true] at h'
    obtain ⟨h1, h2⟩ := asgn_all (env := env) h'.2
    rw [asgn_ok h'.1]
    refine ⟨by rw [List.length_cons, List.length_cons, h1], ?_⟩
    rw [List.findIdx?_cons]
    simp only [Bool.false_eq_true, if_false]
    rw [h2]
    rfl
  | [], _ :: _, _, h => by cases h
  | _ :: _, [], _, h => by cases h
mutual
theorem pg_ok (C : Ctx k gf X) : ∀ (t : Tg) (e : Expr), chkT k t e = true → PG X e (tTg X.K t)
  | .nm i, e, h => by
    cases e <;> first | (cases h; done) | skip
    rename_i x p
    have h : (decide (k.N[i]? = some x) && (decide (k.sc.names.lookup x = some .local) || (decide (k.sc.names.lookup x = some .cell) && k.fn x))) = true := h
    rw [Bool.and_eq_true, Bool.or_eq_true, Bool.and_eq_true, decide_eq_true_eq, decide_eq_true_eq, decide_eq_true_eq] at h
    obtain ⟨h1, h2⟩ := h
    refine PGimp (pg_name C.nd (by rw [C.hN]; exact h1) (by
      show X.env.scope.names.lookup x = _ ∨ X.env.scope.names.lookup x = _
      rw [C.hs]
      rcases h2 with h2 | ⟨h2, _⟩
      · exact .inl h2
      · exact .inr h2) (by
      rw [C.hs]
      rcases h2 with h2 | ⟨_, h2⟩
      · exact .inr h2
      · exact .inl (C.hfn x h2))) ?_
    rintro v σ H Q ⟨g, H0, S, ow, s, d, s', hK, hb, o, r, q⟩
    cases hb
    refine q _ (o.setVal r) (fun j hj => owned_set hj) (fun j hj => ?_) (by show (s.sl.set i _).length = _; rw [List.length_set]) rfl
    have hij : i ≠ j := fun e => hj (by rw [e]; exact List.mem_singleton.mpr rfl)
    exact ⟨by rw [List.getElem?_set_ne hij], by show (s.sl.set i _)[j]? = _; rw [List.getElem?_set_ne hij]⟩
  | .tp ts, e, h => by
    cases e <;> first | (cases h; done) | skip
    rename_i es z p
    have h : chkTs k ts es = true := h
    obtain ⟨l1, l2⟩ := asgn_all (env := X.env) h
    refine PGimp (pg_tup C.calm (pgs_ok C ts es h) l1 l2) ?_
    rintro v σ H Q ⟨g, H0, S, ow, s, d, s', hK, hb, o, r, q⟩
    cases d <;> first | (cases hb; done) | skip
    rename_i ds
    have hb : (if ds.length = ts.length then bindTs ts ds s else none) = some s' := hb
    split at hb
    · rename_i hl
      obtain ⟨a, xs, e1, ht, rl⟩ := r
      exact ⟨a, xs, e1, by rw [hK]; exact ht.sq, by rw [rl.length]; exact hl, g, H0, S, ow, s, ds, s', hK, hb, hl, o, rl, q⟩
    · cases hb
theorem pgs_ok (C : Ctx k gf X) : ∀ (ts : List Tg) (es : List Expr), chkTs k ts es = true → PGs X es (tTgs X.K ts)
  | [], [], h => by
    refine PGsimp pgs_nil ?_
    rintro v σ H Q ⟨g, H0, S, ow, s, d, s', hK, hb, hl, o, r, q⟩
    cases d with
    | nil =>
      cases hb
      have e : v = [] := r
      exact ⟨e, q σ o (fun _ h => h) (fun _ _ => ⟨rfl, rfl⟩) rfl rfl⟩
    | cons _ _ => cases hl
  | t :: ts, e :: es, h => by
    have h' : (chkT k t e && chkTs k ts es) = true := h
    rw [Bool.and_eq_true] at h'
    refine PGsimp (pgs_cons (pg_ok C t e h'.1) (pgs_ok C ts es h'.2) (by rw [asgn_ok h'.1]; rfl)) ?_
    rintro v σ H Q ⟨g, H0, S, ow, s, ds, s', hK, hb, hl, o, r, q⟩
    cases ds with
    | nil => cases hl
    | cons d ds =>
      obtain ⟨x, xs, e1, r1, r2⟩ := r
      have hb : (match bindT t d s with | some s => bindTs ts ds s | none => none) = some s' := hb
      cases hb1 : bindT t d s with
      | none => rw [hb1] at hb; cases hb
      | some s1 =>
        rw [hb1] at hb
        refine ⟨x, xs, e1, g, H0, S, ow, s, d, s1, hK, hb1, o, r1, fun σ1 o1 w1 f1 l1 z1 => ?_⟩
        refine ⟨g, H0, S, ow, s1, ds, s', hK, hb, Nat.succ.inj hl, o1, RpL.mv (Mv.less (Av.less w1)) _ _ r2, fun σ2 o2 w2 f2 l2 z2 => ?_⟩
        refine q σ2 o2 (fun i h => w1 i (w2 i h)) (fun i hi => ?_) (l2.trans l1) (z2.trans z1)
        have hi : i ∉ tgs t ++ tgss ts := hi
        rw [List.mem_append, not_or] at hi
        obtain ⟨a1, a2⟩ := f1 i hi.1
        obtain ⟨b1, b2⟩ := f2 i hi.2
        exact ⟨b1.trans a1, b2.trans a2⟩
  | [], _ :: _, h => by cases h
  | _ :: _, [], h => by cases h
end
end
/-! ### what is walked -/
structure Goes (g : Gb) (J : It) (ds : List D) (N : (Addr → Prop) → Hp → Prop) : Prop where
  go : ∀ A (i : Nat) H, i < ds.length → N A H → J.go i H
  yl : ∀ A (i : Nat) H x H', N A H → J.yld i H x H' → ∀ d, ds[i]? = some d → Same H H' ∧ Rp g H' A d x
  st : ∀ A H, N A H → J.stop ds.length H
  mv : ∀ A B H H', N A H → Mv H H' A B → N B H'
def tSrc (K : PySem.W.Frag) (gf : Gf) (sk : Sk) (es : List Ex) : TI := fun σ H R => ∃ g H0 S ow s ds xs s', K = g.K ∧ evL gf es s = .ok ds s' ∧ items sk ds = some xs ∧ StOk g H0 S ow σ H s ∧
  ∀ J N H', Post g H s s' H' → Goes g J xs N → N (Av S ow s') H' → R J H'
section
variable {X : Cx} {k : Ck} {gf : Gf} {g : Gb}
theorem PIimp {tg a : Expr} {t t' : TI} (h : PI X tg a t) (w : ∀ σ H R, t' σ H R → t σ H R) : PI X tg a t' := ⟨fun pins s σ H R I hq => h.run pins s σ H R I (w σ H R hq)⟩
theorem PIor {tg a : Expr} {t t' : TI} (h : PI X tg a t) (h' : PI X tg a t') : PI X tg a (fun σ H R => t σ H R ∨ t' σ H R) := ⟨fun pins s σ H R I hq => by
  rcases hq with hq | hq
  · exact h.run pins s σ H R I hq
  · exact h'.run pins s σ H R I hq⟩
theorem goes_tup {a : Addr} {ds : List D} : Goes g (Itt g.K a) ds (fun A H => Rp g H A (.tup ds) (.ref a)) := by
  have un : ∀ {A : Addr → Prop} {H : Hp}, Rp g H A (.tup ds) (.ref a) → ∃ xs, SqT g.K H a xs ∧ RpL g H A ds xs := fun {A H} h => by
    obtain ⟨b, xs, e, t, r⟩ := h
    cases e
    exact ⟨xs, t.sq, r⟩
  refine ⟨fun A i H hi h => ?_, fun A i H x H' h y d hd => ?_, fun A H h => ?_, fun A B H H' h m => Rp.mv m _ _ h⟩
  · obtain ⟨xs, t, r⟩ := un h
    obtain ⟨x, h1, _⟩ := r.get (List.getElem?_eq_getElem hi)
    exact ⟨xs, x, t, h1⟩
  · obtain ⟨xs, t, r⟩ := un h
    obtain ⟨e, y⟩ := y
    subst e
    have hx := y xs t
    obtain ⟨x', h1, h2⟩ := r.get hd
    rw [hx] at h1
    cases h1
    exact ⟨Same.refl _, h2⟩
  · obtain ⟨xs, t, r⟩ := un h
    exact ⟨xs, t, by rw [r.length]; exact Nat.le_refl _⟩
theorem goes_lst {a : Addr} {ds : List D} : Goes g (Itl g.K a) ds (fun A H => Rp g H A (.lst ds) (.ref a)) := by
  have un : ∀ {A : Addr → Prop} {H : Hp}, Rp g H A (.lst ds) (.ref a) → ∃ xs, SqL g.K H a xs ∧ RpL g H A ds xs := fun {A H} h => by
    obtain ⟨b, xs, e, _, t, r⟩ := h
    cases e
    exact ⟨xs, sqL_of t, r⟩
  refine ⟨fun A i H hi h => ?_, fun A i H x H' h y d hd => ?_, fun A H h => ?_, fun A B H H' h m => Rp.mv m _ _ h⟩
  · obtain ⟨xs, t, r⟩ := un h
    obtain ⟨x, h1, _⟩ := r.get (List.getElem?_eq_getElem hi)
    exact ⟨xs, x, t, h1⟩
  · obtain ⟨xs, t, r⟩ := un h
    obtain ⟨e, y⟩ := y
    subst e
    have hx := y xs t
    obtain ⟨x', h1, h2⟩ := r.get hd
    rw [hx] at h1
    cases h1
    exact ⟨Same.refl _, h2⟩
  · obtain ⟨xs, t, r⟩ := un h
    exact ⟨xs, t, by rw [r.length]; exact Nat.le_refl _⟩
theorem goes_rng {lo : Int} {n : Nat} : Goes g (Itr lo n) ((List.range n).map fun i => .int (lo + (i : Nat))) (fun _ _ => True) := by
  have hl : ((List.range n).map fun i => D.int (lo + (i : Nat))).length = n := by rw [List.length_map, List.length_range]
  refine ⟨fun A i H hi h => ?_, fun A i H x H' h y d hd => ?_, fun A H h => ?_, fun A B H H' h m => True.intro⟩
  · show i < n
    rw [hl] at hi
    exact hi
  · obtain ⟨e, y⟩ := y
    subst e
    rw [List.getElem?_map] at hd
    have hi : i < n := by
      cases q : (List.range n)[i]? with
      | none => rw [q] at hd; cases hd
      | some j =>
        have := (List.getElem?_eq_some_iff.mp q).1
        rw [List.length_range] at this
        exact this
    rw [List.getElem?_range hi] at hd
    cases hd
    exact ⟨Same.refl _, y⟩
  · show n ≤ _
    rw [hl]
    exact Nat.le_refl _
theorem src_e {tg a : Expr} {e : Ex} (h : PE X a (tE X.K gf e)) : PI X tg a (tSrc X.K gf .e [e]) := by
  refine PIimp (PIor (pi_list h) (pi_tup h)) ?_
  rintro σ H R ⟨g, H0, S, ow, s, ds, xs, s', hK, ev, it, o, q⟩
  obtain ⟨x, s1, e1, ev⟩ := bind_ok ev
  obtain ⟨_, s2, e2, ev⟩ := bind_ok ev
  cases e2
  cases ev
  obtain ⟨kk, d⟩ := x
  cases kk <;> cases d <;> first | (cases it; done) | skip
  · cases it
    refine .inr ⟨g, H0, S, ow, s, .val, _, s', hK, e1, o, fun v H1 p r => ?_⟩
    obtain ⟨a, ys, e3, t, rl⟩ := id r
    refine ⟨a, e3, ⟨ys, by rw [hK]; exact t.sq⟩, ?_⟩
    rw [hK]
    exact q _ _ H1 p goes_tup ⟨a, ys, rfl, t, rl⟩
  · cases it
    refine .inl ⟨g, H0, S, ow, s, .val, _, s', hK, e1, o, fun v H1 p r => ?_⟩
    obtain ⟨a, ys, e3, n, t, rl⟩ := id r
    refine ⟨a, e3, ⟨ys, sqL_of t⟩, ?_⟩
    rw [hK]
    exact q _ _ H1 p goes_lst ⟨a, ys, rfl, n, t, rl⟩
  · cases it
    refine .inl ⟨g, H0, S, ow, s, .fr, _, s', hK, e1, o, fun v H1 p r => ?_⟩
    have rp : Rp g H1 (Av S ow s') _ v := o.rk p r
    obtain ⟨a, ys, e3, n, t, rl⟩ := id rp
    refine ⟨a, e3, ⟨ys, sqL_of t⟩, ?_⟩
    rw [hK]
    exact q _ _ H1 p goes_lst ⟨a, ys, rfl, n, t, rl⟩
theorem src_1 (C : Ctx k gf X) {tg a : Expr} {e : Ex} {p p' : Pos} (hg : glB k ("range" : Str) = true) (h : PE X a (tE X.K gf e)) (hc : chkE k e a = true) : PI X tg (.Call (.Name "range" p') [a] [] p) (tSrc X.K gf .rng1 [e]) := by
  refine PIimp (pi_range1 (gl_ok C hg).1 (C.fr _ (by decide +kernel)) (pa_cons h pa_nil (star_ok hc)) (star_ok hc)) ?_
  rintro σ H R ⟨g, H0, S, ow, s, ds, xs, s', hK, ev, it, o, q⟩
  obtain ⟨x, s1, e1, ev⟩ := bind_ok ev
  obtain ⟨_, s2, e2, ev⟩ := bind_ok ev
  cases e2
  cases ev
  obtain ⟨kk, d⟩ := x
  obtain ⟨n, rfl⟩ : ∃ n, d = .int n := by cases d <;> first | (cases it; done) | exact ⟨_, rfl⟩
  have it : (if -(2 ^ 62) ≤ n ∧ n < 2 ^ 62 then some ((List.range n.toNat).map fun i => D.int (0 + (i : Nat))) else none) = some xs := it
  split at it
  · rename_i hn
    cases it
    refine tE_bind hK e1 o fun v H1 p1 o1 r1 => ?_
    exact ⟨n, by rw [r1.rb.int], hn.1, hn.2, q _ _ H1 p1 goes_rng True.intro⟩
  · cases it
theorem src_2 (C : Ctx k gf X) {tg a b : Expr} {e e' : Ex} {p p' : Pos} (hg : glB k ("range" : Str) = true) (h : PE X a (tE X.K gf e)) (h' : PE X b (tE X.K gf e')) (hc : chkE k e a = true) (hc' : chkE k e' b = true) :
    PI X tg (.Call (.Name "range" p') [a, b] [] p) (tSrc X.K gf .rng2 [e, e']) := by
  refine PIimp (pi_range2 (gl_ok C hg).1 (C.fr _ (by decide +kernel)) (pa_cons h (pa_cons h' pa_nil (star_ok hc')) (star_ok hc)) (by rw [star_ok hc, star_ok hc']; rfl) (by rw [star_ok hc']; rfl)) ?_
  rintro σ H R ⟨g, H0, S, ow, s, ds, xs, s', hK, ev, it, o, q⟩
  obtain ⟨x, s1, e1, ev⟩ := bind_ok ev
  obtain ⟨_, s2, e2, ev⟩ := bind_ok ev
  cases ev
  obtain ⟨y, s3, e3, e2⟩ := bind_ok e2
  obtain ⟨_, s4, e4, e2⟩ := bind_ok e2
  cases e4
  cases e2
  obtain ⟨kk, d⟩ := x
  obtain ⟨kk', d'⟩ := y
  obtain ⟨i, rfl⟩ : ∃ n, d = .int n := by cases d <;> first | (cases it; done) | exact ⟨_, rfl⟩
  obtain ⟨n, rfl⟩ : ∃ n, d' = .int n := by cases d' <;> first | (cases it; done) | exact ⟨_, rfl⟩
  have it : (if -(2 ^ 62) ≤ i ∧ i < 2 ^ 62 ∧ -(2 ^ 62) ≤ n ∧ n < 2 ^ 62 then some ((List.range (n - i).toNat).map fun j => D.int (i + (j : Nat))) else none) = some xs := it
  split at it
  · rename_i hn
    cases it
    refine tE_bind hK e1 o fun v H1 p1 o1 r1 => tE_bind hK e3 o1 fun v2 H2 p2 o2 r2 => ?_
    exact ⟨i, n, by rw [r1.rb.int, r2.rb.int], ⟨hn.1, hn.2.1, hn.2.2.1, hn.2.2.2⟩, q _ _ H2 (p1.trans p2) goes_rng True.intro⟩
  · cases it
end
end Mp
/-! Mp7: comprehensions; every expression. -/
namespace Mp
open PySem PySem.Spec PyProof.Rows L2
theorem wipe_in {σ : L2.St} {i : Nat} : ∀ {vs : List Nat}, i ∈ vs → (wipe σ vs)[i]? = (if i < σ.length then some none else none)
  | v :: vs, h => by
    unfold wipe
    by_cases hi : v = i
    · subst hi
      by_cases hl : v < σ.length
      · rw [List.getElem?_set_self (by rw [wipe_length]; exact hl), if_pos hl]
      · rw [List.getElem?_eq_none (by rw [List.length_set, wipe_length]; omega), if_neg hl]
    · rw [List.getElem?_set_ne hi]
      rcases List.mem_cons.mp h with e | h
      · exact absurd e.symm hi
      · exact wipe_in h
theorem wipe_eq {σ σ2 : L2.St} {vs : List Nat} (hl : σ2.length = σ.length) (h : ∀ i : Nat, i ∉ vs → σ2[i]? = (wipe σ vs)[i]?) : wipe σ2 vs = wipe σ vs := by
  apply List.ext_getElem?
  intro i
  by_cases hi : i ∈ vs
  · rw [wipe_in hi, wipe_in hi, hl]
  · rw [wipe_out hi, h i hi]
/-- the slots behind a block's turn -/
structure RelV (vs : List Nat) (s s' : Sta) : Prop where
  len : s'.sl.length = s.sl.length
  out : ∀ i : Nat, i ∉ vs → s'.sl[i]? = s.sl[i]? ∨ ∃ d, s.sl[i]? = some (some (true, d)) ∧ s'.sl[i]? = some (some (false, d))
  own : ∀ i ∈ vs, ¬ owned s' i
section
variable {g : Gb} {H0 H H' : Hp} {S B : Addr → Prop} {ow : Nat → Addr} {σ : L2.St} {s s' : Sta} {vs : List Nat}
theorem RelV.trans {a b c : Sta} (x : RelV vs a b) (y : RelV vs b c) : RelV vs a c := ⟨y.len.trans x.len, fun i hi => by
  rcases y.out i hi with h | ⟨d, h1, h2⟩
  · rcases x.out i hi with h' | ⟨d, h1, h2⟩
    · exact .inl (h.trans h')
    · exact .inr ⟨d, h1, h.trans h2⟩
  · rcases x.out i hi with h' | ⟨d', h1', h2'⟩
    · exact .inr ⟨d, by rw [← h']; exact h1, h2⟩
    · exact (nomatch h2'.symm.trans h1), y.own⟩
theorem RelV.of_rel (r : Rel s s') (h : ∀ i ∈ vs, ¬ owned s i) : RelV vs s s' := ⟨r.len, fun i _ => r.at_ i, fun i hi ho => h i hi (r.owned ho)⟩
theorem RelV.owned_out (r : RelV vs s s') {i : Nat} (h : owned s' i) : owned s i ∧ i ∉ vs := by
  have hi : i ∉ vs := fun z => r.own i z h
  obtain ⟨d, h⟩ := h
  rcases r.out i hi with q | ⟨d', _, q⟩
  · exact ⟨⟨d, by rw [← q]; exact h⟩, hi⟩
  · rw [q] at h
    cases h
theorem Goes.turn {J : It} {ds : List D} {N : (Addr → Prop) → Hp → Prop} (G : Goes g J ds N) {A : Addr → Prop} {i : Nat} {H : Hp} {x : V} {H' : Hp} {d : D} (n : N A H) (y : J.yld i H x H') (hd : ds[i]? = some d) : Same H H' ∧ Rp g H' A d x ∧ N A H' :=
  ⟨(G.yl A i H x H' n y d hd).1, (G.yl A i H x H' n y d hd).2, G.mv A A H H' n (Mv.same (G.yl A i H x H' n y d hd).1)⟩
end
section
variable {X : Cx} {k : Ck} {gf : Gf}
theorem lcLoop {g : Gb} {H0 H1 : Hp} {S : Addr → Prop} {ow : Nat → Addr} {σ : L2.St} {vs : List Nat} {D : Addr} {s0 s1 : Sta} {ds xs acc0 : List Mp.D} {accV0 : List V} {J : It} {N : (Addr → Prop) → Hp → Prop} {elt : Ex} {ifs : Option Ex} {tg : Tg} {Qd : Hp → Prop}
    (hK : X.K = g.K) (hD : S D) (hD0 : H0 D = none) (hDp : D ≠ g.p) (hDr : D ≠ g.r) (hDc : D ≠ g.c)
    (o : StOk g H0 S ow (wipe σ vs) H1 (wipeS vs s0)) (hfree : ∀ i ∈ vs, ¬ owned s0 i)
    (ev : lcGo (bindT tg) (fun s => evI gf ifs s) (fun s => (evE gf elt s).bind fun x s => R.opt s (toD x)) (wipeS vs) ds s0 = .ok xs s1) (hz : acc0.length + xs.length ≤ sizeLine)
    (hacc : H1 D = some (.lst accV0)) (racc : RpL g H1 (Av S ow (wipeS vs s0)) acc0 accV0) (G : Goes g J ds N) (hN : N (Av S ow (wipeS vs s0)) H1) (htg : ∀ i ∈ tgs tg, i ∈ vs)
    (hd : ∀ H' accV, (∀ b o, b ≠ g.c → b ≠ D → H1 b = some o → H' b = some o) → H' D = some (.lst accV) → RpL g H' (Av S ow (wipeS vs s1)) (acc0 ++ xs) accV → StOk g H0 S ow (wipe σ vs) H' (wipeS vs s1) → RelV vs s0 s1 → Qd H') :
    ∃ W : Nat → Nat → Hp → Prop, (∃ m, W 0 m H1) ∧ ∀ i m H, W i m H → (J.stop i H ∧ Qd H) ∨ (J.go i H ∧ ∃ Nx : Hp → Prop, (∀ H', Nx H' → ∃ m', m' < m ∧ W (i + 1) m' H') ∧ ∀ x H', J.yld i H x H' → tTg X.K tg x (wipe σ vs) H' fun σ2 H2 => wipe σ2 vs = wipe σ vs ∧ tI X.K gf ifs σ2 H2 fun b H3 =>
      if b = true then tE X.K gf elt σ2 H3 fun y H4 => ∃ acc, H4 D = some (.lst acc) ∧ acc.length < sizeLine ∧ Nx (upd H4 D (.lst (acc ++ [y]))) else Nx H3) := by
  refine ⟨fun i m H => ∃ (s : Sta) (acc : List Mp.D) (accV : List V) (xs' : List Mp.D), m = ds.length - i ∧ i ≤ ds.length ∧ lcGo (bindT tg) (fun s => evI gf ifs s) (fun s => (evE gf elt s).bind fun x s => R.opt s (toD x)) (wipeS vs) (ds.drop i) s = .ok xs' s1 ∧ acc ++ xs' = acc0 ++ xs ∧
    (∀ b o, b ≠ g.c → b ≠ D → H1 b = some o → H b = some o) ∧ H D = some (.lst accV) ∧ RpL g H (Av S ow (wipeS vs s)) acc accV ∧ StOk g H0 S ow (wipe σ vs) H (wipeS vs s) ∧ RelV vs s0 s ∧ N (Av S ow (wipeS vs s)) H,
    ⟨_, s0, acc0, accV0, xs, rfl, Nat.zero_le _, ev, rfl, fun _ _ _ _ h => h, hacc, racc, o, ⟨rfl, fun _ _ => .inl rfl, hfree⟩, hN⟩, ?_⟩
  rintro i m H ⟨s, acc, accV, xs', em, hi, ev, eacc, kd, hH, rH, os, rv, nH⟩
  by_cases hlt : i < ds.length
  · -- a turn
    have hdi : ds[i]? = some ds[i] := List.getElem?_eq_getElem hlt
    rw [List.drop_eq_getElem_cons hlt] at ev
    unfold lcGo at ev
    cases hb : bindT tg ds[i] (wipeS vs s) with
    | none => rw [hb] at ev; cases ev
    | some sb =>
    rw [hb] at ev
    obtain ⟨b, s2, e1, ev⟩ := bind_ok ev
    refine .inr ⟨G.go _ i H hlt nH, fun H' => ∃ (s : Sta) (acc : List Mp.D) (accV : List V) (xs' : List Mp.D), (ds.length - (i + 1) = ds.length - (i + 1)) ∧ i + 1 ≤ ds.length ∧ lcGo (bindT tg) (fun s => evI gf ifs s) (fun s => (evE gf elt s).bind fun x s => R.opt s (toD x)) (wipeS vs) (ds.drop (i + 1)) s = .ok xs' s1 ∧ acc ++ xs' = acc0 ++ xs ∧
      (∀ b o, b ≠ g.c → b ≠ D → H1 b = some o → H' b = some o) ∧ H' D = some (.lst accV) ∧ RpL g H' (Av S ow (wipeS vs s)) acc accV ∧ StOk g H0 S ow (wipe σ vs) H' (wipeS vs s) ∧ RelV vs s0 s ∧ N (Av S ow (wipeS vs s)) H', fun H' ⟨s, acc, accV, xs', _, h⟩ => ⟨ds.length - (i + 1), by omega, s, acc, accV, xs', rfl, h⟩, fun x H' y => ?_⟩
    obtain ⟨sm, rx, nH'⟩ := G.turn nH y hdi
    have p0 : Post g H (wipeS vs s) (wipeS vs s) H' := (os.post).more os.sb.w sm
    have o0 := os.mv' p0
    refine ⟨g, H0, S, ow, wipeS vs s, ds[i], sb, hK, hb, o0, rx, fun σ2 o2 w2 f2 l2 z2 => ⟨?_, ?_⟩⟩
    · exact wipe_eq (by rw [← o2.len, l2, wipeS_len, ← wipe_length σ vs, ← os.len, wipeS_len]) fun j hj => (f2 j fun z => hj (htg j z)).1
    have hwipe : wipe σ2 vs = wipe σ vs := wipe_eq (by rw [← o2.len, l2, wipeS_len, ← wipe_length σ vs, ← os.len, wipeS_len]) fun j hj => (f2 j fun z => hj (htg j z)).1
    have rvb : RelV vs s sb := ⟨l2.trans (wipeS_len vs), fun j hj => .inl (by rw [(f2 j fun z => hj (htg j z)).2, wipeS_out hj]), fun j hj ho => (wipeS_owned (w2 j ho)).2 hj⟩
    -- what stays behind any state of the turn
    have keep : ∀ {H3 : Hp} {s3 : Sta}, Post g H' sb s3 H3 → (∀ b o, b ≠ g.c → b ≠ D → H1 b = some o → H3 b = some o) ∧ H3 D = some (.lst accV) ∧ RpL g H3 (Av S ow (wipeS vs s3)) acc accV ∧ StOk g H0 S ow (wipe σ vs) H3 (wipeS vs s3) ∧ RelV vs s0 s3 ∧ N (Av S ow (wipeS vs s3)) H3 := fun {H3 s3} p3 => by
      have o3 := o2.mv' p3
      have r3 : RelV vs sb s3 := RelV.of_rel p3.rel rvb.own
      have lessA : ∀ b, Av S ow (wipeS vs s3) b → Av S ow (wipeS vs s) b := Av.less fun j hj => by
        obtain ⟨h1, h2⟩ := wipeS_owned hj
        exact w2 j (p3.rel.owned h1)
      have kp : Kp g H H3 := (Kp.same sm).trans p3.kp
      have m3 : Mv H H3 (Av S ow (wipeS vs s)) (Av S ow (wipeS vs s3)) := Mv.kp kp (.inl os.sb.sc) lessA
      refine ⟨fun b z n1 n2 e => kp b z n1 (kd b z n1 n2 e), kp _ _ hDc hH, RpL.mv m3 _ _ rH, ?_, (rv.trans rvb).trans r3, G.mv _ _ _ _ nH m3⟩
      have := o3.wipe vs
      rw [hwipe] at this
      exact this
    refine ⟨g, H0, S, ow, sb, b, s2, hK, e1, o2, fun H3 p3 => ?_⟩
    cases b with
    | false => exact iteF ⟨s2, acc, accV, xs', rfl, hlt, ev, eacc, keep p3⟩
    | true =>
      obtain ⟨z, s3, e2, ev⟩ := bind_ok ev
      obtain ⟨xs2, s4, e3, ev⟩ := bind_ok ev
      cases ev
      obtain ⟨y0, s5, e4, e5⟩ := bind_ok e2
      obtain ⟨e5, e6⟩ := opt_ok e5
      subst e6
      have o3 := o2.mv' p3
      refine iteT ⟨g, H0, S, ow, s2, y0.1, y0.2, s5, hK, e4, o3, fun v H4 p4 kv => ?_⟩
      have p34 := p3.trans p4
      obtain ⟨k1, k2, k3, k4, k5, k6⟩ := keep p34
      have o4 := o3.mv' p4
      have rk := o3.rk p4 kv
      have rz : Rp g H4 (Av S ow s5) z v := by
        obtain ⟨kk, d⟩ := y0
        cases kk <;> cases e5
        · exact rk
        · exact rk
      have hlen : accV.length < sizeLine := by
        rw [k3.length]
        have := congrArg List.length eacc
        rw [List.length_append, List.length_append, List.length_cons] at this
        omega
      have mu : Mv H4 (upd H4 D (.lst (accV ++ [v]))) (Av S ow (wipeS vs s5)) (Av S ow (wipeS vs s5)) := Mv.upd (.inl hD)
      refine ⟨accV, k2, hlen, s5, acc ++ [z], accV ++ [v], xs2, rfl, hlt, e3, by rw [← eacc, List.append_assoc]; rfl, fun b u n1 n2 e => ?_, upd_same, ?_, k4.updS hD hD0 hDp hDr hDc, k5, G.mv _ _ _ _ k6 mu⟩
      · rw [upd_ne n2]
        exact k1 b u n1 n2 e
      · refine RpL.mv mu _ _ (k3.append (RpL.one ?_))
        exact Rp.mv (Mv.less (Av.less fun j hj => (wipeS_owned hj).1)) _ _ rz
  · have e : i = ds.length := by omega
    subst e
    rw [List.drop_length] at ev
    cases ev
    rw [List.append_nil] at eacc
    subst eacc
    exact .inl ⟨G.st _ H nH, hd H accV kd hH rH os rv⟩
theorem freeS_ok {vs : List Nat} {s : Sta} (h : freeS vs s = true) : ∀ i ∈ vs, ¬ owned s i := fun i hi ⟨d, e⟩ => by
  have := List.all_eq_true.mp h i hi
  rw [e] at this
  cases this
theorem backS_len {vs : List Nat} {s0 s : Sta} : (backS vs s0 s).sl.length = s.sl.length := by
  induction vs with
  | nil => rfl
  | cons v vs ih =>
    show ((backS vs s0 s).sl.set v _).length = _
    rw [List.length_set, ih]
theorem backS_w {vs : List Nat} {s0 s : Sta} : (backS vs s0 s).w = s.w := by
  induction vs with
  | nil => rfl
  | cons v vs ih => exact ih
theorem backS_out {vs : List Nat} {s0 s : Sta} {i : Nat} (h : i ∉ vs) : (backS vs s0 s).sl[i]? = s.sl[i]? := by
  induction vs with
  | nil => rfl
  | cons v vs ih =>
    show ((backS vs s0 s).sl.set v _)[i]? = _
    rw [List.getElem?_set_ne (fun e => h (by rw [e]; exact List.mem_cons_self)), ih fun m => h (List.mem_cons_of_mem _ m)]
theorem backS_in {vs : List Nat} {s0 s : Sta} {i : Nat} (hl : s.sl.length = s0.sl.length) (h : i ∈ vs) : (backS vs s0 s).sl[i]? = s0.sl[i]? := by
  induction vs with
  | nil => cases h
  | cons v vs ih =>
    show ((backS vs s0 s).sl.set v _)[i]? = _
    by_cases hv : v = i
    · subst hv
      by_cases hlt : v < s0.sl.length
      · rw [List.getElem?_set_self (by rw [backS_len, hl]; exact hlt)]
        rw [List.getElem?_eq_getElem hlt]
        rfl
      · rw [List.getElem?_eq_none (by rw [List.length_set, backS_len, hl]; omega), List.getElem?_eq_none (by omega)]
    · rw [List.getElem?_set_ne hv]
      rcases List.mem_cons.mp h with e | h
      · exact absurd e.symm hv
      · exact ih h
theorem RelV.back {vs : List Nat} {s0 s : Sta} (r : RelV vs s0 s) : Rel s0 (backS vs s0 s) := ⟨backS_len.trans r.len, fun i => by
  by_cases hi : i ∈ vs
  · exact .inl (backS_in r.len hi)
  · rw [backS_out hi]
    exact r.out i hi⟩
/-- the block's context -/
theorem Ctx.blk (C : Ctx k gf X) (scope : Scope) (s : Shared) (H : Hp) (Cc : Addr) (cl : List (Str × Addr)) (fp : List Addr) : Ctx (k.blk scope) gf (X.blk s H scope (compEnvC scope cl Cc X.env) fp) :=
  ⟨C.hN, C.nd, by show relS scope X.env.scope = relS scope k.sc; rw [C.hs], C.calm, C.fr, C.gs, C.fs, C.hu, fun x h => h⟩
theorem lc_start {g : Gb} {H0 H H1 : Hp} {S : Addr → Prop} {ow : Nat → Addr} {σ : L2.St} {s s0 : Sta} {vs : List Nat} {Da : Addr} (o : StOk g H0 S ow σ H s) (p : Post g H s s0 H1) (na : H1 Da = none) :
    StOk g H0 (fun b => S b ∨ b = Da) ow (wipe σ vs) (upd H1 Da (.lst [])) (wipeS vs s0) ∧ H0 Da = none ∧ Da ≠ g.p ∧ Da ≠ g.r ∧ Da ≠ g.c := by
  have o1 := o.mv' p
  have n0 : H0 Da = none := by
    cases q : H0 Da with
    | none => rfl
    | some u =>
      by_cases e : Da = g.c
      · rw [e, p.w.2.2.1] at na
        cases na
      · rw [o1.k0 Da u e q] at na
        cases na
  have p2 : Post g H1 s0 s0 (upd H1 Da (.lst [])) := o1.post.more o1.sb.w (same_new na)
  have o2 : StOk g H0 (fun b => S b ∨ b = Da) ow σ (upd H1 Da (.lst [])) s0 := o1.mv p2 (fun b h => .inl h) (fun b hb nb => by
    rcases hb with hb | hb
    · exact absurd hb nb
    · rw [hb]; exact na) (fun b hb => by
    rcases hb with hb | hb
    · exact o1.trk' p2 b hb
    · rw [hb, upd_same]
      exact fun z => nomatch z)
  refine ⟨o2.wipe vs, n0, fun e => ?_, fun e => ?_, fun e => ?_⟩
  · rw [e, o1.sb.w.1] at na; cases na
  · rw [e, o1.sb.w.2.1] at na; cases na
  · rw [e, o1.sb.w.2.2.1] at na; cases na
/-- the end of a comprehension, in the state's own terms -/
theorem lc_end {g : Gb} {H0 H H1 H' : Hp} {S : Addr → Prop} {ow : Nat → Addr} {σ : L2.St} {s s0 s1 : Sta} {vs : List Nat} {Da : Addr} {xs : List Mp.D} {accV : List V} (o : StOk g H0 S ow σ H s) (p : Post g H s s0 H1) (na : H1 Da = none) (hfree : ∀ i ∈ vs, ¬ owned s0 i)
    (kd : ∀ b o, b ≠ g.c → b ≠ Da → (upd H1 Da (.lst [])) b = some o → H' b = some o) (hH : H' Da = some (.lst accV)) (r : RpL g H' (Av (fun b => S b ∨ b = Da) ow (wipeS vs s1)) xs accV) (o' : StOk g H0 (fun b => S b ∨ b = Da) ow (wipe σ vs) H' (wipeS vs s1)) (rv : RelV vs s0 s1) :
    Post g H s (backS vs s0 s1) H' ∧ KV g S ow H (backS vs s0 s1) H' .fr (.lst xs) (.ref Da) := by
  have kp1 : Kp g H1 H' := fun b u nb e => by
    have ne : b ≠ Da := ne_of_none e na
    exact kd b u nb ne (by rw [upd_ne ne]; exact e)
  refine ⟨⟨p.kp.trans kp1, p.rel.trans rv.back, by
    rw [backS_w]
    have := o'.sb.w
    rw [wipeS_w] at this
    exact this⟩, Da, rfl, p.free Da na, accV, hH, ?_⟩
  refine RpL.mv (Mv.less fun b hb => ?_) _ _ r
  rcases hb with hb | hb
  · rcases hb with hb | ⟨i, hi, e⟩
    · exact .inl (.inl hb)
    · refine .inr ⟨i, ?_, e⟩
      have hi0 : owned s0 i := rv.back.owned hi
      have hin : i ∉ vs := fun z => hfree i z hi0
      obtain ⟨d, hi⟩ := hi
      rw [backS_out hin] at hi
      exact ⟨d, by rw [wipeS_out hin]; exact hi⟩
  · exact .inl (.inr hb)
theorem lc_src {g : Gb} {H1 : Hp} {S : Addr → Prop} {ow : Nat → Addr} {s0 : Sta} {vs : List Nat} {Da : Addr} {J : It} {ds : List Mp.D} {N : (Addr → Prop) → Hp → Prop} (G : Goes g J ds N) (n : N (Av S ow s0) H1) (na : H1 Da = none) : N (Av (fun b => S b ∨ b = Da) ow (wipeS vs s0)) (upd H1 Da (.lst [])) := by
  refine G.mv _ _ _ _ n ⟨fun b u nb e => ?_, fun b hb nb => ?_⟩
  · rw [upd_ne (ne_of_none e na)]
    exact e
  · rcases hb with (hb | hb) | ⟨i, hi, e⟩
    · exact absurd (.inl hb) nb
    · rw [hb]; exact na
    · exact absurd (.inr ⟨i, (wipeS_owned hi).1, e⟩) nb
theorem sd_lc (C : Ctx k gf X) {elt : Ex} {tg : Tg} {sk : Sk} {es : List Ex} {ifs : Option Ex} {own : List (Str × Nat)} {elt' tg' iter' : Expr} {ifs' : List Expr} {scope : Scope} {pos : Pos}
    (hi : PI X tg' iter' (tSrc X.K gf sk es)) (hb : blkC k.N k.sc scope own = true) (ht : chkT (k.blk scope) tg tg' = true) (hv : ∀ i ∈ tgs tg, i ∈ own.map (·.2))
    (hf : ∀ X', Ctx (k.blk scope) gf X' → PTs X' ifs' (tI X'.K gf ifs)) (he : ∀ X', Ctx (k.blk scope) gf X' → PE X' elt' (tE X'.K gf elt)) (hs : ∀ x, foldedSetIterable iter' X.env x = pure x) :
    PE X (.ListComp elt' [⟨tg', iter', ifs', 0⟩] scope pos) (tE X.K gf (.lc elt tg sk es ifs own)) ∧
    ∀ {i : Nat} {y : Str} {py spos : Pos}, X.N[i]? = some y → X.env.scope.names.lookup y = some .local → (py.line == pos.line) = true → (scope.names.any fun (n, k) => n == y && (k == .local || k == .cell)) = false →
      PS X (.Assign [.Name y py] (.ListComp elt' [⟨tg', iter', ifs', 0⟩] scope pos) spos) (tAsg (tE X.K gf (.lc elt tg sk es ifs own)) (gName i)) := by
  have ok : BlkOk X.N X.env.scope scope own := blkOk_by (by rw [C.hN, C.hs]; exact hb)
  have hg : ∀ (s : Shared) (H : Hp) (Cc : Addr) (cl : List (Str × Addr)) (fp : List Addr), PG (X.blk s H scope (compEnvC scope cl Cc X.env) fp) tg' (tTg X.K tg) := fun s H Cc cl fp => pg_ok (C.blk scope s H Cc cl fp) tg tg' ht
  have hf' := fun (s : Shared) (H : Hp) (Cc : Addr) (cl : List (Str × Addr)) (fp : List Addr) => hf _ (C.blk scope s H Cc cl fp)
  have he' := fun (s : Shared) (H : Hp) (Cc : Addr) (cl : List (Str × Addr)) (fp : List Addr) => he _ (C.blk scope s H Cc cl fp)
  have wk : ∀ (σ : L2.St) (H : Hp) (Q : VK), tE X.K gf (.lc elt tg sk es ifs own) σ H Q → tLc (tSrc X.K gf sk es) (tTg X.K tg) (tI X.K gf ifs) (tE X.K gf elt) (own.map (·.2)) σ H Q := by
    rintro σ H Q ⟨g, H0, S, ow, s, kk, d, s', hK, ev, o, q⟩
    obtain ⟨dd, s0, e1, ev⟩ := bind_ok ev
    split at ev
    · rename_i ds eds
      split at eds
      · rename_i hfr
        obtain ⟨xs, s1, e2, ev⟩ := bind_ok ev
        split at ev
        · rename_i hz
          cases ev
          refine ⟨g, H0, S, ow, s, dd, ds, s0, hK, e1, eds, o, fun J N H1 p G n Da na => ?_⟩
          have hfree := freeS_ok hfr
          obtain ⟨o2, n0, np, nr, nc⟩ := lc_start (vs := own.map (·.2)) o p na
          exact lcLoop (X := X) hK (.inr rfl) n0 np nr nc o2 hfree e2 (by simpa using hz) upd_same RpL.nil G (lc_src G n na) hv fun H' accV kd hH r o' rv => by
            obtain ⟨p', kv⟩ := lc_end o p na hfree kd hH r o' rv
            exact q _ H' p' kv
        · cases ev
      · cases eds
    · cases ev
  exact ⟨PEimp (pe_lc C.calm C.nd hi ok hg hf' he' hs) wk, fun {i y py spos} hy hyl hl ha => ⟨fun pins s σ H D' I h => (ps_setLc (i := i) C.calm C.nd hy hyl (sw_true I.ok.kind hyl hl ha) hi ok hg hf' he' hs).run pins s σ H D' I (wk σ H _ h)⟩⟩
theorem sd_lc2 (C : Ctx k gf X) {elt : Ex} {tg tg1 : Tg} {sk sk1 : Sk} {es es1 : List Ex} {ifs1 : Option Ex} {own : List (Str × Nat)} {vs1 : List Nat} {elt' tg' iter' tg1' iter1' : Expr} {ifs1' : List Expr} {scope : Scope} {pos : Pos}
    (hi : PI X tg' iter' (tSrc X.K gf sk es)) (hb : blkC k.N k.sc scope own = true) (ht : chkT (k.blk scope) tg tg' = true) (hv : ∀ i ∈ tgs tg, i ∈ own.map (·.2)) (ht1 : chkT (k.blk scope) tg1 tg1' = true) (hv1 : ∀ i ∈ tgs tg1, i ∈ vs1) (hsub : ∀ i ∈ vs1, i ∈ own.map (·.2))
    (hi1 : ∀ X', Ctx (k.blk scope) gf X' → PI X' tg1' iter1' (tSrc X'.K gf sk1 es1)) (hf : ∀ X', Ctx (k.blk scope) gf X' → PTs X' ifs1' (tI X'.K gf ifs1)) (he : ∀ X', Ctx (k.blk scope) gf X' → PE X' elt' (tE X'.K gf elt)) (hs : ∀ x, foldedSetIterable iter' X.env x = pure x) (hs1 : ∀ env x, foldedSetIterable iter1' env x = pure x) :
    PE X (.ListComp elt' [⟨tg', iter', [], 0⟩, ⟨tg1', iter1', ifs1', 0⟩] scope pos) (tE X.K gf (.lc2 elt tg sk es tg1 sk1 es1 ifs1 own vs1)) ∧
    ∀ {i : Nat} {y : Str} {py spos : Pos}, X.N[i]? = some y → X.env.scope.names.lookup y = some .local → (py.line == pos.line) = true → (scope.names.any fun (n, k) => n == y && (k == .local || k == .cell)) = false →
      PS X (.Assign [.Name y py] (.ListComp elt' [⟨tg', iter', [], 0⟩, ⟨tg1', iter1', ifs1', 0⟩] scope pos) spos) (tAsg (tE X.K gf (.lc2 elt tg sk es tg1 sk1 es1 ifs1 own vs1)) (gName i)) := by
  have ok : BlkOk X.N X.env.scope scope own := blkOk_by (by rw [C.hN, C.hs]; exact hb)
  have hg : ∀ (s : Shared) (H : Hp) (Cc : Addr) (cl : List (Str × Addr)) (fp : List Addr), PG (X.blk s H scope (compEnvC scope cl Cc X.env) fp) tg' (tTg X.K tg) := fun s H Cc cl fp => pg_ok (C.blk scope s H Cc cl fp) tg tg' ht
  have hg1 : ∀ (s : Shared) (H : Hp) (Cc : Addr) (cl : List (Str × Addr)) (fp : List Addr), PG (X.blk s H scope (compEnvC scope cl Cc X.env) fp) tg1' (tTg X.K tg1) := fun s H Cc cl fp => pg_ok (C.blk scope s H Cc cl fp) tg1 tg1' ht1
  have hf' := fun (s : Shared) (H : Hp) (Cc : Addr) (cl : List (Str × Addr)) (fp : List Addr) => hf _ (C.blk scope s H Cc cl fp)
  have he' := fun (s : Shared) (H : Hp) (Cc : Addr) (cl : List (Str × Addr)) (fp : List Addr) => he _ (C.blk scope s H Cc cl fp)
  have hi1' := fun (s : Shared) (H : Hp) (Cc : Addr) (cl : List (Str × Addr)) (fp : List Addr) => hi1 _ (C.blk scope s H Cc cl fp)
  have hn : ∀ (s : Shared) (H : Hp) (Cc : Addr) (cl : List (Str × Addr)) (fp : List Addr), PTs (X.blk s H scope (compEnvC scope cl Cc X.env) fp) [] tYes := fun _ _ _ _ _ => pts_nil
  have wk : ∀ (σ : L2.St) (H : Hp) (Q : VK), tE X.K gf (.lc2 elt tg sk es tg1 sk1 es1 ifs1 own vs1) σ H Q → tLc2 (tSrc X.K gf sk es) (tTg X.K tg) tYes (tSrc X.K gf sk1 es1) (tTg X.K tg1) (tI X.K gf ifs1) (tE X.K gf elt) (own.map (·.2)) vs1 σ H Q := by
    rintro σ H Q ⟨g, H0, S, ow, s, kk, d, s', hK, ev, o, q⟩
    obtain ⟨dd, s0, e1, ev⟩ := bind_ok ev
    split at ev
    · rename_i ds eds
      split at eds
      · rename_i hfr
        obtain ⟨xs, s1, e2, ev⟩ := bind_ok ev
        split at ev
        · rename_i hz
          cases ev
          generalize hvs : own.map (·.2) = vs at hfr e2 q hv hsub ⊢
          refine ⟨g, H0, S, ow, s, dd, ds, s0, hK, e1, eds, o, fun J N H1 p G n Da na => ?_⟩
          have hfree := freeS_ok hfr
          obtain ⟨o2, n0, np, nr, nc⟩ := lc_start (vs := vs) o p na
          generalize hinner : (fun s => (evL gf es1 s).bind fun ds1 s => match items sk1 ds1 with
            | some ds1 => lcGo (bindT tg1) (fun s => evI gf ifs1 s) (fun s => (evE gf elt s).bind fun x s => R.opt s (toD x)) (wipeS vs1) ds1 s
            | none => .bad) = inner at e2
          -- the outer loop
          refine ⟨fun i m H => ∃ (s : Sta) (acc : List Mp.D) (accV : List V) (xs' : List Mp.D), m = ds.length - i ∧ i ≤ ds.length ∧ lcGo2 (bindT tg) inner (wipeS vs) (ds.drop i) s = .ok xs' s1 ∧ acc ++ xs' = xs ∧
            (∀ b o, b ≠ g.c → b ≠ Da → (upd H1 Da (.lst [])) b = some o → H b = some o) ∧ H Da = some (.lst accV) ∧ RpL g H (Av (fun b => S b ∨ b = Da) ow (wipeS vs s)) acc accV ∧ StOk g H0 (fun b => S b ∨ b = Da) ow (wipe σ vs) H (wipeS vs s) ∧ RelV vs s0 s ∧ N (Av (fun b => S b ∨ b = Da) ow (wipeS vs s)) H,
            ⟨_, s0, [], [], xs, rfl, Nat.zero_le _, e2, rfl, fun _ _ _ _ h => h, upd_same, RpL.nil, o2, ⟨rfl, fun _ _ => .inl rfl, hfree⟩, lc_src G n na⟩, ?_⟩
          rintro i m Hc ⟨sc, acc, accV, xs', em, hil, ev, eacc, kd, hH, rH, os, rv, nH⟩
          by_cases hlt : i < ds.length
          · have hdi : ds[i]? = some ds[i] := List.getElem?_eq_getElem hlt
            rw [List.drop_eq_getElem_cons hlt] at ev
            unfold lcGo2 at ev
            cases hbt : bindT tg ds[i] (wipeS vs sc) with
            | none => rw [hbt] at ev; cases ev
            | some sb =>
            rw [hbt] at ev
            obtain ⟨xs1, sOut, e3, ev⟩ := bind_ok ev
            obtain ⟨ys, s3, e4, ev⟩ := bind_ok ev
            cases ev
            rw [← hinner] at e3
            obtain ⟨dd1, sIn, e5, e3⟩ := bind_ok e3
            split at e3
            case h_2 => cases e3
            rename_i ds1 eds1
            refine .inr ⟨G.go _ i Hc hlt nH, fun H => ∃ (s : Sta) (acc : List Mp.D) (accV : List V) (xs' : List Mp.D), (ds.length - (i + 1) = ds.length - (i + 1)) ∧ i + 1 ≤ ds.length ∧ lcGo2 (bindT tg) inner (wipeS vs) (ds.drop (i + 1)) s = .ok xs' s1 ∧ acc ++ xs' = xs ∧
              (∀ b o, b ≠ g.c → b ≠ Da → (upd H1 Da (.lst [])) b = some o → H b = some o) ∧ H Da = some (.lst accV) ∧ RpL g H (Av (fun b => S b ∨ b = Da) ow (wipeS vs s)) acc accV ∧ StOk g H0 (fun b => S b ∨ b = Da) ow (wipe σ vs) H (wipeS vs s) ∧ RelV vs s0 s ∧ N (Av (fun b => S b ∨ b = Da) ow (wipeS vs s)) H,
              fun H' ⟨s, acc, accV, xs', _, h⟩ => ⟨ds.length - (i + 1), by omega, s, acc, accV, xs', rfl, h⟩, fun x H' y => ?_⟩
            obtain ⟨sm, rx, nH'⟩ := G.turn nH y hdi
            have p0 : Post g Hc (wipeS vs sc) (wipeS vs sc) H' := (os.post).more os.sb.w sm
            have o0 := os.mv' p0
            refine ⟨g, H0, _, ow, wipeS vs sc, ds[i], sb, hK, hbt, o0, rx, fun σ2 ob w2 f2 l2 z2 => ?_⟩
            have hwipe : wipe σ2 vs = wipe σ vs := wipe_eq (by rw [← ob.len, l2, wipeS_len, ← wipe_length σ vs, ← os.len, wipeS_len]) fun j hj => (f2 j fun z => hj (hv j z)).1
            refine ⟨hwipe, ?_⟩
            unfold tYes
            show ite (true = true) _ _
            rw [if_pos rfl]
            refine ⟨g, H0, _, ow, sb, dd1, ds1, sIn, hK, e5, eds1, ob, fun J1 N1 H4 p4 G1 n4 => ?_⟩
            have rvb : RelV vs sc sb := ⟨l2.trans (wipeS_len vs), fun j hj => .inl (by rw [(f2 j fun z => hj (hv j z)).2, wipeS_out hj]), fun j hj ho => (wipeS_owned (w2 j ho)).2 hj⟩
            have o4 := ob.mv' p4
            have kp4 : Kp g Hc H4 := (Kp.same sm).trans p4.kp
            have rIn : RelV vs sb sIn := RelV.of_rel p4.rel rvb.own
            have lessIn : ∀ b, Av (fun b => S b ∨ b = Da) ow (wipeS vs1 sIn) b → Av (fun b => S b ∨ b = Da) ow (wipeS vs sc) b := Av.less fun j hj => w2 j (p4.rel.owned (wipeS_owned hj).1)
            have mIn : Mv Hc H4 (Av (fun b => S b ∨ b = Da) ow (wipeS vs sc)) (Av (fun b => S b ∨ b = Da) ow (wipeS vs1 sIn)) := Mv.kp kp4 (.inl os.sb.sc) lessIn
            have elen := congrArg List.length eacc
            rw [List.length_append, List.length_append] at elen
            refine lcLoop (X := X) (S := fun b => S b ∨ b = Da) hK (.inr rfl) n0 np nr nc (o4.wipe vs1) (fun j hj ho => rIn.own j (hsub j hj) ho) e3 (by omega) (kp4 _ _ nc hH) (RpL.mv mIn _ _ rH) G1 (G1.mv _ _ _ _ n4 (Mv.less (Av.less fun j hj => (wipeS_owned hj).1))) hv1 fun H' accV' kd' hH' r' o' rv' => ?_
            have hin1 : ∀ {j : Nat}, j ∉ vs → j ∉ vs1 := fun {j} h z => h (hsub j z)
            have rO : RelV vs sIn sOut := ⟨rv'.len, fun j hj => rv'.out j (hin1 hj), fun j hj ho => rIn.own j hj (rv'.owned_out ho).1⟩
            have less2 : ∀ j, owned (wipeS vs sOut) j → owned (wipeS vs1 sOut) j := fun j hj => by
              obtain ⟨⟨d, h1⟩, h2⟩ := wipeS_owned hj
              exact ⟨d, by rw [wipeS_out (hin1 h2)]; exact h1⟩
            have lessO : ∀ b, Av (fun b => S b ∨ b = Da) ow (wipeS vs sOut) b → Av (fun b => S b ∨ b = Da) ow (wipeS vs sc) b := Av.less fun j hj => by
              obtain ⟨h1, h2⟩ := wipeS_owned hj
              exact w2 j (p4.rel.owned (rv'.owned_out h1).1)
            have mO : Mv Hc H' (Av (fun b => S b ∨ b = Da) ow (wipeS vs sc)) (Av (fun b => S b ∨ b = Da) ow (wipeS vs sOut)) := ⟨fun b u nb e => by
              have n1 : b ≠ g.c := fun z => nb (.inl (by rw [z]; exact os.sb.sc))
              have n2 : b ≠ Da := fun z => nb (.inl (.inr z))
              exact kd' b u n1 n2 (kp4 b u n1 e), fun b hb nb => absurd (lessO b hb) nb⟩
            refine ⟨sOut, acc ++ xs1, accV', ys, rfl, hlt, e4, by rw [List.append_assoc]; exact eacc, fun b u n1 n2 e => kd' b u n1 n2 (kp4 b u n1 (kd b u n1 n2 e)), hH', RpL.mv (Mv.less (Av.less less2)) _ _ r', ?_, ((rv.trans rvb).trans rIn).trans rO, G.mv _ _ _ _ nH mO⟩
            refine o'.weak less2 (fun j x h => ?_) (by rw [wipeS_len, wipe_length]; have := o'.len; rw [wipeS_len, wipe_length] at this; rw [this, ← wipe_length σ2 vs, hwipe, wipe_length]) (by rw [wipeS_w, wipeS_w])
            obtain ⟨h1, h2⟩ := wipeS_at h
            exact ⟨by rw [wipeS_out (hin1 h2)]; exact h1, by rw [← hwipe, wipe_out h2, wipe_out (hin1 h2)]⟩
          · have e : i = ds.length := by omega
            subst e
            rw [List.drop_length] at ev
            cases ev
            rw [List.append_nil] at eacc
            subst eacc
            obtain ⟨p', kv⟩ := lc_end o p na hfree kd hH rH os rv
            exact .inl ⟨G.st _ Hc nH, q _ Hc p' kv⟩
        · cases ev
      · cases eds
    · cases ev
  exact ⟨PEimp (pe_lc2 C.calm C.nd hi ok hsub hg hn hi1' hg1 hf' he' hs hs1) wk, fun {i y py spos} hy hyl hl ha => ⟨fun pins s σ H D' I h => (ps_setLc2 (i := i) C.calm C.nd hy hyl (sw_true I.ok.kind hyl hl ha) hi ok hsub hg hn hi1' hg1 hf' he' hs hs1).run pins s σ H D' I (wk σ H _ h)⟩⟩
end
end Mp
/-! Mp8: every expression; statements. -/
namespace Mp
open PySem PySem.Spec PyProof.Rows L2
section
variable {X : Cx} {k : Ck} {gf : Gf} {a : Expr}
/-- what a term does, as a value, as a test, as a tail of and, or -/
def Snd (gf : Gf) (X : Cx) (e : Ex) (a : Expr) : Prop := PE X a (tE X.K gf e) ∧ (testB e = true → PT X a (tT X.K gf e)) ∧ (testB e = true → ∀ op bs p, a = .BoolOp op bs p → PW X a (tT X.K gf e))
/-- not a comparison, not a not, no and, or, no if -/
def plainT : Expr → Bool
  | .UnaryOp .Not _ _ => false
  | .BoolOp _ _ _ => false
  | .IfExp _ _ _ _ => false
  | .Compare _ _ _ _ => false
  | _ => true
theorem plainT_ok (h : plainT a = true) {env : Env} : ∀ whole, isTrue a env whole = (do let v ← whole; standAt a.pos; holding [v] (truthy v)) := by
  intro w
  cases a with
  | UnaryOp op b p => cases op <;> first | (cases h; done) | rfl
  | BoolOp => cases h
  | IfExp => cases h
  | Compare => cases h
  | _ => rfl
theorem Snd.of {e : Ex} (h : PE X a (tE X.K gf e)) (hp : plainT a = true) : Snd gf X e a := ⟨h, fun _ => PT_of h (plainT_ok hp), fun _ op bs p e => by rw [e] at hp; cases hp⟩
theorem and2 {a b : Bool} (h : (a && b) = true) : a = true ∧ b = true := Bool.and_eq_true_iff.mp h
theorem tail_pe {op : BoolOp} {b : Expr} {rest : List Expr} {p : Pos} {t : TE} (h : PE X (tailB op b rest p) t) : PE X (.BoolOp op (b :: rest) p) t := by
  cases rest with
  | nil => exact pe_one h
  | cons _ _ => exact h
theorem tail_and {e : Ex} {b : Expr} {rest : List Expr} {p : Pos} (h : Snd gf X e (tailB .And b rest p)) (ht : testB e = true) : PW X (.BoolOp .And (b :: rest) p) (tT X.K gf e) := by
  cases rest with
  | nil => exact pw_and1 (h.2.1 ht)
  | cons _ _ => exact h.2.2 ht _ _ _ rfl
theorem tail_or {e : Ex} {b : Expr} {rest : List Expr} {p : Pos} (h : Snd gf X e (tailB .Or b rest p)) (ht : testB e = true) : PW X (.BoolOp .Or (b :: rest) p) (tT X.K gf e) := by
  cases rest with
  | nil => exact pw_or1 (h.2.1 ht)
  | cons _ _ => exact h.2.2 ht _ _ _ rfl
/-- how a source is held against the text -/
def chkSrc (k : Ck) (sk : Sk) (es : List Ex) (i : Expr) : Bool := match srcA k sk i with | some l => chkL k es l | none => false
inductive SrcOf (k : Ck) : Sk → Expr → List Expr → Prop where
  | e (i : Expr) : SrcOf k .e i [i]
  | r1 (p p' : Pos) (a : Expr) : glB k ("range" : Str) = true → SrcOf k .rng1 (.Call (.Name "range" p') [a] [] p) [a]
  | r2 (p p' : Pos) (a b : Expr) : glB k ("range" : Str) = true → SrcOf k .rng2 (.Call (.Name "range" p') [a, b] [] p) [a, b]
theorem srcA_of {sk : Sk} {i : Expr} {l : List Expr} (h : srcA k sk i = some l) : SrcOf k sk i l := by
  unfold srcA at h
  split at h
  · cases h
    exact .e _
  · split at h
    · rename_i hx
      cases h
      obtain ⟨rfl, hg⟩ := hx
      exact .r1 _ _ _ hg
    · cases h
  · split at h
    · rename_i hx
      cases h
      obtain ⟨rfl, hg⟩ := hx
      exact .r2 _ _ _ _ hg
    · cases h
  · cases h
theorem src_set {sk : Sk} {es : List Ex} {i : Expr} (h : chkSrc k sk es i = true) : ∀ env x, foldedSetIterable i env x = pure x := by
  unfold chkSrc at h
  split at h
  · rename_i l hl
    cases srcA_of hl with
    | e =>
      cases es with
      | nil => cases h
      | cons e es => exact fun env x => set_ok (and2 (show (chkE k e i && chkL k es []) = true from h)).1 x
    | r1 p p' b hg => exact fun _ _ => rfl
    | r2 p p' b c hg => exact fun _ _ => rfl
  · cases h
/-- a source, its terms known to be sound -/
theorem src_ok (C : Ctx k gf X) {sk : Sk} {es : List Ex} {i tg : Expr} (h : chkSrc k sk es i = true) (hs : ∀ e ∈ es, ∀ a, chkE k e a = true → PE X a (tE X.K gf e)) : PI X tg i (tSrc X.K gf sk es) ∧ ∀ env x, foldedSetIterable i env x = pure x := by
  unfold chkSrc at h
  split at h
  · rename_i l hl
    have S := srcA_of hl
    cases S with
    | e =>
      cases es with
      | nil => cases h
      | cons e es =>
        obtain ⟨h1, h2⟩ := and2 (show (chkE k e i && chkL k es []) = true from h)
        have : es = [] := chkL_nil h2
        subst this
        exact ⟨src_e (hs e List.mem_cons_self _ h1), fun env x => set_ok h1 x⟩
    | r1 p p' b hg =>
      cases es with
      | nil => cases h
      | cons e es =>
        obtain ⟨h1, h2⟩ := and2 (show (chkE k e b && chkL k es []) = true from h)
        have : es = [] := chkL_nil h2
        subst this
        exact ⟨src_1 C hg (hs e List.mem_cons_self _ h1) h1, fun _ _ => rfl⟩
    | r2 p p' b c hg =>
      match es, h, hs with
      | [], h, _ => cases h
      | [e], h, _ =>
        obtain ⟨h1, h2⟩ := and2 (show (chkE k e b && chkL k [] [c]) = true from h)
        cases h2
      | e :: e' :: es, h, hs =>
        obtain ⟨h1, h2⟩ := and2 (show (chkE k e b && (chkE k e' c && chkL k es [])) = true from h)
        obtain ⟨h4, h3⟩ := and2 h2
        have q : es = [] := chkL_nil h3
        subst q
        exact ⟨src_2 C hg (hs e List.mem_cons_self _ h1) (hs e' (List.mem_cons_of_mem _ List.mem_cons_self) _ h4) h1 h4, fun _ _ => rfl⟩
  · cases h
end
mutual
theorem soundE (gf : Gf) : ∀ (e : Ex) (k : Ck) (X : Cx) (a : Expr), chkE k e a = true → Ctx k gf X → Snd gf X e a
  | .v i, k, X, a, h, C => by
    cases a <;> first | (cases h; done) | skip
    exact .of (PEimp (vis_ok C h) fun _ _ _ => wk_var) rfl
  | .b i, k, X, a, h, C => by
    cases a <;> first | (cases h; done) | skip
    exact .of (PEimp (vis_ok C h) fun _ _ _ => wk_bor) rfl
  | .k c, k, X, a, h, C => by
    cases a <;> first | (cases h; done) | skip
    exact .of (sd_k h) rfl
  | .g x c, k, X, a, h, C => by
    cases a <;> first | (cases h; done) | skip
    rename_i y p
    obtain ⟨h1, h2⟩ := and2 (show (decide (x = y) && _) = true from h)
    have e : x = y := of_decide_eq_true h1
    subst e
    exact .of (sd_g C h) rfl
  | .tup es, k, X, a, h, C => by
    cases a <;> first | (cases h; done) | skip
    rename_i as j p
    obtain ⟨h1, h2⟩ := and2 (show (decide (es.length ≤ 1000) && chkL k es as) = true from h)
    exact .of (sd_tup (soundL gf es k X as h2 C) (of_decide_eq_true h1)) rfl
  | .lst es, k, X, a, h, C => by
    cases a <;> first | (cases h; done) | skip
    rename_i as p
    obtain ⟨h1, h2⟩ := and2 (show (decide (es.length ≤ 1000) && chkL k es as) = true from h)
    exact .of (sd_lst (soundL gf es k X as h2 C) (of_decide_eq_true h1)) rfl
  | .bin op e1 e2, k, X, a, h, C => by
    cases a <;> first | (cases h; done) | skip
    rename_i a1 op' a2 p
    obtain ⟨h1, h2⟩ := and2 (show (decide (op = op') && (chkE k e1 a1 && chkE k e2 a2)) = true from h)
    obtain ⟨h2, h3⟩ := and2 h2
    have e : op = op' := of_decide_eq_true h1
    subst e
    exact .of (sd_bin (soundE gf e1 k X a1 h2 C).1 (soundE gf e2 k X a2 h3 C).1) rfl
  | .neg e1, k, X, a, h, C => by
    cases a <;> first | (cases h; done) | skip
    rename_i op a1 p
    cases op <;> first | (cases h; done) | skip
    exact .of (sd_neg (soundE gf e1 k X a1 h C).1) rfl
  | .nt e1, k, X, a, h, C => by
    cases a <;> first | (cases h; done) | skip
    rename_i op a1 p
    cases op <;> first | (cases h; done) | skip
    obtain ⟨s1, s2, s3⟩ := soundE gf e1 k X a1 h C
    exact ⟨sd_nt s1, fun t => st_nt (s2 t), fun _ _ _ _ e => nomatch e⟩
  | .cmp op e1 e2, k, X, a, h, C => by
    cases a <;> first | (cases h; done) | skip
    rename_i a1 ops cs p
    match ops, cs, h with
    | [op'], [a2], h =>
      obtain ⟨h1, h2⟩ := and2 (show (decide (op = op') && (chkE k e1 a1 && chkE k e2 a2)) = true from h)
      obtain ⟨h2, h3⟩ := and2 h2
      have e : op = op' := of_decide_eq_true h1
      subst e
      have s1 := (soundE gf e1 k X a1 h2 C).1
      have s2 := (soundE gf e2 k X a2 h3 C).1
      exact ⟨sd_cmp C s1 s2 h3, fun _ => st_cmp C s1 s2 h3, fun _ _ _ _ e => nomatch e⟩
    | [], _, h => cases h
    | [_], [], h => cases h
    | [_], _ :: _ :: _, h => cases h
    | _ :: _ :: _, _, h => cases h
  | .chn o1 o2 e1 e2 e3, k, X, a, h, C => by
    cases a <;> first | (cases h; done) | skip
    rename_i a1 ops cs p
    match ops, cs, h with
    | [p1, p2], [a2, a3], h =>
      obtain ⟨h1, h2⟩ := and2 (show (decide (o1 = p1 ∧ o2 = p2) && (chkE k e1 a1 && (chkE k e2 a2 && chkE k e3 a3))) = true from h)
      obtain ⟨h2, h3⟩ := and2 h2
      obtain ⟨h3, h4⟩ := and2 h3
      obtain ⟨q1, q2⟩ := of_decide_eq_true h1
      subst q1 q2
      have s1 := (soundE gf e1 k X a1 h2 C).1
      have s2 := (soundE gf e2 k X a2 h3 C).1
      have s3 := (soundE gf e3 k X a3 h4 C).1
      exact ⟨sd_chn C s1 s2 s3 h4, fun _ => st_chn C s1 s2 s3 h4, fun _ _ _ _ e => nomatch e⟩
    | [], _, h => cases h
    | [_], _, h => cases h
    | [_, _], [], h => cases h
    | [_, _], [_], h => cases h
    | [_, _], _ :: _ :: _ :: _, h => cases h
    | _ :: _ :: _ :: _, _, h => cases h
  | .and e1 e2, k, X, a, h, C => by
    cases a <;> first | (cases h; done) | skip
    rename_i op bs p
    match op, bs, h with
    | .And, a1 :: b :: rest, h =>
      obtain ⟨h1, h2⟩ := and2 (show (chkE k e1 a1 && chkE k e2 (tailB .And b rest p)) = true from h)
      have s1 := soundE gf e1 k X a1 h1 C
      have s2 := soundE gf e2 k X _ h2 C
      have w : testB (.and e1 e2) = true → PW X (.BoolOp .And (a1 :: b :: rest) p) (tT X.K gf (.and e1 e2)) := fun t => by
        obtain ⟨t1, t2⟩ := and2 (show (testB e1 && testB e2) = true from t)
        exact sw_and (s1.2.1 t1) (tail_and s2 t2)
      exact ⟨sd_and s1.1 (tail_pe s2.1), fun t => (w t).pt, fun t _ _ _ e => by cases e; exact w t⟩
    | .And, [], h => cases h
    | .And, [_], h => cases h
    | .Or, _, h => cases h
  | .or e1 e2, k, X, a, h, C => by
    cases a <;> first | (cases h; done) | skip
    rename_i op bs p
    match op, bs, h with
    | .Or, a1 :: b :: rest, h =>
      obtain ⟨h1, h2⟩ := and2 (show (chkE k e1 a1 && chkE k e2 (tailB .Or b rest p)) = true from h)
      have s1 := soundE gf e1 k X a1 h1 C
      have s2 := soundE gf e2 k X _ h2 C
      have w : testB (.or e1 e2) = true → PW X (.BoolOp .Or (a1 :: b :: rest) p) (tT X.K gf (.or e1 e2)) := fun t => by
        obtain ⟨t1, t2⟩ := and2 (show (testB e1 && testB e2) = true from t)
        exact sw_or (s1.2.1 t1) (tail_or s2 t2)
      exact ⟨sd_or s1.1 (tail_pe s2.1), fun t => (w t).pt, fun t _ _ _ e => by cases e; exact w t⟩
    | .Or, [], h => cases h
    | .Or, [_], h => cases h
    | .And, _, h => cases h
  | .ite e0 e1 e2, k, X, a, h, C => by
    cases a <;> first | (cases h; done) | skip
    rename_i a0 a1 a2 p
    obtain ⟨h0, h1⟩ := and2 (show (testB e0 && (chkE k e0 a0 && (chkE k e1 a1 && chkE k e2 a2))) = true from h)
    obtain ⟨h1, h2⟩ := and2 h1
    obtain ⟨h2, h3⟩ := and2 h2
    exact ⟨sd_ite ((soundE gf e0 k X a0 h1 C).2.1 h0) (soundE gf e1 k X a1 h2 C).1 (soundE gf e2 k X a2 h3 C).1, fun t => (nomatch t), fun t => (nomatch t)⟩
  | .ix e1 e2, k, X, a, h, C => by
    cases a <;> first | (cases h; done) | skip
    rename_i a1 a2 p
    obtain ⟨h1, h2⟩ := and2 (show (chkE k e1 a1 && chkE k e2 a2) = true from h)
    exact .of (sd_ix (soundE gf e1 k X a1 h1 C).1 (soundE gf e2 k X a2 h2 C).1 h2) rfl
  | .sl e1 lo hi, k, X, a, h, C => by
    cases a <;> first | (cases h; done) | skip
    rename_i a1 a2 p
    cases a2 <;> first | (cases h; done) | skip
    rename_i lo' hi' st p2
    cases st with
    | some _ => cases h
    | none =>
      obtain ⟨h1, h2⟩ := and2 (show (chkE k e1 a1 && (chkO k lo lo' && chkO k hi hi')) = true from h)
      obtain ⟨h2, h3⟩ := and2 h2
      exact .of (sd_sl (soundE gf e1 k X a1 h1 C).1 (soundO gf lo k X lo' h2 C) (soundO gf hi k X hi' h3 C)) rfl
  | .call f es, k, X, a, h, C => by
    cases a <;> first | (cases h; done) | skip
    rename_i fn as kw p
    cases fn <;> first | (cases h; done) | skip
    rename_i x p'
    cases kw with
    | cons _ _ => cases h
    | nil =>
      obtain ⟨h1, h2⟩ := and2 (show (decide (k.fs[f]? = some x) && (glB k x && (chkL k es as && decide (es ≠ [])))) = true from h)
      obtain ⟨h5, h6⟩ := and2 h2
      obtain ⟨h3, h4⟩ := and2 h6
      cases as with
      | nil => exact absurd (chkL_nil h3) (of_decide_eq_true h4)
      | cons b as => exact .of (sd_call C (soundL gf es k X _ h3 C) (of_decide_eq_true h1) h5 h3) rfl
  | .bi b es, k, X, a, h, C => by
    cases a <;> first | (cases h; done) | skip
    rename_i fn as kw p
    cases fn <;> first | (cases h; done) | skip
    rename_i x p'
    cases kw with
    | cons _ _ => cases h
    | nil =>
      obtain ⟨h1, h2⟩ := and2 (show (decide (x = b.s) && (glB k x && (chkL k es as && decide (es ≠ [])))) = true from h)
      obtain ⟨h5, h6⟩ := and2 h2
      obtain ⟨h3, h4⟩ := and2 h6
      cases as with
      | nil => exact absurd (chkL_nil h3) (of_decide_eq_true h4)
      | cons b0 as => exact .of (sd_bi C (soundL gf es k X _ h3 C) (of_decide_eq_true h1) h5 h3) rfl
  | .isi t e1, k, X, a, h, C => by
    cases a <;> first | (cases h; done) | skip
    rename_i fn as kw p
    cases fn <;> first | (cases h; done) | skip
    rename_i x p'
    match as, kw, h with
    | [a1, .Name y p2], [], h =>
      obtain ⟨h1, h2⟩ := and2 (show (decide (x = ("isinstance" : Str)) && (glB k x && (decide (y = Str.ofString t.s) && (glB k y && chkE k e1 a1)))) = true from h)
      obtain ⟨h2, h3⟩ := and2 h2
      obtain ⟨h3, h4⟩ := and2 h3
      obtain ⟨h4, h5⟩ := and2 h4
      exact .of (sd_isi C (soundE gf e1 k X a1 h5 C).1 (of_decide_eq_true h1) h2 (of_decide_eq_true h3) h4 h5) rfl
    | [], _, h => simp [chkE] at h
    | [_], _, h => simp [chkE] at h
    | _ :: _ :: _ :: _, _, h => simp [chkE] at h
    | [_, _], _ :: _, h => simp [chkE] at h
    | [_, .Call _ _ _ _], [], h => simp [chkE] at h
    | [_, .BoolOp _ _ _], [], h => simp [chkE] at h
    | [_, .NamedExpr _ _ _], [], h => simp [chkE] at h
    | [_, .BinOp _ _ _ _], [], h => simp [chkE] at h
    | [_, .UnaryOp _ _ _], [], h => simp [chkE] at h
    | [_, .Lambda _ _ _ _], [], h => simp [chkE] at h
    | [_, .IfExp _ _ _ _], [], h => simp [chkE] at h
    | [_, .Dict _ _ _], [], h => simp [chkE] at h
    | [_, .Set _ _ _], [], h => simp [chkE] at h
    | [_, .ListComp _ _ _ _], [], h => simp [chkE] at h
    | [_, .SetComp _ _ _ _], [], h => simp [chkE] at h
    | [_, .DictComp _ _ _ _ _], [], h => simp [chkE] at h
    | [_, .GeneratorExp _ _ _ _], [], h => simp [chkE] at h
    | [_, .Await _ _], [], h => simp [chkE] at h
    | [_, .Yield _ _], [], h => simp [chkE] at h
    | [_, .YieldFrom _ _], [], h => simp [chkE] at h
    | [_, .Compare _ _ _ _], [], h => simp [chkE] at h
    | [_, .FormattedValue _ _ _ _], [], h => simp [chkE] at h
    | [_, .JoinedStr _ _], [], h => simp [chkE] at h
    | [_, .Constant _ _ _], [], h => simp [chkE] at h
    | [_, .Attribute _ _ _], [], h => simp [chkE] at h
    | [_, .Subscript _ _ _], [], h => simp [chkE] at h
    | [_, .Starred _ _], [], h => simp [chkE] at h
    | [_, .List _ _], [], h => simp [chkE] at h
    | [_, .Tuple _ _ _], [], h => simp [chkE] at h
    | [_, .Slice _ _ _ _], [], h => simp [chkE] at h
  | .mt m e1, k, X, a, h, C => by
    cases a <;> first | (cases h; done) | skip
    rename_i fn as kw p
    cases fn <;> first | (cases h; done) | skip
    rename_i a1 nm ap
    match as, kw, h with
    | [], [], h =>
      obtain ⟨h1, h2⟩ := and2 (show (decide (nm = m.s) && (decide ((ap.endLine == p.line) = true) && chkE k e1 a1)) = true from h)
      obtain ⟨h2, h3⟩ := and2 h2
      exact .of (sd_mt C (soundE gf e1 k X a1 h3 C).1 (of_decide_eq_true h1) (of_decide_eq_true h2) h3) rfl
    | _ :: _, _, h => cases h
    | [], _ :: _, h => cases h
  | .lc elt tg sk es ifs own, k, X, a, h, C => by
    cases a <;> first | (cases h; done) | skip
    rename_i elt' gs scope p
    match gs, h with
    | [⟨tg', iter', ifs', as'⟩], h =>
      obtain ⟨h1, h2⟩ := and2 (show (decide (as' = 0 ∧ ∀ i ∈ tgs tg, i ∈ own.map (·.2)) && (blkC k.N k.sc scope own && (chkSrc k sk es iter' && (chkT (k.blk scope) tg tg' && (chkI (k.blk scope) ifs ifs' && chkE (k.blk scope) elt elt'))))) = true from h)
      obtain ⟨h2, h3⟩ := and2 h2
      obtain ⟨h3, h4⟩ := and2 h3
      obtain ⟨h4, h5⟩ := and2 h4
      obtain ⟨h5, h6⟩ := and2 h5
      obtain ⟨q1, q2⟩ := of_decide_eq_true h1
      subst q1
      obtain ⟨sp, sf⟩ := src_ok (tg := tg') C h3 (soundM gf es k X C)
      exact .of (sd_lc C sp h2 h4 q2 (fun X' C' => soundI gf ifs _ X' ifs' h5 C') (fun X' C' => (soundE gf elt _ X' elt' h6 C').1) (sf X.env)).1 rfl
    | [], h => simp [chkE] at h
    | _ :: _ :: _, h => simp [chkE] at h
  | .lc2 elt tg sk es tg1 sk1 es1 ifs1 own vs1, k, X, a, h, C => by
    cases a <;> first | (cases h; done) | skip
    rename_i elt' gs scope p
    match gs, h with
    | [⟨tg', iter', [], as'⟩, ⟨tg1', iter1', ifs1', as1'⟩], h =>
      obtain ⟨h1, h2⟩ := and2 (show (decide (as' = 0 ∧ as1' = 0 ∧ (∀ i ∈ tgs tg, i ∈ own.map (·.2)) ∧ (∀ i ∈ tgs tg1, i ∈ vs1)) && (blkC k.N k.sc scope own && (chkSrc k sk es iter' &&
        (chkT (k.blk scope) tg tg' && (chkSrc (k.blk scope) sk1 es1 iter1' && (chkT (k.blk scope) tg1 tg1' && (chkI (k.blk scope) ifs1 ifs1' && (chkE (k.blk scope) elt elt' && decide (∀ i ∈ vs1, i ∈ own.map (·.2)))))))))) = true from h)
      obtain ⟨h3, h2⟩ := and2 h2
      obtain ⟨h4, h2⟩ := and2 h2
      obtain ⟨h5, h2⟩ := and2 h2
      obtain ⟨h6, h2⟩ := and2 h2
      obtain ⟨h7, h2⟩ := and2 h2
      obtain ⟨h8, h2⟩ := and2 h2
      obtain ⟨h9, h10⟩ := and2 h2
      obtain ⟨q1, q2, q3, q4⟩ := of_decide_eq_true h1
      subst q1 q2
      obtain ⟨sp, sf⟩ := src_ok (tg := tg') C h4 (soundM gf es k X C)
      have s1 := fun X' (C' : Ctx (k.blk scope) gf X') => src_ok (tg := tg1') C' h6 (soundM gf es1 _ X' C')
      have s2 : ∀ env x, foldedSetIterable iter1' env x = pure x := src_set h6
      exact .of (sd_lc2 C sp h3 h5 q3 h7 q4 (of_decide_eq_true h10) (fun X' C' => (s1 X' C').1) (fun X' C' => soundI gf ifs1 _ X' ifs1' h8 C') (fun X' C' => (soundE gf elt _ X' elt' h9 C').1) (sf X.env) s2).1 rfl
    | [], h => simp [chkE] at h
    | [_], h => simp [chkE] at h
    | [⟨_, _, _ :: _, _⟩, _], h => simp [chkE] at h
    | _ :: _ :: _ :: _, h => simp [chkE] at h
theorem soundM (gf : Gf) : ∀ (es : List Ex) (k : Ck) (X : Cx), Ctx k gf X → ∀ e ∈ es, ∀ a, chkE k e a = true → PE X a (tE X.K gf e)
  | [], k, X, C => fun _ h => nomatch h
  | e :: es, k, X, C => fun e' he a ha => by
    rcases List.mem_cons.mp he with q | q
    · rw [q] at ha ⊢
      exact (soundE gf e k X a ha C).1
    · exact soundM gf es k X C e' q a ha
theorem soundL (gf : Gf) : ∀ (es : List Ex) (k : Ck) (X : Cx) (as : List Expr), chkL k es as = true → Ctx k gf X → PA X as (tL X.K gf es)
  | [], k, X, as, h, C => by
    cases as with
    | nil => exact pa_of_nil
    | cons _ _ => cases h
  | e :: es, k, X, as, h, C => by
    cases as with
    | nil => cases h
    | cons a as =>
      obtain ⟨h1, h2⟩ := and2 (show (chkE k e a && chkL k es as) = true from h)
      exact pa_of_cons (soundE gf e k X a h1 C).1 (soundL gf es k X as h2 C) h1
theorem soundO (gf : Gf) : ∀ (e : Option Ex) (k : Ck) (X : Cx) (a : Option Expr), chkO k e a = true → Ctx k gf X → PO X a (tO X.K gf e)
  | none, k, X, a, h, C => by
    cases a with
    | none => exact po_of_none
    | some _ => cases h
  | some e, k, X, a, h, C => by
    cases a with
    | none => cases h
    | some a => exact po_of_some (soundE gf e k X a h C).1
theorem soundI (gf : Gf) : ∀ (e : Option Ex) (k : Ck) (X : Cx) (a : List Expr), chkI k e a = true → Ctx k gf X → PTs X a (tI X.K gf e)
  | none, k, X, a, h, C => by
    cases a with
    | nil =>
      refine ⟨fun pins s σ H Q I hq => (pts_nil (X := X)).run pins s σ H Q I ?_⟩
      obtain ⟨g, H0, S, ow, s, b, s', hK, ev, o, q⟩ := hq
      cases ev
      exact q H o.post
    | cons _ _ => cases h
  | some e, k, X, a, h, C => by
    match a, h with
    | [], h => cases h
    | [a], h =>
      obtain ⟨h1, h2⟩ := and2 (show (testB e && chkE k e a) = true from h)
      refine ⟨fun pins s σ H Q I hq => (pts_one ((soundE gf e k X a h2 C).2.1 h1)).run pins s σ H Q I ?_⟩
      obtain ⟨g, H0, S, ow, s, b, s', hK, ev, o, q⟩ := hq
      obtain ⟨x, s1, e1, ev⟩ := bind_ok ev
      obtain ⟨e3, e4⟩ := opt_ok ev
      subst e4
      obtain ⟨kx, e5⟩ := toB_ok e3
      subst e5
      exact ⟨g, H0, S, ow, s, kx, b, s1, hK, e1, o, q⟩
    | _ :: _ :: _, h => cases h
end
end Mp
/-! Mp9: statements. -/
namespace Mp
open PySem PySem.Spec PyProof.Rows L2
/-- what is wanted behind a flow -/
def EndOk (g : Gb) (H0 : Hp) (S : Addr → Prop) (ow : Nat → Addr) (H : Hp) (s : Sta) (D : Ends) (s' : Sta) : Fl → Prop
  | .nx => ∀ σ' H' ow', StOk g H0 S ow' σ' H' s' → Mv H H' (Av S ow s) (Av S ow' s') → D.nx σ' H'
  | .bk => ∀ σ' H' ow', StOk g H0 S ow' σ' H' s' → Mv H H' (Av S ow s) (Av S ow' s') → D.bk σ' H'
  | .ct => ∀ σ' H' ow', StOk g H0 S ow' σ' H' s' → Mv H H' (Av S ow s) (Av S ow' s') → D.ct σ' H'
  | .rt fl d => ∀ v H', Kp g H0 H' → WOk g H' s'.w → RV g H0 H' S fl d v → D.rt v H'
def tS (K : PySem.W.Frag) (gf : Gf) (F : Nat) (st : Sm) : TS := fun D σ H => ∃ g H0 S ow s f s', K = g.K ∧ evS gf F st s = .ok f s' ∧ StOk g H0 S ow σ H s ∧ EndOk g H0 S ow H s D s' f
def tSs (K : PySem.W.Frag) (gf : Gf) (F : Nat) (st : List Sm) : TS := fun D σ H => ∃ g H0 S ow s f s', K = g.K ∧ evSs gf F st s = .ok f s' ∧ StOk g H0 S ow σ H s ∧ EndOk g H0 S ow H s D s' f
section
variable {X : Cx} {k : Ck} {gf : Gf} {F : Nat} {a : Expr} {g : Gb} {H0 H H' : Hp} {S : Addr → Prop} {ow : Nat → Addr} {σ : L2.St} {s s' : Sta} {D : Ends}
theorem PSimp {st : Stmt} {t t' : TS} (h : PS X st t) (w : ∀ D σ H, t' D σ H → t D σ H) : PS X st t' := ⟨fun pins s σ H D I hq => h.run pins s σ H D I (w D σ H hq)⟩
theorem PSsimp {st : List Stmt} {t t' : TS} (h : PSs X st t) (w : ∀ D σ H, t' D σ H → t D σ H) : PSs X st t' := ⟨fun pins s σ H D I hq => h.run pins s σ H D I (w D σ H hq)⟩
/-- the end from a later start -/
theorem EndOk.from {f : Fl} {ow1 : Nat → Addr} {H1 : Hp} {s1 : Sta} (m : Mv H H1 (Av S ow s) (Av S ow1 s1)) (h : EndOk g H0 S ow H s D s' f) : EndOk g H0 S ow1 H1 s1 D s' f := by
  cases f with
  | nx => exact fun σ' H' ow' o m' => h σ' H' ow' o (m.trans m')
  | bk => exact fun σ' H' ow' o m' => h σ' H' ow' o (m.trans m')
  | ct => exact fun σ' H' ow' o m' => h σ' H' ow' o (m.trans m')
  | rt fl d => exact h
theorem free0 (o : StOk g H0 S ow σ H s) {b : Addr} (n : H b = none) : H0 b = none := by
  cases q : H0 b with
  | none => rfl
  | some u =>
    by_cases e : b = g.c
    · rw [e, o.sb.w.2.2.1] at n
      cases n
    · rw [o.k0 b u e q] at n
      cases n
theorem owned_setT {i j : Nat} {d : Mp.D} (h : owned (s.set i (some (true, d))) j) : owned s j ∨ j = i := by
  by_cases hi : i = j
  · exact .inr hi.symm
  · obtain ⟨e, h⟩ := h
    have h : (s.sl.set i (some (true, d)))[j]? = some (some (true, e)) := h
    rw [List.getElem?_set_ne hi] at h
    exact .inl ⟨e, h⟩
/-- a slot takes what is new -/
theorem StOk.setOwn {i : Nat} {d : Mp.D} {a : Addr} {s1 : Sta} {H1 : Hp} (o : StOk g H0 S ow σ H s) (p : Post g H s s1 H1) (na : H a = none) (h : OwnAt g H1 (fun b => Av S ow s1 b ∨ b = a) a d) :
    StOk g H0 S (fun j => if j = i then a else ow j) (σ.set i (some (.ref a))) H1 (s1.set i (some (true, d))) ∧ Mv H H1 (Av S ow s) (Av S (fun j => if j = i then a else ow j) (s1.set i (some (true, d)))) := by
  have nS : ¬ S a := fun z => o.sb.trk a z na
  have o1 : StOk g H0 (fun b => S b ∨ b = a) ow σ H1 s1 := o.mv p (fun b h => .inl h) (fun b hb nb => by
    rcases hb with hb | hb
    · exact absurd hb nb
    · rw [hb]; exact na) (fun b hb => by
    rcases hb with hb | hb
    · exact o.trk' p b hb
    · rw [hb]; exact h.trk)
  have less : ∀ b, Av S (fun j => if j = i then a else ow j) (s1.set i (some (true, d))) b → Av (fun b => S b ∨ b = a) ow s1 b := fun b hb => by
    rcases hb with hb | ⟨j, hj, e⟩
    · exact .inl (.inl hb)
    · by_cases hji : j = i
      · subst hji
        have e : (if j = j then a else ow j) = b := e
        rw [if_pos rfl] at e
        exact .inl (.inr e.symm)
      · have e : (if j = i then a else ow j) = b := e
        rw [if_neg hji] at e
        rcases owned_setT hj with hj | hj
        · exact .inr ⟨j, hj, e⟩
        · exact absurd hj hji
  have less2 : ∀ b, Av S (fun j => if j = i then a else ow j) (s1.set i (some (true, d))) b → Av S ow s1 b ∨ b = a := fun b hb => by
    rcases less b hb with (hb | hb) | hb
    · exact .inl (.inl hb)
    · exact .inr hb
    · exact .inl (.inr hb)
  refine ⟨⟨fun j e q => ?_, fun j e q => ?_, fun x y hx hy e => ?_, ⟨o.trk' p, o.sb.sp, o.sb.sr, o.sb.sc, p.w⟩, o.k0.trans p.kp, ?_⟩, ⟨fun b u nb e => p.kp b u (fun z => nb (.inl (by rw [z]; exact o.sb.sc))) e, fun b hb nb => ?_⟩⟩
  · have q : (s1.sl.set i (some (true, d)))[j]? = some (some (false, e)) := q
    by_cases hi : i = j
    · subst hi
      by_cases hl : i < s1.sl.length
      · rw [List.getElem?_set_self hl] at q
        cases q
      · rw [List.getElem?_eq_none (by simpa using hl)] at q
        cases q
    · rw [List.getElem?_set_ne hi] at q
      obtain ⟨w, w1, w2⟩ := o1.val j e q
      exact ⟨w, by rw [List.getElem?_set_ne hi]; exact w1, Rp.mv (Mv.less less) e w w2⟩
  · have q : (s1.sl.set i (some (true, d)))[j]? = some (some (true, e)) := q
    by_cases hi : i = j
    · subst hi
      by_cases hl : i < s1.sl.length
      · rw [List.getElem?_set_self hl] at q
        cases q
        show _ = some (some (V.ref (if i = i then a else ow i))) ∧ OwnAt g H1 _ (if i = i then a else ow i) d ∧ ¬ S (if i = i then a else ow i) ∧ H0 (if i = i then a else ow i) = none
        rw [if_pos rfl]
        exact ⟨by rw [List.getElem?_set_self (by rw [← o1.len]; exact hl)], h.mv (Mv.less less2) fun _ q => q, nS, free0 o na⟩
      · rw [List.getElem?_eq_none (by simpa using hl)] at q
        cases q
    · rw [List.getElem?_set_ne hi] at q
      obtain ⟨w1, w2, w3, w4⟩ := o1.own j e q
      show _ = some (some (V.ref (if j = i then a else ow j))) ∧ OwnAt g H1 _ (if j = i then a else ow j) e ∧ ¬ S (if j = i then a else ow j) ∧ H0 (if j = i then a else ow j) = none
      rw [if_neg (Ne.symm hi)]
      exact ⟨by rw [List.getElem?_set_ne hi]; exact w1, w2.mv (Mv.less less) fun _ q => q, fun z => w3 (.inl z), w4⟩
  · have e : (if x = i then a else ow x) = (if y = i then a else ow y) := e
    have ne : ∀ j, j ≠ i → owned (s1.set i (some (true, d))) j → ow j ≠ a := fun j hj ho z => by
      rcases owned_setT ho with ho | ho
      · obtain ⟨d', ho⟩ := ho
        exact (o1.own j d' ho).2.2.1 (.inr z)
      · exact hj ho
    by_cases hx' : x = i
    · by_cases hy' : y = i
      · rw [hx', hy']
      · rw [if_pos hx', if_neg hy'] at e
        exact absurd e.symm (ne y hy' hy)
    · by_cases hy' : y = i
      · rw [if_neg hx', if_pos hy'] at e
        exact absurd e (ne x hx' hx)
      · rw [if_neg hx', if_neg hy'] at e
        rcases owned_setT hx with hx | hx
        · rcases owned_setT hy with hy | hy
          · exact o1.inj x y hx hy e
          · exact absurd hy hy'
        · exact absurd hx hx'
  · show (s1.sl.set i _).length = _
    rw [List.length_set, List.length_set]
    exact o1.len
  · rcases less2 b hb with hb | hb
    · exact absurd (p.rel.av b hb) nb
    · rw [hb]; exact na
/-- one's own list grows -/
theorem StOk.app {i : Nat} {ds : List Mp.D} {xs : List V} {d : Mp.D} {v : V} (o : StOk g H0 S ow σ H s) (hi : s.sl[i]? = some (some (true, .lst ds))) (hx : H (ow i) = some (.lst xs)) (hv : Rp g H (Av S ow s) d v) :
    StOk g H0 S ow σ (upd H (ow i) (.lst (xs ++ [v]))) (s.set i (some (true, .lst (ds ++ [d])))) ∧ Mv H (upd H (ow i) (.lst (xs ++ [v]))) (Av S ow s) (Av S ow (s.set i (some (true, .lst (ds ++ [d]))))) := by
  have hl : i < s.sl.length := (List.getElem?_eq_some_iff.mp hi).1
  have oi : owned s i := ⟨_, hi⟩
  obtain ⟨i1, i2, i3, i4⟩ := o.own i _ hi
  have ho : ∀ j, owned (s.set i (some (true, .lst (ds ++ [d])))) j → owned s j := fun j h => by
    rcases owned_setT h with h | h
    · exact h
    · rw [h]; exact oi
  have mu : Mv H (upd H (ow i) (.lst (xs ++ [v]))) (Av S ow s) (Av S ow (s.set i (some (true, .lst (ds ++ [d]))))) :=
    (Mv.upd (A := Av S ow s) (.inr ⟨i, oi, rfl⟩)).trans (Mv.less (Av.less ho))
  refine ⟨⟨fun j e q => ?_, fun j e q => ?_, fun x y hx hy e => o.inj x y (ho x hx) (ho y hy) e, ⟨fun b hb => ?_, o.sb.sp, o.sb.sr, o.sb.sc, ?_⟩, fun b u nb e => ?_, ?_⟩, mu⟩
  · have q : (s.sl.set i (some (true, .lst (ds ++ [d]))))[j]? = some (some (false, e)) := q
    by_cases hij : i = j
    · subst hij
      rw [List.getElem?_set_self hl] at q
      cases q
    · rw [List.getElem?_set_ne hij] at q
      obtain ⟨w, w1, w2⟩ := o.val j e q
      exact ⟨w, w1, Rp.mv mu e w w2⟩
  · have q : (s.sl.set i (some (true, .lst (ds ++ [d]))))[j]? = some (some (true, e)) := q
    by_cases hij : i = j
    · subst hij
      rw [List.getElem?_set_self hl] at q
      cases q
      refine ⟨i1, ⟨xs ++ [v], upd_same, ?_⟩, i3, i4⟩
      obtain ⟨ys, y1, y2⟩ := i2
      rw [hx] at y1
      cases y1
      exact RpL.mv mu _ _ (y2.append (RpL.one hv))
    · rw [List.getElem?_set_ne hij] at q
      obtain ⟨w1, w2, w3, w4⟩ := o.own j e q
      have ne : ow j ≠ ow i := fun z => hij (o.inj i j oi ⟨e, q⟩ z.symm)
      exact ⟨w1, w2.mv mu fun u h => by rw [upd_ne ne]; exact h, w3, w4⟩
  · by_cases e : b = ow i
    · rw [e, upd_same]; exact fun z => nomatch z
    · rw [upd_ne e]; exact o.sb.trk b hb
  · obtain ⟨w1, w2, w3, w4⟩ := o.sb.w
    exact ⟨by rw [upd_ne (fun z => i3 (by rw [← z]; exact o.sb.sp))]; exact w1, by rw [upd_ne (fun z => i3 (by rw [← z]; exact o.sb.sr))]; exact w2, by rw [upd_ne (fun z => i3 (by rw [← z]; exact o.sb.sc))]; exact w3, w4⟩
  · rw [upd_ne (ne_of_none e i4)]
    exact o.k0 b u nb e
  · show (s.sl.set i _).length = _
    rw [List.length_set]
    exact o.len
theorem wk_asg {i : Nat} {e : Ex} {D : Ends} {σ : L2.St} {H : Hp} (h : tS X.K gf F (.asg (.nm i) e) D σ H) : tAsg (tE X.K gf e) (gName i) D σ H := by
  obtain ⟨g, H0, S, ow, s, f, s', hK, ev, o, q⟩ := h
  obtain ⟨x, s1, e1, ev⟩ := bind_ok ev
  obtain ⟨kk, d⟩ := x
  refine ⟨g, H0, S, ow, s, kk, d, s1, hK, e1, o, fun v H1 p kv => ?_⟩
  have o1 := o.mv' p
  cases kk with
  | val =>
    cases ev
    have o2 := o1.setVal (i := i) kv
    exact q _ H1 ow o2 (Mv.kp p.kp (.inl o.sb.sc) fun b hb => p.rel.av b (Av.less (fun j hj => owned_set hj) b hb))
  | fr =>
    cases ev
    obtain ⟨a, rfl, na, ha⟩ := kv
    obtain ⟨o2, m⟩ := o.setOwn (i := i) p na ha
    exact q _ H1 _ o2 m
  | bo => cases ev
theorem lcs_ok (C : Ctx k gf X) {e : Ex} {elt' : Expr} {gs : List Comprehension} {scope : Scope} {pos : Pos} (h : chkE k e (.ListComp elt' gs scope pos) = true) {i : Nat} {y : Str} {py spos : Pos} (hi : X.N[i]? = some y) (hy : X.env.scope.names.lookup y = some .local)
    (hl : (py.line == pos.line) = true) (ha : (scope.names.any fun (n, k) => n == y && (k == .local || k == .cell)) = false) : PS X (.Assign [.Name y py] (.ListComp elt' gs scope pos) spos) (tAsg (tE X.K gf e) (gName i)) := by
  cases e <;> first | (cases h; done) | skip
  · rename_i elt tg sk es ifs own
    match gs, h with
    | [⟨tg', iter', ifs', as'⟩], h =>
      obtain ⟨h1, h2⟩ := and2 (show (decide (as' = 0 ∧ ∀ i ∈ tgs tg, i ∈ own.map (·.2)) && (blkC k.N k.sc scope own && (chkSrc k sk es iter' && (chkT (k.blk scope) tg tg' && (chkI (k.blk scope) ifs ifs' && chkE (k.blk scope) elt elt'))))) = true from h)
      obtain ⟨h2, h3⟩ := and2 h2
      obtain ⟨h3, h4⟩ := and2 h3
      obtain ⟨h4, h5⟩ := and2 h4
      obtain ⟨h5, h6⟩ := and2 h5
      obtain ⟨q1, q2⟩ := of_decide_eq_true h1
      subst q1
      obtain ⟨sp, sf⟩ := src_ok (tg := tg') C h3 (soundM gf es k X C)
      exact (sd_lc C sp h2 h4 q2 (fun X' C' => soundI gf ifs _ X' ifs' h5 C') (fun X' C' => (soundE gf elt _ X' elt' h6 C').1) (sf X.env)).2 hi hy hl ha
    | [], h => simp [chkE] at h
    | _ :: _ :: _, h => simp [chkE] at h
  · rename_i elt tg sk es tg1 sk1 es1 ifs1 own vs1
    match gs, h with
    | [⟨tg', iter', [], as'⟩, ⟨tg1', iter1', ifs1', as1'⟩], h =>
      obtain ⟨h1, h2⟩ := and2 (show (decide (as' = 0 ∧ as1' = 0 ∧ (∀ i ∈ tgs tg, i ∈ own.map (·.2)) ∧ (∀ i ∈ tgs tg1, i ∈ vs1)) && (blkC k.N k.sc scope own && (chkSrc k sk es iter' &&
        (chkT (k.blk scope) tg tg' && (chkSrc (k.blk scope) sk1 es1 iter1' && (chkT (k.blk scope) tg1 tg1' && (chkI (k.blk scope) ifs1 ifs1' && (chkE (k.blk scope) elt elt' && decide (∀ i ∈ vs1, i ∈ own.map (·.2)))))))))) = true from h)
      obtain ⟨h3, h2⟩ := and2 h2
      obtain ⟨h4, h2⟩ := and2 h2
      obtain ⟨h5, h2⟩ := and2 h2
      obtain ⟨h6, h2⟩ := and2 h2
      obtain ⟨h7, h2⟩ := and2 h2
      obtain ⟨h8, h2⟩ := and2 h2
      obtain ⟨h9, h10⟩ := and2 h2
      obtain ⟨q1, q2, q3, q4⟩ := of_decide_eq_true h1
      subst q1 q2
      obtain ⟨sp, sf⟩ := src_ok (tg := tg') C h4 (soundM gf es k X C)
      have s1 := fun X' (C' : Ctx (k.blk scope) gf X') => src_ok (tg := tg1') C' h6 (soundM gf es1 _ X' C')
      exact (sd_lc2 C sp h3 h5 q3 h7 q4 (of_decide_eq_true h10) (fun X' C' => (s1 X' C').1) (fun X' C' => soundI gf ifs1 _ X' ifs1' h8 C') (fun X' C' => (soundE gf elt _ X' elt' h9 C').1) (sf X.env) (src_set h6)).2 hi hy hl ha
    | [], h => simp [chkE] at h
    | [_], h => simp [chkE] at h
    | [⟨_, _, _ :: _, _⟩, _], h => simp [chkE] at h
    | _ :: _ :: _ :: _, h => simp [chkE] at h
theorem loc_ok (C : Ctx k gf X) {i : Nat} {x : Str} {p : Pos} (h : chkT k (.nm i) (.Name x p) = true) : X.N[i]? = some x ∧ Loc X.env.scope x ∧ (X.fn x = true ∨ X.env.scope.names.lookup x = some .local) := by
  have h : (decide (k.N[i]? = some x) && (decide (k.sc.names.lookup x = some .local) || (decide (k.sc.names.lookup x = some .cell) && k.fn x))) = true := h
  rw [Bool.and_eq_true, Bool.or_eq_true, Bool.and_eq_true, decide_eq_true_eq, decide_eq_true_eq, decide_eq_true_eq] at h
  obtain ⟨h1, h2⟩ := h
  refine ⟨by rw [C.hN]; exact h1, ?_, ?_⟩
  · show X.env.scope.names.lookup x = _ ∨ X.env.scope.names.lookup x = _
    rw [C.hs]
    rcases h2 with h2 | ⟨h2, _⟩
    · exact .inl h2
    · exact .inr h2
  · rw [C.hs]
    rcases h2 with h2 | ⟨_, h2⟩
    · exact .inr h2
    · exact .inl (C.hfn x h2)
theorem ss_asg (C : Ctx k gf X) {i : Nat} {e : Ex} {x : Str} {p pos : Pos} (h1 : chkT k (.nm i) (.Name x p) = true) (h2 : chkE k e a = true) : PS X (.Assign [.Name x p] a pos) (tS X.K gf F (.asg (.nm i) e)) := by
  obtain ⟨l1, l2, l3⟩ := loc_ok C h1
  refine PSimp (t := tAsg (tE X.K gf e) (gName i)) ?_ fun _ _ _ => wk_asg
  have he := (soundE gf e k X a h2 C).1
  cases a with
  | ListComp elt' gs scope lpos =>
    have sw : swapsWith (.ListComp elt' gs scope lpos) (some (.Name x p)) pos.line X.env = pure (X.env.blockKind == .function && X.env.kindOf x == some .local && p.line == lpos.line && !(scope.names.any fun (n, k) => n == x && (k == .local || k == .cell))) := rfl
    cases hb : (X.env.blockKind == .function && X.env.kindOf x == some .local && p.line == lpos.line && !(scope.names.any fun (n, k) => n == x && (k == .local || k == .cell))) with
    | false =>
      rw [hb] at sw
      exact ps_set C.nd l1 l2 he sw l3
    | true =>
      obtain ⟨b1, b2⟩ := and2 hb
      obtain ⟨b1, b3⟩ := and2 b1
      obtain ⟨b1, b4⟩ := and2 b1
      exact lcs_ok C h2 l1 (beq_iff_eq.mp b4) b3 (by simpa using b2)
  | SetComp => cases e <;> cases h2
  | DictComp => cases e <;> cases h2
  | _ => exact ps_set C.nd l1 l2 he rfl l3
theorem ss_tp (C : Ctx k gf X) {ts : List Tg} {e : Ex} {es : List Expr} {z : Nat} {p pos : Pos} (h1 : chkT k (.tp ts) (.Tuple es z p) = true) (hn : notTup a = true) (h2 : chkE k e a = true) : PS X (.Assign [.Tuple es z p] a pos) (tS X.K gf F (.asg (.tp ts) e)) := by
  have he := (soundE gf e k X a h2 C).1
  have hs : swapsWithSole [.Tuple es z p] a pos.line X.env = pure false := by
    cases a with
    | ListComp => cases hn
    | SetComp => cases e <;> cases h2
    | DictComp => cases e <;> cases h2
    | _ => rfl
  have hw : swappedStores [.Tuple es z p] a X.env = pure none := by
    cases a with
    | Tuple => cases hn
    | _ => rfl
  refine PSimp (ps_asg he (pg_ok C (.tp ts) (.Tuple es z p) h1) hs hw rfl) ?_
  rintro D σ H ⟨g, H0, S, ow, s, f, s', hK, ev, o, q⟩
  obtain ⟨x, s1, e1, ev⟩ := bind_ok ev
  refine ⟨g, H0, S, ow, s, x.1, x.2, s1, hK, e1, o, fun v H1 p1 kv => ?_⟩
  have o1 := o.mv' p1
  have rk := o.rk p1 kv
  split at ev
  · rename_i d hd
    split at ev
    · rename_i s2 hb
      cases ev
      have rp : Rp g H1 (Av S ow s1) d v := by
        obtain ⟨kk, d'⟩ := x
        cases kk <;> cases hd
        · exact rk
        · exact rk
      exact ⟨g, H0, S, ow, s1, d, s', hK, hb, o1, rp, fun σ' o' w' _ _ _ => q σ' H1 ow o' (Mv.kp p1.kp (.inl o.sb.sc) fun b hb => p1.rel.av b (Av.less w' b hb))⟩
    · cases ev
  · cases ev
theorem ss_aug (C : Ctx k gf X) {i : Nat} {e : Ex} {x : Str} {p pos : Pos} (h1 : chkT k (.nm i) (.Name x p) = true) (h2 : chkE k e a = true) : PS X (.AugAssign (.Name x p) .Add a pos) (tS X.K gf F (.aug i e)) := by
  obtain ⟨l1, l2, l3⟩ := loc_ok C h1
  refine PSimp (ps_aug C.nd l1 l2 (soundE gf e k X a h2 C).1 ip_add l3) ?_
  rintro D σ H ⟨g, H0, S, ow, s, f, s', hK, ev, o, q⟩
  unfold evS at ev
  split at ev
  · rename_i n hi
    obtain ⟨x, s1, e1, ev⟩ := bind_ok ev
    obtain ⟨v, v1, v2⟩ := o.val i _ hi
    refine ⟨v, v1, tE_bind hK e1 o fun w H1 p1 o1 r1 => ?_⟩
    split at ev
    · rename_i m hm
      cases ev
      rw [hm] at r1
      refine ⟨n, m, v2, r1.rb.int, ?_⟩
      have o2 := o1.setVal (i := i) (d := .int (n + m)) (v := .int (n + m)) rfl
      exact q _ H1 ow o2 (Mv.kp p1.kp (.inl o.sb.sc) fun b hb => p1.rel.av b (Av.less (fun j hj => owned_set hj) b hb))
    · cases ev
  · cases ev
theorem ret_end {kk : Kd} {d : Mp.D} {v : V} {H1 : Hp} {s1 : Sta} (o : StOk g H0 S ow σ H s) (p : Post g H s s1 H1) (kv : KV g S ow H s1 H1 kk d v) {f : Fl} {s' : Sta} (ev : (match (kk, d) with
    | (.val, d) => R.ok (Fl.rt false d) s1
    | (.fr, d) => .ok (.rt true d) s1
    | (.bo, _) => .bad) = .ok f s') (q : EndOk g H0 S ow H s D s' f) : D.rt v H1 := by
  cases kk with
  | val =>
    cases ev
    exact q v H1 (o.k0.trans p.kp) p.w (Rp.mv (Mv.less fun b hb => .inl hb) _ _ kv)
  | fr =>
    cases ev
    obtain ⟨a, e, na, ha⟩ := kv
    refine q v H1 (o.k0.trans p.kp) p.w ⟨a, e, free0 o na, ha.mv (Mv.less fun b hb => ?_) fun _ q => q⟩
    rcases hb with hb | hb
    · exact .inl (.inl hb)
    · exact .inr hb
  | bo => cases ev
theorem ss_ret (C : Ctx k gf X) {e : Ex} {pos : Pos} (h : chkE k e a = true) : PS X (.Return (some a) pos) (tS X.K gf F (.ret e)) := by
  have gen : (∀ s, evS gf F (.ret e) s = (evE gf e s).bind fun x s => match x with
      | (.val, d) => .ok (.rt false d) s
      | (.fr, d) => .ok (.rt true d) s
      | (.bo, _) => .bad) → PS X (.Return (some a) pos) (tS X.K gf F (.ret e)) := fun he => by
    refine PSimp (ps_ret (soundE gf e k X a h C).1) ?_
    rintro D σ H ⟨g, H0, S, ow, s, f, s', hK, ev, o, q⟩
    rw [he s] at ev
    obtain ⟨x, s1, e1, ev⟩ := bind_ok ev
    obtain ⟨kk, d⟩ := x
    exact ⟨g, H0, S, ow, s, kk, d, s1, hK, e1, o, fun v H1 p kv => ret_end o p kv ev q⟩
  cases e with
  | v i =>
    cases a <;> first | (cases h; done) | skip
    refine PSimp (ps_ret (vis_ok C h)) ?_
    rintro D σ H ⟨g, H0, S, ow, s, f, s', hK, ev, o, q⟩
    unfold evS at ev
    split at ev
    · rename_i fl d hi
      cases ev
      cases fl with
      | false =>
        obtain ⟨v, v1, v2⟩ := o.val i d hi
        exact ⟨v, v1, q v H o.k0 o.sb.w (Rp.mv (Mv.less fun b hb => .inl hb) _ _ v2)⟩
      | true =>
        obtain ⟨v1, v2, v3, v4⟩ := o.own i d hi
        refine ⟨_, v1, q _ H o.k0 o.sb.w ⟨ow i, rfl, v4, v2.mv (Mv.less fun b hb => ?_) fun _ q => q⟩⟩
        rcases hb with hb | hb
        · exact .inl hb
        · exact .inr ⟨i, ⟨d, hi⟩, hb.symm⟩
    · cases ev
  | _ => exact gen fun _ => rfl
theorem ss_ex (C : Ctx k gf X) {f : Nat} {es : List Ex} {pos : Pos} (h : chkE k (.call f es) a = true) : PS X (.Expr a pos) (tS X.K gf F (.ex (.call f es))) := by
  have hs : swapsWith a none pos.line X.env = pure false := by
    cases a <;> first | (cases h; done) | rfl
  refine PSimp (ps_expr (soundE gf _ k X a h C).1 hs) ?_
  rintro D σ H ⟨g, H0, S, ow, s, f, s', hK, ev, o, q⟩
  obtain ⟨x, s1, e1, ev⟩ := bind_ok ev
  cases ev
  exact ⟨g, H0, S, ow, s, x.1, x.2, s', hK, e1, o, fun v H1 p kv => q σ H1 ow (o.mv' p) (o.mv2 p)⟩
theorem ss_app (C : Ctx k gf X) {i : Nat} {e : Ex} {x nm : Str} {xp ap cp pos : Pos} (hnm : nm = ("append" : Str)) (hl : (ap.endLine == cp.line) = true) (hv : visB k i x = true) (h : chkE k e a = true) :
    PS X (.Expr (.Call (.Attribute (.Name x xp) nm ap) [a] [] cp) pos) (tS X.K gf F (.app i e)) := by
  subst hnm
  have hst : starEach [a] X.env = (false, eval a X.env) :: starEach [] X.env := star_ok h
  refine PSimp (ps_expr (pe_bm PySem.F.plainAttrs_list PySem.F.slot_list_append PySem.F.type_list_append mt_append (vis_ok C hv) (pa_cons (soundE gf e k X a h C).1 pa_nil hst) rfl (by rw [hst]; rfl) hl hst rfl) rfl) ?_
  rintro D σ H ⟨g, H0, S, ow, s, f, s', hK, ev, o, q⟩
  unfold evS at ev
  split at ev
  · rename_i ds0 hsi
    obtain ⟨u1, u2, u3, u4⟩ := o.own i _ hsi
    obtain ⟨ys, y1, y2⟩ := u2
    obtain ⟨y, s1, e1, ev⟩ := bind_ok ev
    refine ⟨_, u1, .inl ⟨rfl, ys, sqL_of y1⟩, ?_⟩
    refine ⟨g, H0, S, ow, s, y.1, y.2, s1, hK, e1, o, fun v H1 p1 kv => ?_⟩
    split at ev
    · cases ev
    · rename_i d hd
      split at ev
      · rename_i ds hi
        split at ev
        · rename_i hz
          cases ev
          have o1 := o.mv' p1
          have rk := o.rk p1 kv
          have rp : Rp g H1 (Av S ow s1) d v := by
            obtain ⟨kk, d'⟩ := y
            cases kk <;> cases hd
            · exact rk
            · exact rk
          obtain ⟨w1, w2, w3, w4⟩ := o1.own i _ hi
          obtain ⟨zs, z1, z2⟩ := w2
          obtain ⟨o2, m2⟩ := o1.app hi z1 rp
          exact ⟨ow i, zs, v, rfl, rfl, z1, by rw [z2.length]; exact hz, q _ _ ow o2 ((o.mv2 p1).trans m2)⟩
        · cases ev
      · cases ev
  · cases ev
theorem ss_ife {t : Ex} {e1 e2 : List Sm} {c : Expr} {b1 b2 : List Stmt} {pos : Pos} (h0 : PT X c (tT X.K gf t)) (h1 : PSs X b1 (tSs X.K gf F e1)) (h2 : PSs X b2 (tSs X.K gf F e2)) : PS X (.If c b1 b2 pos) (tS X.K gf F (.ife t e1 e2)) := by
  refine PSimp (ps_if h0 h1 h2) ?_
  rintro D σ H ⟨g, H0, S, ow, s, f, s', hK, ev, o, q⟩
  obtain ⟨x, s1, q1, ev⟩ := bind_ok ev
  obtain ⟨b, s2, q2, ev⟩ := bind_ok ev
  obtain ⟨q3, q4⟩ := opt_ok q2
  subst q4
  obtain ⟨kx, q5⟩ := toB_ok q3
  subst q5
  refine ⟨g, H0, S, ow, s, kx, b, s1, hK, q1, o, fun H1 p1 => ?_⟩
  cases b with
  | true => exact iteT ⟨g, H0, S, ow, s1, f, s', hK, ev, o.mv' p1, q.from (o.mv2 p1)⟩
  | false => exact iteF ⟨g, H0, S, ow, s1, f, s', hK, ev, o.mv' p1, q.from (o.mv2 p1)⟩
theorem ss_for {t : Tg} {sk : Sk} {es : List Ex} {body : List Sm} {t' i' : Expr} {body' : List Stmt} {pos : Pos} (hp : PassesOwn (model X.prog X.w) X.A X.env X.xe) (hc : X.calm = true) (hi : PI X t' i' (tSrc X.K gf sk es)) (hg : PG X t' (tTg X.K t)) (hb : PSs X body' (tSs X.K gf F body))
    (hs : ∀ x, foldedSetIterable i' X.env x = pure x) : PS X (.For t' i' body' [] pos) (tS X.K gf F (.for t sk es body)) := by
  refine PSimp (ps_for hp hc hi hg hb hs) ?_
  rintro D σ H ⟨g, H0, S, ow, s, f, s', hK, ev, o, q⟩
  obtain ⟨dd, s0, e1, ev⟩ := bind_ok ev
  split at ev
  · rename_i ds eds
    refine ⟨g, H0, S, ow, s, dd, ds, s0, hK, e1, eds, o, fun J N H1 p G n => ?_⟩
    have q := q.from (o.mv2 p)
    have o1 := o.mv' p
    refine ⟨fun i m σ Hc => ∃ ow1 s1, m = ds.length - i ∧ i ≤ ds.length ∧ forGo (bindT t) (fun s => evSs gf F body s) (ds.drop i) s1 = .ok f s' ∧ StOk g H0 S ow1 σ Hc s1 ∧ N (Av S ow1 s1) Hc ∧ Mv H1 Hc (Av S ow s0) (Av S ow1 s1), ⟨_, ow, s0, rfl, Nat.zero_le _, ev, o1, n, Mv.refl⟩, ?_⟩
    rintro i m σ1 Hc ⟨ow1, s1, em, hil, ev, os, ns, ms⟩
    by_cases hlt : i < ds.length
    · have hdi : ds[i]? = some ds[i] := List.getElem?_eq_getElem hlt
      rw [List.drop_eq_getElem_cons hlt] at ev
      unfold forGo at ev
      cases hbt : bindT t ds[i] s1 with
      | none => rw [hbt] at ev; cases ev
      | some sb =>
      rw [hbt] at ev
      obtain ⟨f1, s2, e2, ev⟩ := bind_ok ev
      refine .inr ⟨G.go _ i Hc hlt ns, fun σ' H' => ∃ ow1 s1, (ds.length - (i + 1) = ds.length - (i + 1)) ∧ i + 1 ≤ ds.length ∧ forGo (bindT t) (fun s => evSs gf F body s) (ds.drop (i + 1)) s1 = .ok f s' ∧ StOk g H0 S ow1 σ' H' s1 ∧ N (Av S ow1 s1) H' ∧ Mv H1 H' (Av S ow s0) (Av S ow1 s1),
        fun σ' H' ⟨ow1, s1, _, h⟩ => ⟨ds.length - (i + 1), by omega, ow1, s1, rfl, h⟩, fun x H' y => ?_⟩
      obtain ⟨sm, rx, nH'⟩ := G.turn ns y hdi
      have p0 : Post g Hc s1 s1 H' := (os.post).more os.sb.w sm
      have o0 := os.mv' p0
      refine ⟨g, H0, S, ow1, s1, ds[i], sb, hK, hbt, o0, rx, fun σ2 ob w2 f2 l2 z2 => ?_⟩
      have mb : Mv Hc H' (Av S ow1 s1) (Av S ow1 sb) := Mv.kp p0.kp (.inl os.sb.sc) (Av.less w2)
      have nb : N (Av S ow1 sb) H' := G.mv _ _ _ _ ns mb
      refine ⟨g, H0, S, ow1, sb, f1, s2, hK, e2, ob, ?_⟩
      have mm := ms.trans mb
      cases f1 with
      | nx => exact fun σ' H'' ow' o' m' => ⟨ow', s2, rfl, hlt, ev, o', G.mv _ _ _ _ nb m', mm.trans m'⟩
      | ct => exact fun σ' H'' ow' o' m' => ⟨ow', s2, rfl, hlt, ev, o', G.mv _ _ _ _ nb m', mm.trans m'⟩
      | bk =>
        cases ev
        exact fun σ' H'' ow' o' m' => q σ' H'' ow' o' (mm.trans m')
      | rt fl d =>
        cases ev
        exact fun v H'' k1 k2 k3 => q v H'' k1 k2 k3
    · have e : i = ds.length := by omega
      subst e
      rw [List.drop_length] at ev
      cases ev
      exact .inl ⟨G.st _ Hc ns, q σ1 Hc ow1 os ms⟩
  · cases ev
theorem ss_whl {t : Ex} {body : List Sm} {c : Expr} {body' : List Stmt} {pos : Pos} (hp : PassesOwn (model X.prog X.w) X.A X.env X.xe) (h0 : PT X c (tT X.K gf t)) (hb : PSs X body' (tSs X.K gf F body)) : PS X (.While c body' [] pos) (tS X.K gf F (.whl t body)) := by
  refine PSimp (ps_while hp h0 hb) ?_
  rintro D σ H ⟨g, H0, S, ow, s, f, s', hK, ev, o, q⟩
  refine ⟨fun m σ Hc => ∃ ow1 s1, whlGo (fun s => (evE gf t s).bind fun x s => R.opt s (toB x)) (fun s => evSs gf F body s) m s1 = .ok f s' ∧ StOk g H0 S ow1 σ Hc s1 ∧ Mv H Hc (Av S ow s) (Av S ow1 s1), ⟨F, ow, s, ev, o, Mv.refl⟩, ?_⟩
  rintro m σ1 Hc ⟨ow1, s1, ev, os, ms⟩
  cases m with
  | zero => cases ev
  | succ m =>
    obtain ⟨b, s2, e1, ev⟩ := bind_ok ev
    obtain ⟨x, s3, e2, e3⟩ := bind_ok e1
    obtain ⟨e4, e5⟩ := opt_ok e3
    subst e5
    obtain ⟨kx, e6⟩ := toB_ok e4
    subst e6
    refine ⟨g, H0, S, ow1, s1, kx, b, s3, hK, e2, os, fun H1 p1 => ?_⟩
    have o1 := os.mv' p1
    have m1 := ms.trans (os.mv2 p1)
    cases b with
    | false =>
      cases ev
      exact iteF (q σ1 H1 ow1 o1 m1)
    | true =>
      obtain ⟨f1, s4, e7, ev⟩ := bind_ok ev
      refine iteT ⟨fun σ' H' => ∃ ow1 s1, whlGo (fun s => (evE gf t s).bind fun x s => R.opt s (toB x)) (fun s => evSs gf F body s) m s1 = .ok f s' ∧ StOk g H0 S ow1 σ' H' s1 ∧ Mv H H' (Av S ow s) (Av S ow1 s1), fun σ' H' h => ⟨m, Nat.lt_succ_self m, h⟩, ?_⟩
      refine ⟨g, H0, S, ow1, s3, f1, s4, hK, e7, o1, ?_⟩
      cases f1 with
      | nx => exact fun σ' H'' ow' o' m' => ⟨ow', s4, ev, o', m1.trans m'⟩
      | ct => exact fun σ' H'' ow' o' m' => ⟨ow', s4, ev, o', m1.trans m'⟩
      | bk =>
        cases ev
        exact fun σ' H'' ow' o' m' => q σ' H'' ow' o' (m1.trans m')
      | rt fl d =>
        cases ev
        exact fun v H'' k1 k2 k3 => q v H'' k1 k2 k3
end
end Mp
/-! Mp10: blocks, defs, the table of a program's defs. -/
namespace Mp
open PySem PySem.Spec PyProof.Rows L2
theorem asg_inv {k : Ck} {i : Nat} {e : Ex} {ts : List Expr} {v : Expr} {pos : Pos} (h : chkS k (.asg (.nm i) e) (.Assign ts v pos) = true) : ∃ x p, ts = [.Name x p] ∧ chkT k (.nm i) (.Name x p) = true ∧ chkE k e v = true := by
  cases ts with
  | nil => cases h
  | cons t r =>
    cases r with
    | nil => cases t <;> first | (cases h; done) | exact ⟨_, _, rfl, and2 h⟩
    | cons _ _ => cases t <;> cases h
theorem tp_inv {k : Ck} {ts : List Tg} {e : Ex} {tt : List Expr} {v : Expr} {pos : Pos} (h : chkS k (.asg (.tp ts) e) (.Assign tt v pos) = true) : ∃ es z p, tt = [.Tuple es z p] ∧ chkT k (.tp ts) (.Tuple es z p) = true ∧ notTup v = true ∧ chkE k e v = true := by
  cases tt with
  | nil => cases h
  | cons t r =>
    cases r with
    | nil => cases t <;> first | (cases h; done) | exact ⟨_, _, _, rfl, (and2 h).1, and2 (and2 h).2⟩
    | cons _ _ => cases t <;> cases h
theorem app_inv {k : Ck} {i : Nat} {e : Ex} {x nm : Str} {xp ap cp pos : Pos} {as : List Expr} {kw : List Keyword} (h : chkS k (.app i e) (.Expr (.Call (.Attribute (.Name x xp) nm ap) as kw cp) pos) = true) :
    ∃ v, as = [v] ∧ kw = [] ∧ nm = ("append" : Str) ∧ (ap.endLine == cp.line) = true ∧ visB k i x = true ∧ chkE k e v = true := by
  cases as with
  | nil => cases h
  | cons v r =>
    cases r with
    | cons _ _ => cases h
    | nil =>
      cases kw with
      | cons _ _ => cases h
      | nil =>
        obtain ⟨h1, h2⟩ := and2 (show (decide (nm = ("append" : Str)) && (decide ((ap.endLine == cp.line) = true) && (visB k i x && chkE k e v))) = true from h)
        obtain ⟨h2, h3⟩ := and2 h2
        obtain ⟨h3, h4⟩ := and2 h3
        exact ⟨v, rfl, rfl, of_decide_eq_true h1, of_decide_eq_true h2, h3, h4⟩
mutual
theorem soundS (gf : Gf) (F : Nat) : ∀ (st : Sm) (k : Ck) (X : Cx) (a : Stmt), chkS k st a = true → Ctx k gf X → PassesOwn (model X.prog X.w) X.A X.env X.xe → PS X a (tS X.K gf F st)
  | .asg (.nm i) e, k, X, a, h, C, hp => by
    cases a <;> first | (cases h; done) | skip
    obtain ⟨x, p, rfl, h1, h2⟩ := asg_inv h
    exact ss_asg C h1 h2
  | .asg (.tp ts) e, k, X, a, h, C, hp => by
    cases a <;> first | (cases h; done) | skip
    obtain ⟨es, z, p, rfl, h1, h2, h3⟩ := tp_inv h
    exact ss_tp C h1 h2 h3
  | .aug i e, k, X, a, h, C, hp => by
    cases a <;> first | (cases h; done) | skip
    rename_i t op v pos
    cases t <;> first | (cases h; done) | skip
    rename_i x p
    cases op <;> first | (cases h; done) | skip
    obtain ⟨h1, h2⟩ := and2 (show (chkT k (.nm i) (.Name x p) && (visB k i x && chkE k e v)) = true from h)
    obtain ⟨h2, h3⟩ := and2 h2
    exact ss_aug C h1 h3
  | .ret e, k, X, a, h, C, hp => by
    cases a <;> first | (cases h; done) | skip
    rename_i v pos
    cases v with
    | none => cases h
    | some v => exact ss_ret C h
  | .ex e, k, X, a, h, C, hp => by
    cases e <;> first | (cases a <;> cases h; done) | skip
    cases a <;> first | (cases h; done) | skip
    exact ss_ex C h
  | .app i e, k, X, a, h, C, hp => by
    cases a <;> first | (cases h; done) | skip
    rename_i v pos
    cases v <;> first | (cases h; done) | skip
    rename_i fn as kw cp
    cases fn <;> first | (cases h; done) | skip
    rename_i o nm ap
    cases o <;> first | (cases h; done) | skip
    rename_i x xp
    obtain ⟨v, rfl, rfl, h1, h2, h3, h4⟩ := app_inv h
    exact ss_app C h1 h2 h3 h4
  | .ife t e1 e2, k, X, a, h, C, hp => by
    cases a <;> first | (cases h; done) | skip
    rename_i c b1 b2 pos
    obtain ⟨h1, h2⟩ := and2 (show ((testB t && chkE k t c) && (chkSs k e1 b1 && chkSs k e2 b2)) = true from h)
    obtain ⟨h0, h1⟩ := and2 h1
    obtain ⟨h2, h3⟩ := and2 h2
    exact ss_ife ((soundE gf t k X c h1 C).2.1 h0) (soundSs gf F e1 k X b1 h2 C hp) (soundSs gf F e2 k X b2 h3 C hp)
  | .for t sk es body, k, X, a, h, C, hp => by
    cases a <;> first | (cases h; done) | skip
    rename_i t' i' body' els pos
    cases els with
    | cons _ _ => cases h
    | nil =>
      obtain ⟨h1, h2⟩ := and2 (show (chkT k t t' && (chkSrc k sk es i' && chkSs k body body')) = true from h)
      obtain ⟨h2, h3⟩ := and2 h2
      obtain ⟨sp, sf⟩ := src_ok (tg := t') C h2 (soundM gf es k X C)
      exact ss_for hp C.calm sp (pg_ok C t t' h1) (soundSs gf F body k X body' h3 C hp) (sf X.env)
  | .whl t body, k, X, a, h, C, hp => by
    cases a <;> first | (cases h; done) | skip
    rename_i c body' els pos
    cases els with
    | cons _ _ => cases h
    | nil =>
      obtain ⟨h1, h2⟩ := and2 (show ((testB t && chkE k t c) && chkSs k body body') = true from h)
      obtain ⟨h0, h1⟩ := and2 h1
      exact ss_whl hp ((soundE gf t k X c h1 C).2.1 h0) (soundSs gf F body k X body' h2 C hp)
  | .pas, k, X, a, h, C, hp => by
    cases a <;> first | (cases h; done) | skip
    refine PSimp ps_pass ?_
    rintro D σ H ⟨g, H0, S, ow, s, f, s', hK, ev, o, q⟩
    cases ev
    exact q σ H ow o Mv.refl
  | .brk, k, X, a, h, C, hp => by
    cases a <;> first | (cases h; done) | skip
    refine PSimp ps_break ?_
    rintro D σ H ⟨g, H0, S, ow, s, f, s', hK, ev, o, q⟩
    cases ev
    exact q σ H ow o Mv.refl
  | .cnt, k, X, a, h, C, hp => by
    cases a <;> first | (cases h; done) | skip
    refine PSimp ps_continue ?_
    rintro D σ H ⟨g, H0, S, ow, s, f, s', hK, ev, o, q⟩
    cases ev
    exact q σ H ow o Mv.refl
theorem soundSs (gf : Gf) (F : Nat) : ∀ (st : List Sm) (k : Ck) (X : Cx) (a : List Stmt), chkSs k st a = true → Ctx k gf X → PassesOwn (model X.prog X.w) X.A X.env X.xe → PSs X a (tSs X.K gf F st)
  | [], k, X, a, h, C, hp => by
    cases a with
    | cons _ _ => cases h
    | nil =>
      refine PSsimp pss_nil ?_
      rintro D σ H ⟨g, H0, S, ow, s, f, s', hK, ev, o, q⟩
      cases ev
      exact q σ H ow o Mv.refl
  | st :: r, k, X, a, h, C, hp => by
    cases a with
    | nil => cases h
    | cons a as =>
      obtain ⟨h1, h2⟩ := and2 (show (chkS k st a && chkSs k r as) = true from h)
      refine PSsimp (pss_cons (soundS gf F st k X a h1 C hp) (soundSs gf F r k X as h2 C hp)) ?_
      rintro D σ H ⟨g, H0, S, ow, s, f, s', hK, ev, o, q⟩
      obtain ⟨f1, s1, e1, ev⟩ := bind_ok ev
      refine ⟨g, H0, S, ow, s, f1, s1, hK, e1, o, ?_⟩
      cases f1 with
      | nx => exact fun σ' H' ow' o' m' => ⟨g, H0, S, ow', s1, f, s', hK, ev, o', q.from m'⟩
      | bk => cases ev; exact fun σ' H' ow' o' m' => q σ' H' ow' o' m'
      | ct => cases ev; exact fun σ' H' ow' o' m' => q σ' H' ow' o' m'
      | rt fl d => cases ev; exact fun v H' k1 k2 k3 => q v H' k1 k2 k3
end
/-! ### defs -/
structure Def where
  name : Str
  st : Stmt
  ps : List Str
  N : List Str
  fn : Fn
inductive Entry where
  | ir (d : Def)
  | draw (st : Stmt)
def Entry.name : Entry → Str
  | .ir d => d.name
  | .draw _ => "_law_draw"
def Entry.st : Entry → Stmt
  | .ir d => d.st
  | .draw s => s
def Entry.ps : Entry → List Str
  | .ir d => d.ps
  | .draw _ => ["pool", "many"]
def gfn (F : Nat) (ds : List Entry) : Nat → Gf
  | 0 => fun _ _ _ => none
  | n + 1 => fun i args w => match ds[i]? with
    | some (.ir d) => runFn (gfn F ds n) F d.fn args w
    | some (.draw _) => drawF args w
    | none => none
def scopeB (N ps : List Str) (sc : Scope) : Bool := decide (sc.kind = .function) && (!sc.isCoroutine && (!sc.isGenerator && (decide N.Nodup && (decide (N.take ps.length = ps) && (decide (∀ x ∈ ps, sc.names.lookup x = some .local ∨ sc.names.lookup x = some .cell) && decide (∀ y ∈ sc.names, y.2 ≠ .free))))))
theorem scope_ok {N ps : List Str} {sc : Scope} (h : scopeB N ps sc = true) : FnScope N ps sc := by
  obtain ⟨h1, h⟩ := and2 h
  obtain ⟨h2, h⟩ := and2 h
  obtain ⟨h3, h⟩ := and2 h
  obtain ⟨h4, h⟩ := and2 h
  obtain ⟨h5, h⟩ := and2 h
  obtain ⟨h6, h7⟩ := and2 h
  exact ⟨of_decide_eq_true h1, by simpa using h2, by simpa using h3, of_decide_eq_true h4, of_decide_eq_true h5, of_decide_eq_true h6, of_decide_eq_true h7⟩
def ckOf (gs : List (Str × Const)) (fs : List Str) (d : Def) : Ck := ⟨d.N, defScope d.st, fun _ => true, gs, fs⟩
def defB (gs : List (Str × Const)) (fs : List Str) (d : Def) : Bool := scopeB d.N d.ps (defScope d.st) && (decide (d.fn.ar = d.ps.length) && (decide (d.fn.n = d.N.length) && chkSs (ckOf gs fs d) d.fn.body (defBody d.st)))
/-- how a def's arguments bind -/
def BindB (x : Str) (st : Stmt) (ps : List Str) : Prop := ∀ (kV doc pm : Value) (an : Option Addr) (cdv ct : Value) (us : List Value), us.length = ps.length → bindArgs (PySem.W.fnOf x x (defArgs st) (defBody st) (defScope st) .none kV doc pm an cdv ct) ⟨us, []⟩ = pure (ps.zip us)
abbrev FnP (K : PySem.W.Frag) (x : Str) (st : Stmt) (f : Addr) (fd : FuncData) : Prop := FunD K x x (defArgs st) (defBody st) (defScope st) [] [] f fd
/-- what the top has left -/
structure Top (P : Program) (w : World) (K : PySem.W.Frag) (mg : Str → Option Value) (base : Heap) (gs : List (Str × Const)) (ds : List Entry) : Prop where
  fr : ∀ x ∈ fbs, mg x = none
  gl : ∀ x c, gs.lookup x = some c → ∀ d, cnD c d = true → ∃ u, mg x = some u ∧ ∀ g H A v, (Rp g H A d v → L2.RelV v u)
  has : ∀ (i : Nat) e, ds[i]? = some e → ∃ f fd, mg e.name = some (.ref f) ∧ FnP K e.name e.st f fd
  bd : ∀ e ∈ ds, BindB e.name e.st e.ps
  df : ∀ d, Entry.ir d ∈ ds → defB gs (ds.map Entry.name) d = true
  dw : ∀ st f fd, Entry.draw st ∈ ds → FnP K "_law_draw" st f fd → FnOk P w K mg base CX0 1 f fd ["pool", "many"] (spOf K 2 drawF)
theorem runFn_ar {gf : Gf} {F : Nat} {f : Fn} {args : List D} {w : Wd} {r : Bool × D × Wd} (h : runFn gf F f args w = some r) : args.length = f.ar := by
  unfold runFn at h
  split at h
  · cases h
  · rename_i n
    simpa using n
theorem drawF_ar {args : List D} {w : Wd} {r : Bool × D × Wd} (h : drawF args w = some r) : args.length = 2 := by
  unfold drawF at h
  split at h
  · rfl
  · cases h
theorem rpl_none {g : Gb} {H : Hp} {A : Addr → Prop} {ds : List D} {xs : List V} (h : RpL g H A ds xs) {i : Nat} {d : D} (hd : ds[i]? = some d) : ∃ x, xs[i]? = some x ∧ Rp g H A d x := h.get hd
/-- the slots at a def's entry -/
theorem entry_ok {g : Gb} {H : Hp} {S : Addr → Prop} {ds : List D} {vs : List V} {w : Wd} {N : List Str} {n : Nat} (sb : SB g H S w) (r : RpL g H S ds vs) (hn : n = N.length) (hl : ds.length ≤ N.length) :
    StOk g H S (fun _ => 0) (L2.start N vs) H ⟨ds.map (fun d => some (false, d)) ++ List.replicate (n - ds.length) none, w⟩ := by
  have hlen := r.length
  have no : ∀ i, ¬ owned ⟨ds.map (fun d => some (false, d)) ++ List.replicate (n - ds.length) none, w⟩ i := fun i ⟨d, h⟩ => by
    have h : (ds.map (fun d => some (false, d)) ++ List.replicate (n - ds.length) none)[i]? = some (some (true, d)) := h
    by_cases hi : i < ds.length
    · rw [List.getElem?_append_left (by rw [List.length_map]; exact hi), List.getElem?_map, List.getElem?_eq_getElem hi] at h
      cases h
    · rw [List.getElem?_append_right (by rw [List.length_map]; omega), List.getElem?_replicate] at h
      split at h <;> cases h
  refine ⟨fun i d h => ?_, fun i d h => (no i ⟨d, h⟩).elim, fun i j hi => (no i hi).elim, sb, Kp.refl, ?_⟩
  · have h : (ds.map (fun d => some (false, d)) ++ List.replicate (n - ds.length) none)[i]? = some (some (false, d)) := h
    by_cases hi : i < ds.length
    · rw [List.getElem?_append_left (by rw [List.length_map]; exact hi), List.getElem?_map] at h
      cases q : ds[i]? with
      | none => rw [q] at h; cases h
      | some d' =>
        rw [q] at h
        cases h
        obtain ⟨x, h1, h2⟩ := r.get q
        refine ⟨x, ?_, Rp.mv (Mv.less fun b hb => ?_) _ _ h2⟩
        · unfold L2.start
          rw [List.getElem?_append_left (by rw [List.length_map]; omega), List.getElem?_map, h1]
          rfl
        · rcases hb with hb | ⟨j, hj, _⟩
          · exact hb
          · exact (no j hj).elim
    · rw [List.getElem?_append_right (by rw [List.length_map]; omega), List.getElem?_replicate] at h
      split at h <;> cases h
  · show (ds.map _ ++ List.replicate _ _).length = (L2.start N vs).length
    unfold L2.start
    simp only [List.length_append, List.length_map, List.length_replicate]
    omega
section
variable {P : Program} {w : World} {K : PySem.W.Frag} {mg : Str → Option Value} {base : Heap} {gs : List (Str × Const)} {ds : List Entry} {F : Nat}
/-- the context of a def's body, its callees at the level below -/
theorem Top.ctx (T : Top P w K mg base gs ds) {n : Nat} (ok : ∀ (i : Nat) e, ds[i]? = some e → ∀ f fd, FnP K e.name e.st f fd → FnOk P w K mg base CX0 n f fd e.ps (spOf K e.ps.length (gfn F ds n i)))
    (ar : ∀ (i : Nat) e, ds[i]? = some e → ∀ as w r, gfn F ds n i as w = some r → as.length = e.ps.length) {N : List Str} {nm : Str} {sc : Scope} {f : Addr} {cdv : Value} {A : Around} {outer : List Env} {s : Shared} {H : Hp} {E : XK} (nd : N.Nodup) (hr : Room n (A.deeper (envOfC nm sc s.heap.objs.size f cdv))) :
    Ctx ⟨N, sc, fun _ => true, gs, ds.map Entry.name⟩ (gfn F ds n) (cxOf CX0 P w K mg base N nm sc f cdv A outer s H E).nox := by
  refine ⟨rfl, nd, rfl, rfl, T.fr, T.gl, fun i x hx => ?_, ?_, fun _ _ => rfl⟩
  · have hx : (ds.map Entry.name)[i]? = some x := hx
    rw [List.getElem?_map] at hx
    cases q : ds[i]? with
    | none => rw [q] at hx; cases hx
    | some e =>
      rw [q] at hx
      cases hx
      obtain ⟨f', fd', m, D⟩ := T.has i e q
      refine ⟨n, f', fd', e.ps, m, D.kp, FunD.bindsN D (T.bd e (List.mem_of_getElem? q)), hr, ar i e q, ok i e q f' fd' D⟩
  · show A.units + 3 + 65 < cLine
    have := hr.un
    have e : (A.deeper (envOfC nm sc s.heap.objs.size f cdv)).units = A.units + 3 := rfl
    rw [e] at this
    omega
theorem Top.all (T : Top P w K mg base gs ds) : ∀ n : Nat, (∀ (i : Nat) e, ds[i]? = some e → ∀ f fd, FnP K e.name e.st f fd → FnOk P w K mg base CX0 n f fd e.ps (spOf K e.ps.length (gfn F ds n i))) ∧
    (∀ (i : Nat) e, ds[i]? = some e → ∀ as w r, gfn F ds n i as w = some r → as.length = e.ps.length)
  | 0 => by
    refine ⟨fun i e he f fd D => ⟨fun vs H Q E h => ?_, fun A outer s H args us vs Q E hr e0 hb r h => ?_⟩, fun i e he as w r h => ?_⟩
    · obtain ⟨_, _, _, _, _, _, _, _, hl, _⟩ := h
      exact hl
    · obtain ⟨_, _, _, _, _, _, _, _, _, _, _, h, _⟩ := h
      cases h
    · cases h
  | n + 1 => by
    obtain ⟨ok, ar⟩ := Top.all T n
    have ar' : ∀ (i : Nat) e, ds[i]? = some e → ∀ as w r, gfn F ds (n + 1) i as w = some r → as.length = e.ps.length := fun i e he as w r h => by
      have h : (match ds[i]? with
        | some (.ir d) => runFn (gfn F ds n) F d.fn as w
        | some (.draw _) => drawF as w
        | none => none) = some r := h
      rw [he] at h
      cases e with
      | ir d =>
        obtain ⟨_, h2⟩ := and2 (T.df d (List.mem_of_getElem? he))
        obtain ⟨h2, _⟩ := and2 h2
        rw [runFn_ar h]
        exact of_decide_eq_true h2
      | draw st => exact drawF_ar h
    refine ⟨fun i e he f fd D => ?_, ar'⟩
    have eg : gfn F ds (n + 1) i = fun args w => match ds[i]? with
        | some (.ir d) => runFn (gfn F ds n) F d.fn args w
        | some (.draw _) => drawF args w
        | none => none := rfl
    rw [he] at eg
    rw [eg]
    cases e with
    | draw st => exact (T.dw st f fd (List.mem_of_getElem? he) D).mono (by omega)
    | ir d =>
      have hd := T.df d (List.mem_of_getElem? he)
      obtain ⟨d1, hd⟩ := and2 hd
      obtain ⟨d2, hd⟩ := and2 hd
      obtain ⟨d3, d4⟩ := and2 hd
      have S := scope_ok d1
      have D : FnP K d.name d.st f fd := D
      refine D.ok S (fun vs H Q E h => ?_) (fun cdv A outer s H vs Q E hr h => ?_)
      · obtain ⟨_, _, _, _, _, _, _, _, hl, _⟩ := h
        exact hl
      · have C := T.ctx (F := F) ok ar (N := d.N) (nm := d.name) (sc := defScope d.st) (f := f) (cdv := cdv) (A := A) (outer := outer) (s := s) (H := H) (E := E) S.nd hr
        refine ⟨_, PSs.nox (soundSs (gfn F ds n) F d.fn.body _ _ (defBody d.st) d4 C PassesOwn.never), ?_⟩
        obtain ⟨g, S0, as, w', fl, z, w2, hK, hl, sb, r, ev, q⟩ := h
        have ev : runFn (gfn F ds n) F d.fn as w' = some (fl, z, w2) := ev
        have har := runFn_ar ev
        have e2 : d.fn.ar = d.ps.length := of_decide_eq_true d2
        have e3 : d.fn.n = d.N.length := of_decide_eq_true d3
        have hle : as.length ≤ d.N.length := by
          have := congrArg List.length S.pre
          rw [List.length_take] at this
          omega
        unfold runFn at ev
        rw [if_neg (by simpa using har)] at ev
        have o := entry_ok (N := d.N) (n := d.fn.n) sb r e3 hle
        split at ev
        · rename_i fl' d' s' es
          cases ev
          exact ⟨g, H, S0, _, _, _, s', hK, es, o, fun v H' k1 k2 k3 => q v H' k1 k2 k3⟩
        · rename_i s' es
          cases ev
          exact ⟨g, H, S0, _, _, _, s', hK, es, o, fun σ' H' ow' o' m' => q _ H' o'.k0 o'.sb.w rfl⟩
        · cases ev
end
end Mp
/-! MpP: the pool's promises, the law's. -/
namespace Mp
open PySem PySem.Spec PyProof.Rows L2
def spCell (K : PySem.W.Frag) : Sp := fun vs H Q _ => ∃ (a : Addr) (ns : List Int) (k : Nat), vs = [.ref a, .int (k : Nat)] ∧ SqL K H a (ns.map V.int) ∧ ∀ n, Q (.int n) H
def spNumbers : Sp := fun vs H Q _ => ∃ (cell : Int) (many : Nat), vs = [.int cell, .int (many : Nat)] ∧ many ≤ 1000 ∧ ∀ H' p (ns : List Int), Same H H' → H p = none → H' p = some (.lst (ns.map V.int)) → ns.length = many → Q (.ref p) H'
def spPool (K : PySem.W.Frag) : Sp := fun vs H Q _ => ∃ (a : Addr) (ns : List Int), vs = [.ref a] ∧ SqL K H a (ns.map V.int) ∧ ∀ H' p r c (rows : List Int), Same H H' → H p = none → H r = none → H c = none →
  H' p = some (.lst [.ref r, .ref c]) → H' r = some (.lst (rows.map V.int)) → H' c = some (.lst [.int ((0 : Nat) : Int)]) → 24 ≤ rows.length → rows.length ≤ 144 → Q (.ref p) H'
def spLaw (K : PySem.W.Frag) : Sp := fun vs H Q _ => ∃ (a : Addr) (ns : List Int), vs = [.ref a] ∧ SqL K H a (ns.map V.int) ∧ ns.length ≤ 63 ∧ ∀ H', Q (.bl true) H'
/-- the law over data: from any pool its body ends in True -/
def LawTrue (F : Nat) (ds : List Entry) (n : Nat) (N : List Str) (body : List Sm) : Prop := ∀ rows : List Int, 24 ≤ rows.length → rows.length ≤ 144 →
  ∃ fl s, evSs (gfn F ds n) F body ⟨none :: some (false, .pool) :: List.replicate (N.length - 2) none, ⟨rows, 0⟩⟩ = .ok (.rt fl (.bl true)) s
section
variable {P : Program} {w : World} {K : PySem.W.Frag} {mg : Str → Option Value} {base : Heap} {gs : List (Str × Const)} {ds : List Entry} {F : Nat}
theorem law_ok (T : Top P w K mg base gs ds) {st st0 : Stmt} {rest : List Stmt} {N : List Str} {body : List Sm} {n lp : Nat} {f fp : Addr} {fd fdp : FuncData} (D : FnP K "law" st f fd) (hst : defBody st = st0 :: rest)
    (S : FnScope N ["script"] (defScope st)) (hc : chkSs ⟨N, defScope st, fun _ => true, gs, ds.map Entry.name⟩ body rest = true) (hN : 2 ≤ N.length) (hlp : lp ≤ n)
    (h0 : ∀ X : Cx, X.N = N → X.N.Nodup → X.env.scope = defScope st → X.calm = true → X.K = K → X.mg = mg → X.prog = P → X.w = w → X.base = base → (X.fn = fun _ => true) → Room lp X.A → FnOk P w K mg base CX0 lp fp fdp ["script"] (spPool K) →
      PS X st0 (tAsg (tCall (spPool K) [] E0 (tCons (tVar 0) tNil)) (gName 1)))
    (Fp : FnOk P w K mg base CX0 lp fp fdp ["script"] (spPool K)) (law : LawTrue F ds n N body) : FnOk P w K mg base CX0 (n + 1) f fd ["script"] (spLaw K) := by
  obtain ⟨ok, ar⟩ := T.all (F := F) n
  refine D.ok S (fun vs H Q E h => ?_) (fun cdv A outer s H vs Q E hr h => ?_)
  · obtain ⟨a, ns, rfl, _⟩ := h
    rfl
  · have C := T.ctx (F := F) ok ar (N := N) (nm := "law") (sc := defScope st) (f := f) (cdv := cdv) (A := A) (outer := outer) (s := s) (H := H) (E := E) S.nd hr
    refine ⟨_, PSs.nox (hst ▸ pss_cons (h0 (cxOf CX0 P w K mg base N "law" (defScope st) f cdv A outer s H E).nox rfl S.nd rfl rfl rfl rfl rfl rfl rfl rfl (hr.mono hlp) Fp) (soundSs (gfn F ds n) F body _ _ rest hc C PassesOwn.never)), ?_⟩
    obtain ⟨a, ns, rfl, hS, hlen, q⟩ := h
    have hlN : 2 ≤ N.length := hN
    refine ⟨.ref a, ?_, a, ns, rfl, hS, fun H' p r c rows sm np nr nc hp hr' hc' h24 h144 => ?_⟩
    · show (L2.start N [.ref a])[0]? = _
      rfl
    have nrc : r ≠ c := fun e => by
      rw [e, hc'] at hr'
      have := congrArg List.length (HO.lst.inj (Option.some.inj hr'))
      rw [List.length_map] at this
      simp at this
      omega
    obtain ⟨fl, s', ev⟩ := law rows h24 h144
    let g : Gb := ⟨K, p, r, c⟩
    have e1 : (L2.start N [V.ref a]).set 1 (some (.ref p)) = some (.ref a) :: some (.ref p) :: List.replicate (N.length - 2) none := by
      obtain ⟨m, hm⟩ : ∃ m, N.length = m + 2 := ⟨N.length - 2, by omega⟩
      unfold L2.start
      rw [hm]
      show (some (V.ref a) :: List.replicate (m + 1) none).set 1 _ = _
      rw [List.replicate_succ]
      rfl
    show tSs K (gfn F ds n) F body _ ((L2.start N [V.ref a]).set 1 (some (.ref p))) H'
    rw [e1]
    refine ⟨g, H', fun b => b = p ∨ b = r ∨ b = c, fun _ => 0, _, _, s', rfl, ev, ?_, fun v H2 k1 k2 k3 => ?_⟩
    · have no : ∀ i, ¬ owned ⟨none :: some (false, Mp.D.pool) :: List.replicate (N.length - 2) none, ⟨rows, 0⟩⟩ i := fun i ⟨d, h⟩ => by
        have h : (none :: some (false, Mp.D.pool) :: List.replicate (N.length - 2) none : List (Option (Bool × Mp.D)))[i]? = some (some (true, d)) := h
        match i, h with
        | 0, h => cases h
        | 1, h => cases h
        | i + 2, h =>
          have h : (List.replicate (N.length - 2) (none : Option (Bool × Mp.D)))[i]? = some (some (true, d)) := h
          rw [List.getElem?_replicate] at h
          split at h <;> cases h
      refine ⟨fun i d h => ?_, fun i d h => (no i ⟨d, h⟩).elim, fun i j hi => (no i hi).elim, ⟨fun b hb => ?_, .inl rfl, .inr (.inl rfl), .inr (.inr rfl), hp, hr', hc', nrc⟩, Kp.refl, ?_⟩
      · have h : (none :: some (false, Mp.D.pool) :: List.replicate (N.length - 2) none : List (Option (Bool × Mp.D)))[i]? = some (some (false, d)) := h
        match i, h with
        | 0, h => cases h
        | 1, h =>
          cases h
          exact ⟨.ref p, rfl, rfl⟩
        | i + 2, h =>
          have h : (List.replicate (N.length - 2) (none : Option (Bool × Mp.D)))[i]? = some (some (false, d)) := h
          rw [List.getElem?_replicate] at h
          split at h <;> cases h
      · rcases hb with hb | hb | hb
        · rw [hb, hp]; exact fun z => nomatch z
        · rw [hb, hr']; exact fun z => nomatch z
        · rw [hb, hc']; exact fun z => nomatch z
      · simp
    · have k3 := k3.rp (fun b hb => by
        rcases hb with hb | hb | hb
        · rw [hb, hp]; exact fun z => nomatch z
        · rw [hb, hr']; exact fun z => nomatch z
        · rw [hb, hc']; exact fun z => nomatch z)
      have e : v = .bl true := k3
      rw [e]
      exact q H2
end
end Mp
/-! MpH: from what the head tells to the table of defs. -/
namespace Mp
open PySem PySem.Spec PyProof.Rows L2
def defD (p : Str × Stmt) : He.DefD := ⟨(p.1, none), p.1, p.1, defArgs p.2, defBody p.2, defScope p.2, [], []⟩
def fa1 : Str × Const → He.Fa
  | (x, .int i) => .int x i
  | (x, .str z) => .str x z
  | (x, _) => .glo x
def fa1B : Str × Const → Bool
  | (_, .int _) => true
  | (_, .str _) => true
  | _ => false
def faOf (gs : List (Str × Const)) (defs : List (Str × Stmt)) : List He.Fa := defs.map (fun p => .glo p.1) ++ (fbs.map .free ++ gs.map fa1)
section
variable {fa : List He.Fa} {fn : List He.DefD} {K : PySem.W.Frag}
theorem says_fact (c : He.SaysD fa fn K) {f : He.Fa} (h : f ∈ fa) : f.ok K = true := by
  obtain ⟨i, e⟩ := List.getElem?_of_mem h
  exact c.fact i e
theorem says_def (c : He.SaysD fa fn K) {d : He.DefD} (h : d ∈ fn) : ∃ fd, FunD K d.name d.qual d.params d.body d.scope (d.dvs K) (d.kws K) (He.fAd K d.at_) fd := by
  obtain ⟨i, e⟩ := List.getElem?_of_mem h
  exact c.def_ i e
theorem lookup_mem {α : Type} {x : Str} {c : α} : ∀ {l : List (Str × α)}, l.lookup x = some c → (x, c) ∈ l
  | [], h => by cases h
  | (y, d) :: r, h => by
    rw [List.lookup_cons] at h
    split at h
    · rename_i e
      cases h
      rw [eq_of_beq e]
      exact List.mem_cons_self
    · exact List.mem_cons_of_mem _ (lookup_mem h)
end
section
variable {P : Program} {w : World} {K : PySem.W.Frag} {h : Heap} {mg : Str → Option Value} {base : Heap} {gs : List (Str × Const)} {defs : List (Str × Stmt)} {es : List Entry}
theorem said_def (X : K.In h) (G : h.Ns mainGlobals mg) (c : He.SaysD (faOf gs defs) (defs.map defD) K) {x : Str} {st : Stmt} (m : (x, st) ∈ defs) : ∃ f fd, mg x = some (.ref f) ∧ FnP K x st f fd := by
  obtain ⟨fd, F⟩ := says_def c (d := defD (x, st)) (List.mem_map.mpr ⟨_, m, rfl⟩)
  exact ⟨_, fd, He.glo_ok X G (says_fact c (f := .glo x) (List.mem_append_left _ (List.mem_map.mpr ⟨_, m, rfl⟩))), F⟩
theorem said_free (X : K.In h) (G : h.Ns mainGlobals mg) (c : He.SaysD (faOf gs defs) (defs.map defD) K) {x : Str} (m : x ∈ fbs) : mg x = none :=
  He.free_ok X G (says_fact c (f := .free x) (List.mem_append_right _ (List.mem_append_left _ (List.mem_map.mpr ⟨_, m, rfl⟩))))
theorem top_of (X : K.In h) (G : h.Ns mainGlobals mg) (c : He.SaysD (faOf gs defs) (defs.map defD) K) (hgs : gs.all fa1B = true) (hes : ∀ e ∈ es, (e.name, e.st) ∈ defs) (bd : ∀ e ∈ es, BindB e.name e.st e.ps)
    (df : ∀ d, Entry.ir d ∈ es → defB gs (es.map Entry.name) d = true) (dw : ∀ st f fd, Entry.draw st ∈ es → FnP K "_law_draw" st f fd → FnOk P w K mg base CX0 1 f fd ["pool", "many"] (spOf K 2 drawF)) : Top P w K mg base gs es where
  fr := fun x hx => said_free X G c hx
  gl := fun x cc hx d hd => by
    have m := lookup_mem hx
    have b := List.all_eq_true.mp hgs _ m
    have ok := says_fact c (f := fa1 (x, cc)) (List.mem_append_right _ (List.mem_append_right _ (List.mem_map.mpr ⟨_, m, rfl⟩)))
    cases cc <;> first | (cases b; done) | skip
    · rename_i i
      obtain ⟨t, e⟩ := He.int_ok X G ok
      cases d <;> first | (cases hd; done) | skip
      rename_i j
      have e2 : i = j := of_decide_eq_true hd
      subst e2
      refine ⟨_, e, fun g H A v r => ?_⟩
      have r : v = .int i := r
      subst r
      exact ⟨t, rfl⟩
    · rename_i z
      obtain ⟨t, e⟩ := He.str_ok X G ok
      cases d <;> first | (cases hd; done) | skip
      rename_i j
      have e2 : z = j := of_decide_eq_true hd
      subst e2
      refine ⟨_, e, fun g H A v r => ?_⟩
      have r : v = .str z := r
      subst r
      exact ⟨t, rfl⟩
  has := fun i e he => said_def X G c (hes e (List.mem_of_getElem? he))
  bd := bd
  df := df
  dw := dw
theorem df_of (b : es.all (fun e => match e with
    | .ir d => defB gs (es.map Entry.name) d
    | .draw _ => true) = true) : ∀ d, Entry.ir d ∈ es → defB gs (es.map Entry.name) d = true := fun d m => List.all_eq_true.mp b _ m
end
end Mp
/-! Mw: what is to be shown of a term for a wish (backwards), and that it is enough. -/
namespace Mp
open PySem PySem.Spec PyProof.Rows L2
abbrev Wx := Kd × D → Sta → Prop
def R.W {α : Type} (r : R α) (Q : α → Sta → Prop) : Prop := ∃ a s, r = .ok a s ∧ Q a s
mutual
def wE (gf : Gf) : Ex → Sta → Wx → Prop
  | .v i, s, Q => match s.sl[i]? with
    | some (some (false, d)) => Q (.val, d) s
    | some (some (true, d)) => Q (.val, d) (s.set i (some (false, d)))
    | _ => False
  | .b i, s, Q => match s.sl[i]? with
    | some (some (false, d)) => Q (.val, d) s
    | some (some (true, d)) => Q (.bo, d) s
    | _ => False
  | .k c, s, Q => Q (.val, c) s
  | .g _ c, s, Q => Q (.val, c) s
  | .tup es, s, Q => wL gf es s fun ds s => match stor ds with
    | some ds => Q (.val, .tup ds) s
    | none => False
  | .lst es, s, Q => wL gf es s fun ds s => match stor ds with
    | some ds => Q (.fr, .lst ds) s
    | none => False
  | .bin op a b, s, Q => wE gf a s fun x s => wE gf b s fun y s => ∃ z, bin op x.2 y.2 = some z ∧ Q (kd z.1, z.2) s
  | .neg a, s, Q => wE gf a s fun x s => match toI x with
    | some i => Q (.val, .int (-i)) s
    | none => False
  | .nt a, s, Q => wE gf a s fun x s => match toB x with
    | some b => Q (.val, .bl (!b)) s
    | none => False
  | .cmp op a b, s, Q => wE gf a s fun x s => wE gf b s fun y s => ∃ z, cmp op x.2 y.2 = some z ∧ Q (.val, .bl z) s
  | .chn o1 o2 a b c, s, Q => wE gf a s fun x s => wE gf b s fun y s => ∃ k, cmp o1 x.2 y.2 = some k ∧
      (k = true → wE gf c s fun z s => ∃ k, cmp o2 y.2 z.2 = some k ∧ Q (.val, .bl k) s) ∧ (k = false → Q (.val, .bl false) s)
  | .and a b, s, Q => wE gf a s fun x s => match toB x with
    | some k => (k = true → wE gf b s Q) ∧ (k = false → Q (.val, .bl false) s)
    | none => False
  | .or a b, s, Q => wE gf a s fun x s => match toB x with
    | some k => (k = true → Q (.val, .bl true) s) ∧ (k = false → wE gf b s Q)
    | none => False
  | .ite t a b, s, Q => wE gf t s fun x s => match toB x with
    | some k => (k = true → wE gf a s Q) ∧ (k = false → wE gf b s Q)
    | none => False
  | .ix a i, s, Q => wE gf a s fun x s => wE gf i s fun y s => ∃ z, ix x.2 y.2 = some z ∧ Q (.val, z) s
  | .sl a lo hi, s, Q => wE gf a s fun x s => wO gf lo s fun l s => wO gf hi s fun h s => ∃ z, slc x.2 l h = some z ∧ Q (kd z.1, z.2) s
  | .call f es, s, Q => wL gf es s fun ds s => match stor ds with
    | some ds => ∃ fl d w, gf f ds s.w = some (fl, d, w) ∧ Q (kd fl, d) { s with w := w }
    | none => False
  | .bi b es, s, Q => wL gf es s fun ds s => ∃ z, bi b (ds.map (·.2)) = some z ∧ Q (kd z.1, z.2) s
  | .isi t a, s, Q => wE gf a s fun x s => ∃ z, isi t x.2 = some z ∧ Q (.val, .bl z) s
  | .mt m a, s, Q => wE gf a s fun x s => ∃ z, mt m x.2 [] = some z ∧ Q (kd z.1, z.2) s
  | .lc elt tg sk es ifs own, s, Q => wL gf es s fun ds s0 => freeS (own.map (·.2)) s0 = true ∧ ∃ ds', items sk ds = some ds' ∧
      (lcGo (bindT tg) (fun s => evI gf ifs s) (fun s => (evE gf elt s).bind fun x s => R.opt s (toD x)) (wipeS (own.map (·.2))) ds' s0).W fun xs s => xs.length ≤ sizeLine ∧ Q (.fr, .lst xs) (backS (own.map (·.2)) s0 s)
  | .lc2 elt tg sk es tg1 sk1 es1 ifs1 own vs1, s, Q => wL gf es s fun ds s0 => freeS (own.map (·.2)) s0 = true ∧ ∃ ds', items sk ds = some ds' ∧
      (lcGo2 (bindT tg) (fun s => (evL gf es1 s).bind fun ds1 s => match items sk1 ds1 with
        | some ds1 => lcGo (bindT tg1) (fun s => evI gf ifs1 s) (fun s => (evE gf elt s).bind fun x s => R.opt s (toD x)) (wipeS vs1) ds1 s
        | none => .bad) (wipeS (own.map (·.2))) ds' s0).W fun xs s => xs.length ≤ sizeLine ∧ Q (.fr, .lst xs) (backS (own.map (·.2)) s0 s)
def wL (gf : Gf) : List Ex → Sta → (List (Kd × D) → Sta → Prop) → Prop
  | [], s, Q => Q [] s
  | e :: es, s, Q => wE gf e s fun x s => wL gf es s fun xs s => Q (x :: xs) s
def wO (gf : Gf) : Option Ex → Sta → (Option Int → Sta → Prop) → Prop
  | none, s, Q => Q none s
  | some e, s, Q => wE gf e s fun x s => match toI x with
    | some i => Q (some i) s
    | none => False
def wI (gf : Gf) : Option Ex → Sta → (Bool → Sta → Prop) → Prop
  | none, s, Q => Q true s
  | some e, s, Q => wE gf e s fun x s => match toB x with
    | some b => Q b s
    | none => False
end
theorem W_bind {α β : Type} {r : R α} {f : α → Sta → R β} {Q : β → Sta → Prop} (h : r.W fun a s => (f a s).W Q) : (r.bind f).W Q := by
  obtain ⟨a, s, e, b, s', e2, q⟩ := h
  exact ⟨b, s', by rw [e]; exact e2, q⟩
theorem W_mono {α : Type} {r : R α} {Q Q' : α → Sta → Prop} (h : r.W Q) (k : ∀ a s, Q a s → Q' a s) : r.W Q' := by
  obtain ⟨a, s, e, q⟩ := h
  exact ⟨a, s, e, k a s q⟩
theorem W_opt {α β : Type} {o : Option β} {f : β → α} {s : Sta} {Q : α → Sta → Prop} {z : β} (e : o = some z) (q : Q (f z) s) : (R.opt s (o.map f)).W Q := ⟨_, _, by rw [e]; rfl, q⟩
mutual
theorem wE_ok (gf : Gf) : ∀ (e : Ex) (s : Sta) (Q : Wx), wE gf e s Q → (evE gf e s).W Q
  | .v i, s, Q, h => by
    unfold wE at h
    unfold evE
    revert h
    cases s.sl[i]? with
    | none => exact fun h => h.elim
    | some o => cases o with
      | none => exact fun h => h.elim
      | some p =>
        obtain ⟨fl, d⟩ := p
        cases fl <;> exact fun h => ⟨_, _, rfl, h⟩
  | .b i, s, Q, h => by
    unfold wE at h
    unfold evE
    revert h
    cases s.sl[i]? with
    | none => exact fun h => h.elim
    | some o => cases o with
      | none => exact fun h => h.elim
      | some p =>
        obtain ⟨fl, d⟩ := p
        cases fl <;> exact fun h => ⟨_, _, rfl, h⟩
  | .k c, s, Q, h => ⟨_, _, by unfold evE; rfl, by unfold wE at h; exact h⟩
  | .g _ c, s, Q, h => ⟨_, _, by unfold evE; rfl, by unfold wE at h; exact h⟩
  | .tup es, s, Q, h => by
    unfold wE at h
    unfold evE
    refine W_bind (W_mono (wL_ok gf es s _ h) fun ds s q => ?_)
    cases e : stor ds with
    | none => rw [e] at q; exact q.elim
    | some xs => rw [e] at q; exact W_opt rfl q
  | .lst es, s, Q, h => by
    unfold wE at h
    unfold evE
    refine W_bind (W_mono (wL_ok gf es s _ h) fun ds s q => ?_)
    cases e : stor ds with
    | none => rw [e] at q; exact q.elim
    | some xs => rw [e] at q; exact W_opt rfl q
  | .bin op a b, s, Q, h => by
    unfold wE at h
    unfold evE
    refine W_bind (W_mono (wE_ok gf a s _ h) fun x s q => W_bind (W_mono (wE_ok gf b s _ q) fun y s q => ?_))
    obtain ⟨z, e, q⟩ := q
    exact W_opt e q
  | .neg a, s, Q, h => by
    unfold wE at h
    unfold evE
    refine W_bind (W_mono (wE_ok gf a s _ h) fun x s q => ?_)
    cases e : toI x with
    | none => rw [e] at q; exact q.elim
    | some i => rw [e] at q; exact W_opt rfl q
  | .nt a, s, Q, h => by
    unfold wE at h
    unfold evE
    refine W_bind (W_mono (wE_ok gf a s _ h) fun x s q => ?_)
    cases e : toB x with
    | none => rw [e] at q; exact q.elim
    | some i => rw [e] at q; exact W_opt rfl q
  | .cmp op a b, s, Q, h => by
    unfold wE at h
    unfold evE
    refine W_bind (W_mono (wE_ok gf a s _ h) fun x s q => W_bind (W_mono (wE_ok gf b s _ q) fun y s q => ?_))
    obtain ⟨z, e, q⟩ := q
    exact W_opt e q
  | .chn o1 o2 a b c, s, Q, h => by
    unfold wE at h
    unfold evE
    refine W_bind (W_mono (wE_ok gf a s _ h) fun x s q => W_bind (W_mono (wE_ok gf b s _ q) fun y s q => ?_))
    obtain ⟨k, e, q1, q2⟩ := q
    refine W_bind ⟨k, s, by rw [e]; rfl, ?_⟩
    cases k with
    | true =>
      refine W_bind (W_mono (wE_ok gf c s _ (q1 rfl)) fun z s q => ?_)
      obtain ⟨z, e, q⟩ := q
      exact W_opt e q
    | false => exact ⟨_, _, rfl, q2 rfl⟩
  | .and a b, s, Q, h => by
    unfold wE at h
    unfold evE
    refine W_bind (W_mono (wE_ok gf a s _ h) fun x s q => ?_)
    cases e : toB x with
    | none => rw [e] at q; exact q.elim
    | some k =>
      rw [e] at q
      refine W_bind ⟨k, s, rfl, ?_⟩
      cases k with
      | true => exact wE_ok gf b s _ (q.1 rfl)
      | false => exact ⟨_, _, rfl, q.2 rfl⟩
  | .or a b, s, Q, h => by
    unfold wE at h
    unfold evE
    refine W_bind (W_mono (wE_ok gf a s _ h) fun x s q => ?_)
    cases e : toB x with
    | none => rw [e] at q; exact q.elim
    | some k =>
      rw [e] at q
      refine W_bind ⟨k, s, rfl, ?_⟩
      cases k with
      | true => exact ⟨_, _, rfl, q.1 rfl⟩
      | false => exact wE_ok gf b s _ (q.2 rfl)
  | .ite t a b, s, Q, h => by
    unfold wE at h
    unfold evE
    refine W_bind (W_mono (wE_ok gf t s _ h) fun x s q => ?_)
    cases e : toB x with
    | none => rw [e] at q; exact q.elim
    | some k =>
      rw [e] at q
      refine W_bind ⟨k, s, rfl, ?_⟩
      cases k with
      | true => exact wE_ok gf a s _ (q.1 rfl)
      | false => exact wE_ok gf b s _ (q.2 rfl)
  | .ix a i, s, Q, h => by
    unfold wE at h
    unfold evE
    refine W_bind (W_mono (wE_ok gf a s _ h) fun x s q => W_bind (W_mono (wE_ok gf i s _ q) fun y s q => ?_))
    obtain ⟨z, e, q⟩ := q
    exact W_opt e q
  | .sl a lo hi, s, Q, h => by
    unfold wE at h
    unfold evE
    refine W_bind (W_mono (wE_ok gf a s _ h) fun x s q => W_bind (W_mono (wO_ok gf lo s _ q) fun y s q => W_bind (W_mono (wO_ok gf hi s _ q) fun y s q => ?_)))
    obtain ⟨z, e, q⟩ := q
    exact W_opt e q
  | .call f es, s, Q, h => by
    unfold wE at h
    unfold evE
    refine W_bind (W_mono (wL_ok gf es s _ h) fun ds s q => ?_)
    cases e : stor ds with
    | none => rw [e] at q; exact q.elim
    | some xs =>
      rw [e] at q
      obtain ⟨fl, d, w, e2, q⟩ := q
      exact ⟨_, _, by simp only [e2], q⟩
  | .bi b es, s, Q, h => by
    unfold wE at h
    unfold evE
    refine W_bind (W_mono (wL_ok gf es s _ h) fun ds s q => ?_)
    obtain ⟨z, e, q⟩ := q
    exact W_opt e q
  | .isi t a, s, Q, h => by
    unfold wE at h
    unfold evE
    refine W_bind (W_mono (wE_ok gf a s _ h) fun x s q => ?_)
    obtain ⟨z, e, q⟩ := q
    exact W_opt e q
  | .mt m a, s, Q, h => by
    unfold wE at h
    unfold evE
    refine W_bind (W_mono (wE_ok gf a s _ h) fun x s q => ?_)
    obtain ⟨z, e, q⟩ := q
    exact W_opt e q
  | .lc elt tg sk es ifs own, s, Q, h => by
    unfold wE at h
    unfold evE
    refine W_bind (W_mono (wL_ok gf es s _ h) fun ds s q => ?_)
    obtain ⟨hf, ds', e, q⟩ := q
    simp only [hf, if_true, e]
    refine W_bind (W_mono q fun xs s1 q => ?_)
    simp only [q.1, if_true]
    exact ⟨_, _, rfl, q.2⟩
  | .lc2 elt tg sk es tg1 sk1 es1 ifs1 own vs1, s, Q, h => by
    unfold wE at h
    unfold evE
    refine W_bind (W_mono (wL_ok gf es s _ h) fun ds s q => ?_)
    obtain ⟨hf, ds', e, q⟩ := q
    simp only [hf, if_true, e]
    refine W_bind (W_mono q fun xs s1 q => ?_)
    simp only [q.1, if_true]
    exact ⟨_, _, rfl, q.2⟩
theorem wL_ok (gf : Gf) : ∀ (es : List Ex) (s : Sta) (Q : List (Kd × D) → Sta → Prop), wL gf es s Q → (evL gf es s).W Q
  | [], s, Q, h => ⟨_, _, by unfold evL; rfl, by unfold wL at h; exact h⟩
  | e :: es, s, Q, h => by
    unfold wL at h
    unfold evL
    exact W_bind (W_mono (wE_ok gf e s _ h) fun x s q => W_bind (W_mono (wL_ok gf es s _ q) fun xs s q => ⟨_, _, rfl, q⟩))
theorem wO_ok (gf : Gf) : ∀ (e : Option Ex) (s : Sta) (Q : Option Int → Sta → Prop), wO gf e s Q → (evO gf e s).W Q
  | none, s, Q, h => ⟨_, _, by unfold evO; rfl, by unfold wO at h; exact h⟩
  | some e, s, Q, h => by
    unfold wO at h
    unfold evO
    refine W_bind (W_mono (wE_ok gf e s _ h) fun x s q => ?_)
    cases e : toI x with
    | none => rw [e] at q; exact q.elim
    | some i => rw [e] at q; exact W_opt rfl q
theorem wI_ok (gf : Gf) : ∀ (e : Option Ex) (s : Sta) (Q : Bool → Sta → Prop), wI gf e s Q → (evI gf e s).W Q
  | none, s, Q, h => ⟨_, _, by unfold evI; rfl, by unfold wI at h; exact h⟩
  | some e, s, Q, h => by
    unfold wI at h
    unfold evI
    refine W_bind (W_mono (wE_ok gf e s _ h) fun x s q => ?_)
    cases e : toB x with
    | none => rw [e] at q; exact q.elim
    | some i => rw [e] at q; exact ⟨_, _, rfl, q⟩
end
/-! ### statements -/
abbrev Wf := Fl → Sta → Prop
mutual
def wS (gf : Gf) (F : Nat) : Sm → Sta → Wf → Prop
  | .asg (.nm i) e, s, Q => wE gf e s fun x s => match x with
    | (.val, d) => Q .nx (s.set i (some (false, d)))
    | (.fr, d) => Q .nx (s.set i (some (true, d)))
    | (.bo, _) => False
  | .asg (.tp ts) e, s, Q => wE gf e s fun x s => match toD x with
    | some d => ∃ s', bindT (.tp ts) d s = some s' ∧ Q .nx s'
    | none => False
  | .aug i e, s, Q => match s.sl[i]? with
    | some (some (false, .int a)) => wE gf e s fun x s => match x.2 with
      | .int b => Q .nx (s.set i (some (false, .int (a + b))))
      | _ => False
    | _ => False
  | .ret (.v i), s, Q => match s.sl[i]? with
    | some (some (fl, d)) => Q (.rt fl d) s
    | _ => False
  | .ret e, s, Q => wE gf e s fun x s => match x with
    | (.val, d) => Q (.rt false d) s
    | (.fr, d) => Q (.rt true d) s
    | (.bo, _) => False
  | .ex e, s, Q => wE gf e s fun _ s => Q .nx s
  | .app i e, s, Q => match s.sl[i]? with
    | some (some (true, .lst _)) => wE gf e s fun x s => match toD x with
      | none => False
      | some d => match s.sl[i]? with
        | some (some (true, .lst ds)) => ds.length < sizeLine ∧ Q .nx (s.set i (some (true, .lst (ds ++ [d]))))
        | _ => False
    | _ => False
  | .ife t a b, s, Q => wE gf t s fun x s => match toB x with
    | some k => (k = true → wSs gf F a s Q) ∧ (k = false → wSs gf F b s Q)
    | none => False
  | .for t sk es body, s, Q => wL gf es s fun ds s => ∃ ds', items sk ds = some ds' ∧ (forGo (bindT t) (fun s => evSs gf F body s) ds' s).W Q
  | .whl t body, s, Q => (whlGo (fun s => (evE gf t s).bind fun x s => R.opt s (toB x)) (fun s => evSs gf F body s) F s).W Q
  | .pas, s, Q => Q .nx s
  | .brk, s, Q => Q .bk s
  | .cnt, s, Q => Q .ct s
def wSs (gf : Gf) (F : Nat) : List Sm → Sta → Wf → Prop
  | [], s, Q => Q .nx s
  | st :: r, s, Q => wS gf F st s fun f s => match f with
    | .nx => wSs gf F r s Q
    | f => Q f s
end
theorem ret_ok {gf : Gf} {e : Ex} {s : Sta} {Q : Wf} (h : wE gf e s fun x s => match x with
    | (.val, d) => Q (.rt false d) s
    | (.fr, d) => Q (.rt true d) s
    | (.bo, _) => False) : ((evE gf e s).bind fun x s => match x with
    | (.val, d) => .ok (.rt false d) s
    | (.fr, d) => .ok (.rt true d) s
    | (.bo, _) => R.bad).W Q := by
  refine W_bind (W_mono (wE_ok gf e s _ h) fun x s q => ?_)
  obtain ⟨kk, d⟩ := x
  cases kk with
  | val => exact ⟨_, _, rfl, q⟩
  | fr => exact ⟨_, _, rfl, q⟩
  | bo => exact q.elim
mutual
theorem wS_ok (gf : Gf) (F : Nat) : ∀ (st : Sm) (s : Sta) (Q : Wf), wS gf F st s Q → (evS gf F st s).W Q
  | .asg (.nm i) e, s, Q, h => by
    unfold wS at h
    unfold evS
    refine W_bind (W_mono (wE_ok gf e s _ h) fun x s q => ?_)
    obtain ⟨kk, d⟩ := x
    cases kk with
    | val => exact ⟨_, _, rfl, q⟩
    | fr => exact ⟨_, _, rfl, q⟩
    | bo => exact q.elim
  | .asg (.tp ts) e, s, Q, h => by
    unfold wS at h
    unfold evS
    refine W_bind (W_mono (wE_ok gf e s _ h) fun x s q => ?_)
    cases e : toD x with
    | none => rw [e] at q; exact q.elim
    | some d =>
      rw [e] at q
      obtain ⟨s', e2, q⟩ := q
      exact ⟨_, _, by simp only [e2], q⟩
  | .aug i e, s, Q, h => by
    unfold wS at h
    unfold evS
    revert h
    cases s.sl[i]? with
    | none => exact fun h => h.elim
    | some o => cases o with
      | none => exact fun h => h.elim
      | some p =>
        obtain ⟨fl, d⟩ := p
        cases fl with
        | true => exact fun h => h.elim
        | false => cases d with
          | int a =>
            intro h
            refine W_bind (W_mono (wE_ok gf e s _ h) fun x s q => ?_)
            obtain ⟨kk, d⟩ := x
            cases d with
            | int b => exact ⟨_, _, rfl, q⟩
            | _ => exact q.elim
          | _ => exact fun h => h.elim
  | .ret e, s, Q, h => by
    cases e with
    | v i =>
      unfold wS at h
      unfold evS
      revert h
      cases s.sl[i]? with
      | none => exact fun h => h.elim
      | some o => cases o with
        | none => exact fun h => h.elim
        | some p => exact fun h => ⟨_, _, rfl, h⟩
    | _ =>
      simp only [wS] at h
      simp only [evS]
      exact ret_ok h
  | .ex e, s, Q, h => by
    unfold wS at h
    unfold evS
    exact W_bind (W_mono (wE_ok gf e s _ h) fun x s q => ⟨_, _, rfl, q⟩)
  | .app i e, s, Q, h => by
    unfold wS at h
    unfold evS
    revert h
    cases s.sl[i]? with
    | none => exact fun h => h.elim
    | some o => cases o with
      | none => exact fun h => h.elim
      | some p =>
        obtain ⟨fl, d⟩ := p
        cases fl with
        | false => exact fun h => h.elim
        | true => cases d with
          | lst ds =>
            intro h
            refine W_bind (W_mono (wE_ok gf e s _ h) fun x s q => ?_)
            cases e : toD x with
            | none => rw [e] at q; exact q.elim
            | some y =>
              rw [e] at q
              revert q
              cases s.sl[i]? with
              | none => exact fun h => h.elim
              | some o => cases o with
                | none => exact fun h => h.elim
                | some p =>
                  obtain ⟨fl, d⟩ := p
                  cases fl with
                  | false => exact fun h => h.elim
                  | true => cases d with
                    | lst ds =>
                      intro q
                      simp only [q.1, if_true]
                      exact ⟨_, _, rfl, q.2⟩
                    | _ => exact fun h => h.elim
          | _ => exact fun h => h.elim
  | .ife t a b, s, Q, h => by
    unfold wS at h
    unfold evS
    refine W_bind (W_mono (wE_ok gf t s _ h) fun x s q => ?_)
    cases e : toB x with
    | none => rw [e] at q; exact q.elim
    | some k =>
      rw [e] at q
      refine W_bind ⟨k, s, rfl, ?_⟩
      cases k with
      | true => exact wSs_ok gf F a s _ (q.1 rfl)
      | false => exact wSs_ok gf F b s _ (q.2 rfl)
  | .for t sk es body, s, Q, h => by
    unfold wS at h
    unfold evS
    refine W_bind (W_mono (wL_ok gf es s _ h) fun ds s q => ?_)
    obtain ⟨ds', e, q⟩ := q
    simp only [e]
    exact q
  | .whl t body, s, Q, h => by
    unfold wS at h
    unfold evS
    exact h
  | .pas, s, Q, h => ⟨_, _, by unfold evS; rfl, by unfold wS at h; exact h⟩
  | .brk, s, Q, h => ⟨_, _, by unfold evS; rfl, by unfold wS at h; exact h⟩
  | .cnt, s, Q, h => ⟨_, _, by unfold evS; rfl, by unfold wS at h; exact h⟩
theorem wSs_ok (gf : Gf) (F : Nat) : ∀ (st : List Sm) (s : Sta) (Q : Wf), wSs gf F st s Q → (evSs gf F st s).W Q
  | [], s, Q, h => ⟨_, _, by unfold evSs; rfl, by unfold wSs at h; exact h⟩
  | st :: r, s, Q, h => by
    unfold wSs at h
    unfold evSs
    refine W_bind (W_mono (wS_ok gf F st s _ h) fun f s q => ?_)
    cases f with
    | nx => exact wSs_ok gf F r s _ q
    | bk => exact ⟨_, _, rfl, q⟩
    | ct => exact ⟨_, _, rfl, q⟩
    | rt fl d => exact ⟨_, _, rfl, q⟩
end
/-! ### and the other way -/
theorem W_bind_inv {α β : Type} {r : R α} {f : α → Sta → R β} {Q : β → Sta → Prop} (h : (r.bind f).W Q) : r.W fun a s => (f a s).W Q := by
  cases r with
  | bad => obtain ⟨_, _, e, _⟩ := h; cases e
  | ok a s => exact ⟨a, s, rfl, h⟩
theorem W_opt_inv {α β : Type} {o : Option β} {f : β → α} {s : Sta} {Q : α → Sta → Prop} (h : (R.opt s (o.map f)).W Q) : ∃ z, o = some z ∧ Q (f z) s := by
  obtain ⟨a, s', e, q⟩ := h
  cases o with
  | none => cases e
  | some z => cases e; exact ⟨z, rfl, q⟩
theorem W_ok_inv {α : Type} {a : α} {s : Sta} {Q : α → Sta → Prop} (h : (R.ok a s).W Q) : Q a s := by
  obtain ⟨_, _, e, q⟩ := h
  cases e
  exact q
theorem W_bad_inv {α : Type} {Q : α → Sta → Prop} {P : Prop} (h : (R.bad : R α).W Q) : P := by
  obtain ⟨_, _, e, q⟩ := h
  cases e
theorem W_opt1 {β : Type} {o : Option β} {s : Sta} {Q : β → Sta → Prop} (h : (R.opt s o).W Q) : ∃ z, o = some z ∧ Q z s := by
  obtain ⟨a, s', e, q⟩ := h
  cases o with
  | none => cases e
  | some z => cases e; exact ⟨_, rfl, q⟩
mutual
theorem wE_of (gf : Gf) : ∀ (e : Ex) (s : Sta) (Q : Wx), (evE gf e s).W Q → wE gf e s Q
  | .v i, s, Q, h => by
    unfold wE
    unfold evE at h
    revert h
    cases s.sl[i]? with
    | none => exact fun h => W_bad_inv h
    | some o => cases o with
      | none => exact fun h => W_bad_inv h
      | some p =>
        obtain ⟨fl, d⟩ := p
        cases fl <;> exact fun h => W_ok_inv h
  | .b i, s, Q, h => by
    unfold wE
    unfold evE at h
    revert h
    cases s.sl[i]? with
    | none => exact fun h => W_bad_inv h
    | some o => cases o with
      | none => exact fun h => W_bad_inv h
      | some p =>
        obtain ⟨fl, d⟩ := p
        cases fl <;> exact fun h => W_ok_inv h
  | .k c, s, Q, h => by
    unfold wE
    unfold evE at h
    exact W_ok_inv h
  | .g _ c, s, Q, h => by
    unfold wE
    unfold evE at h
    exact W_ok_inv h
  | .tup es, s, Q, h => by
    unfold wE
    unfold evE at h
    refine wL_of gf es s _ (W_mono (W_bind_inv h) fun ds s q => ?_)
    obtain ⟨z, e, q⟩ := W_opt_inv q
    rw [e]; exact q
  | .lst es, s, Q, h => by
    unfold wE
    unfold evE at h
    refine wL_of gf es s _ (W_mono (W_bind_inv h) fun ds s q => ?_)
    obtain ⟨z, e, q⟩ := W_opt_inv q
    rw [e]; exact q
  | .bin op a b, s, Q, h => by
    unfold wE
    unfold evE at h
    exact wE_of gf a s _ (W_mono (W_bind_inv h) fun x s q => wE_of gf b s _ (W_mono (W_bind_inv q) fun y s q => W_opt_inv q))
  | .neg a, s, Q, h => by
    unfold wE
    unfold evE at h
    refine wE_of gf a s _ (W_mono (W_bind_inv h) fun x s q => ?_)
    obtain ⟨z, e, q⟩ := W_opt_inv q
    rw [e]; exact q
  | .nt a, s, Q, h => by
    unfold wE
    unfold evE at h
    refine wE_of gf a s _ (W_mono (W_bind_inv h) fun x s q => ?_)
    obtain ⟨z, e, q⟩ := W_opt_inv q
    rw [e]; exact q
  | .cmp op a b, s, Q, h => by
    unfold wE
    unfold evE at h
    exact wE_of gf a s _ (W_mono (W_bind_inv h) fun x s q => wE_of gf b s _ (W_mono (W_bind_inv q) fun y s q => W_opt_inv q))
  | .chn o1 o2 a b c, s, Q, h => by
    unfold wE
    unfold evE at h
    refine wE_of gf a s _ (W_mono (W_bind_inv h) fun x s q => wE_of gf b s _ (W_mono (W_bind_inv q) fun y s q => ?_))
    obtain ⟨k, e, q⟩ := W_opt1 (W_bind_inv q)
    refine ⟨k, e, fun hk => ?_, fun hk => ?_⟩
    · subst hk
      exact wE_of gf c s _ (W_mono (W_bind_inv (show ((evE gf c s).bind _).W Q from q)) fun z s q => W_opt_inv q)
    · subst hk
      exact W_ok_inv q
  | .and a b, s, Q, h => by
    unfold wE
    unfold evE at h
    refine wE_of gf a s _ (W_mono (W_bind_inv h) fun x s q => ?_)
    obtain ⟨k, e, q⟩ := W_opt1 (W_bind_inv q)
    rw [e]
    refine ⟨fun hk => ?_, fun hk => ?_⟩
    · subst hk
      exact wE_of gf b s _ q
    · subst hk
      exact W_ok_inv q
  | .or a b, s, Q, h => by
    unfold wE
    unfold evE at h
    refine wE_of gf a s _ (W_mono (W_bind_inv h) fun x s q => ?_)
    obtain ⟨k, e, q⟩ := W_opt1 (W_bind_inv q)
    rw [e]
    refine ⟨fun hk => ?_, fun hk => ?_⟩
    · subst hk
      exact W_ok_inv q
    · subst hk
      exact wE_of gf b s _ q
  | .ite t a b, s, Q, h => by
    unfold wE
    unfold evE at h
    refine wE_of gf t s _ (W_mono (W_bind_inv h) fun x s q => ?_)
    obtain ⟨k, e, q⟩ := W_opt1 (W_bind_inv q)
    rw [e]
    refine ⟨fun hk => ?_, fun hk => ?_⟩
    · subst hk
      exact wE_of gf a s _ q
    · subst hk
      exact wE_of gf b s _ q
  | .ix a i, s, Q, h => by
    unfold wE
    unfold evE at h
    exact wE_of gf a s _ (W_mono (W_bind_inv h) fun x s q => wE_of gf i s _ (W_mono (W_bind_inv q) fun y s q => W_opt_inv q))
  | .sl a lo hi, s, Q, h => by
    unfold wE
    unfold evE at h
    exact wE_of gf a s _ (W_mono (W_bind_inv h) fun x s q => wO_of gf lo s _ (W_mono (W_bind_inv q) fun y s q => wO_of gf hi s _ (W_mono (W_bind_inv q) fun y s q => W_opt_inv q)))
  | .call f es, s, Q, h => by
    unfold wE
    unfold evE at h
    refine wL_of gf es s _ (W_mono (W_bind_inv h) fun ds s q => ?_)
    revert q
    cases stor ds with
    | none => exact fun q => W_bad_inv q
    | some xs =>
      intro q
      revert q
      show (match gf f xs s.w with
        | some (fl, d, w) => R.ok (kd fl, d) { s with w := w }
        | none => R.bad).W Q → ∃ fl d w, gf f xs s.w = some (fl, d, w) ∧ Q (kd fl, d) { s with w := w }
      cases gf f xs s.w with
      | none => exact fun q => W_bad_inv q
      | some r =>
        obtain ⟨fl, d, w⟩ := r
        exact fun q => ⟨fl, d, w, rfl, W_ok_inv q⟩
  | .bi b es, s, Q, h => by
    unfold wE
    unfold evE at h
    exact wL_of gf es s _ (W_mono (W_bind_inv h) fun ds s q => W_opt_inv q)
  | .isi t a, s, Q, h => by
    unfold wE
    unfold evE at h
    exact wE_of gf a s _ (W_mono (W_bind_inv h) fun ds s q => W_opt_inv q)
  | .mt m a, s, Q, h => by
    unfold wE
    unfold evE at h
    exact wE_of gf a s _ (W_mono (W_bind_inv h) fun ds s q => W_opt_inv q)
  | .lc elt tg sk es ifs own, s, Q, h => by
    unfold wE
    unfold evE at h
    refine wL_of gf es s _ (W_mono (W_bind_inv h) fun ds s q => ?_)
    revert q
    by_cases hf : freeS (own.map (·.2)) s = true
    · simp only [hf, if_true]
      cases items sk ds with
      | none => exact fun q => W_bad_inv q
      | some ds' =>
        intro q
        refine ⟨trivial, ds', rfl, W_mono (W_bind_inv q) fun xs s1 q => ?_⟩
        revert q
        by_cases hx : xs.length ≤ sizeLine
        · simp only [hx, if_true]
          exact fun q => ⟨trivial, W_ok_inv q⟩
        · simp only [hx, if_false]
          exact fun q => W_bad_inv q
    · simp only [hf, if_false]
      exact fun q => W_bad_inv q
  | .lc2 elt tg sk es tg1 sk1 es1 ifs1 own vs1, s, Q, h => by
    unfold wE
    unfold evE at h
    refine wL_of gf es s _ (W_mono (W_bind_inv h) fun ds s q => ?_)
    revert q
    by_cases hf : freeS (own.map (·.2)) s = true
    · simp only [hf, if_true]
      cases items sk ds with
      | none => exact fun q => W_bad_inv q
      | some ds' =>
        intro q
        refine ⟨trivial, ds', rfl, W_mono (W_bind_inv q) fun xs s1 q => ?_⟩
        revert q
        by_cases hx : xs.length ≤ sizeLine
        · simp only [hx, if_true]
          exact fun q => ⟨trivial, W_ok_inv q⟩
        · simp only [hx, if_false]
          exact fun q => W_bad_inv q
    · simp only [hf, if_false]
      exact fun q => W_bad_inv q
theorem wL_of (gf : Gf) : ∀ (es : List Ex) (s : Sta) (Q : List (Kd × D) → Sta → Prop), (evL gf es s).W Q → wL gf es s Q
  | [], s, Q, h => by
    unfold wL
    unfold evL at h
    exact W_ok_inv h
  | e :: es, s, Q, h => by
    unfold wL
    unfold evL at h
    exact wE_of gf e s _ (W_mono (W_bind_inv h) fun x s q => wL_of gf es s _ (W_mono (W_bind_inv q) fun xs s q => W_ok_inv q))
theorem wO_of (gf : Gf) : ∀ (e : Option Ex) (s : Sta) (Q : Option Int → Sta → Prop), (evO gf e s).W Q → wO gf e s Q
  | none, s, Q, h => by
    unfold wO
    unfold evO at h
    exact W_ok_inv h
  | some e, s, Q, h => by
    unfold wO
    unfold evO at h
    refine wE_of gf e s _ (W_mono (W_bind_inv h) fun x s q => ?_)
    obtain ⟨z, e, q⟩ := W_opt_inv q
    rw [e]; exact q
theorem wI_of (gf : Gf) : ∀ (e : Option Ex) (s : Sta) (Q : Bool → Sta → Prop), (evI gf e s).W Q → wI gf e s Q
  | none, s, Q, h => by
    unfold wI
    unfold evI at h
    exact W_ok_inv h
  | some e, s, Q, h => by
    unfold wI
    unfold evI at h
    refine wE_of gf e s _ (W_mono (W_bind_inv h) fun x s q => ?_)
    obtain ⟨z, e, q⟩ := W_opt1 q
    rw [e]; exact q
end
theorem wE_mono {gf : Gf} {e : Ex} {s : Sta} {Q Q' : Wx} (h : wE gf e s Q) (k : ∀ x s, Q x s → Q' x s) : wE gf e s Q' := wE_of gf e s _ (W_mono (wE_ok gf e s _ h) k)
theorem ret_of {gf : Gf} {e : Ex} {s : Sta} {Q : Wf} (h : ((evE gf e s).bind fun x s => match x with
    | (.val, d) => .ok (.rt false d) s
    | (.fr, d) => .ok (.rt true d) s
    | (.bo, _) => R.bad).W Q) : wE gf e s fun x s => match x with
    | (.val, d) => Q (.rt false d) s
    | (.fr, d) => Q (.rt true d) s
    | (.bo, _) => False := by
  refine wE_of gf e s _ (W_mono (W_bind_inv h) fun x s q => ?_)
  obtain ⟨kk, d⟩ := x
  cases kk with
  | val => exact W_ok_inv q
  | fr => exact W_ok_inv q
  | bo => exact W_bad_inv q
mutual
theorem wS_of (gf : Gf) (F : Nat) : ∀ (st : Sm) (s : Sta) (Q : Wf), (evS gf F st s).W Q → wS gf F st s Q
  | .asg (.nm i) e, s, Q, h => by
    unfold wS
    unfold evS at h
    refine wE_of gf e s _ (W_mono (W_bind_inv h) fun x s q => ?_)
    obtain ⟨kk, d⟩ := x
    cases kk with
    | val => exact W_ok_inv q
    | fr => exact W_ok_inv q
    | bo => exact W_bad_inv q
  | .asg (.tp ts) e, s, Q, h => by
    unfold wS
    unfold evS at h
    refine wE_of gf e s _ (W_mono (W_bind_inv h) fun x s q => ?_)
    revert q
    cases toD x with
    | none => exact fun q => W_bad_inv q
    | some d =>
      show (match bindT (.tp ts) d s with
        | some s => R.ok Fl.nx s
        | none => .bad).W Q → ∃ s', bindT (.tp ts) d s = some s' ∧ Q .nx s'
      cases bindT (.tp ts) d s with
      | none => exact fun q => W_bad_inv q
      | some s' => exact fun q => ⟨s', rfl, W_ok_inv q⟩
  | .aug i e, s, Q, h => by
    unfold wS
    unfold evS at h
    revert h
    cases s.sl[i]? with
    | none => exact fun h => W_bad_inv h
    | some o => cases o with
      | none => exact fun h => W_bad_inv h
      | some p =>
        obtain ⟨fl, d⟩ := p
        cases fl with
        | true => exact fun h => W_bad_inv h
        | false => cases d with
          | int a =>
            intro h
            refine wE_of gf e s _ (W_mono (W_bind_inv h) fun x s q => ?_)
            obtain ⟨kk, d⟩ := x
            cases d with
            | int b => exact W_ok_inv q
            | _ => exact W_bad_inv q
          | _ => exact fun h => W_bad_inv h
  | .ret e, s, Q, h => by
    cases e with
    | v i =>
      unfold wS
      unfold evS at h
      revert h
      cases s.sl[i]? with
      | none => exact fun h => W_bad_inv h
      | some o => cases o with
        | none => exact fun h => W_bad_inv h
        | some p => exact fun h => W_ok_inv h
    | _ =>
      simp only [wS]
      simp only [evS] at h
      exact ret_of h
  | .ex e, s, Q, h => by
    unfold wS
    unfold evS at h
    exact wE_of gf e s _ (W_mono (W_bind_inv h) fun x s q => W_ok_inv q)
  | .app i e, s, Q, h => by
    unfold wS
    unfold evS at h
    revert h
    cases s.sl[i]? with
    | none => exact fun h => W_bad_inv h
    | some o => cases o with
      | none => exact fun h => W_bad_inv h
      | some p =>
        obtain ⟨fl, d⟩ := p
        cases fl with
        | false => exact fun h => W_bad_inv h
        | true => cases d with
          | lst ds =>
            intro h
            refine wE_of gf e s _ (W_mono (W_bind_inv h) fun x s q => ?_)
            revert q
            cases toD x with
            | none => exact fun q => W_bad_inv q
            | some y =>
              show (match s.sl[i]? with
                | some (some (true, .lst ds)) => if ds.length < sizeLine then R.ok Fl.nx (s.set i (some (true, .lst (ds ++ [y])))) else .bad
                | _ => .bad).W Q → _
              cases s.sl[i]? with
              | none => exact fun h => W_bad_inv h
              | some o => cases o with
                | none => exact fun h => W_bad_inv h
                | some p =>
                  obtain ⟨fl, d⟩ := p
                  cases fl with
                  | false => exact fun h => W_bad_inv h
                  | true => cases d with
                    | lst ds =>
                      by_cases hx : ds.length < sizeLine
                      · simp only [hx, if_true]
                        exact fun q => ⟨trivial, W_ok_inv q⟩
                      · simp only [hx, if_false]
                        exact fun q => W_bad_inv q
                    | _ => exact fun h => W_bad_inv h
          | _ => exact fun h => W_bad_inv h
  | .ife t a b, s, Q, h => by
    unfold wS
    unfold evS at h
    refine wE_of gf t s _ (W_mono (W_bind_inv h) fun x s q => ?_)
    obtain ⟨k, e, q⟩ := W_opt1 (W_bind_inv q)
    rw [e]
    refine ⟨fun hk => ?_, fun hk => ?_⟩
    · subst hk
      exact wSs_of gf F a s _ q
    · subst hk
      exact wSs_of gf F b s _ q
  | .for t sk es body, s, Q, h => by
    unfold wS
    unfold evS at h
    refine wL_of gf es s _ (W_mono (W_bind_inv h) fun ds s q => ?_)
    revert q
    cases items sk ds with
    | none => exact fun q => W_bad_inv q
    | some ds' => exact fun q => ⟨ds', rfl, q⟩
  | .whl t body, s, Q, h => by
    unfold wS
    unfold evS at h
    exact h
  | .pas, s, Q, h => by
    unfold wS
    unfold evS at h
    exact W_ok_inv h
  | .brk, s, Q, h => by
    unfold wS
    unfold evS at h
    exact W_ok_inv h
  | .cnt, s, Q, h => by
    unfold wS
    unfold evS at h
    exact W_ok_inv h
theorem wSs_of (gf : Gf) (F : Nat) : ∀ (st : List Sm) (s : Sta) (Q : Wf), (evSs gf F st s).W Q → wSs gf F st s Q
  | [], s, Q, h => by
    unfold wSs
    unfold evSs at h
    exact W_ok_inv h
  | st :: r, s, Q, h => by
    unfold wSs
    unfold evSs at h
    refine wS_of gf F st s _ (W_mono (W_bind_inv h) fun f s q => ?_)
    cases f with
    | nx => exact wSs_of gf F r s _ q
    | bk => exact W_ok_inv q
    | ct => exact W_ok_inv q
    | rt fl d => exact W_ok_inv q
end
theorem wS_mono {gf : Gf} {F : Nat} {st : Sm} {s : Sta} {Q Q' : Wf} (h : wS gf F st s Q) (k : ∀ x s, Q x s → Q' x s) : wS gf F st s Q' := wS_of gf F st s _ (W_mono (wS_ok gf F st s _ h) k)
theorem wSs_mono {gf : Gf} {F : Nat} {st : List Sm} {s : Sta} {Q Q' : Wf} (h : wSs gf F st s Q) (k : ∀ x s, Q x s → Q' x s) : wSs gf F st s Q' := wSs_of gf F st s _ (W_mono (wSs_ok gf F st s _ h) k)
/-- a first statement by itself -/
theorem wSs_first {gf : Gf} {F : Nat} {st : Sm} {r : List Sm} {s : Sta} {Q : Wf} (P : Sta → Prop) (h : wS gf F st s fun f s => f = .nx ∧ P s) (k : ∀ s, P s → wSs gf F r s Q) : wSs gf F (st :: r) s Q := by
  unfold wSs
  refine wS_mono h fun f s q => ?_
  obtain ⟨rfl, q⟩ := q
  exact k s q
/-! ### calls -/
/-- the call of def i with these arguments ends so -/
def Cl (gf : Gf) (i : Nat) (as : List D) (w : Wd) (Q : Bool → D → Wd → Prop) : Prop := ∃ fl d w', gf i as w = some (fl, d, w') ∧ Q fl d w'
theorem run_ok {gf : Gf} {F : Nat} {f : Fn} {as : List D} {w : Wd} {Q : Bool → D → Wd → Prop} (ha : as.length = f.ar) (h : wSs gf F f.body ⟨as.map (fun d => some (false, d)) ++ List.replicate (f.n - as.length) none, w⟩ fun x s => match x with
    | .rt fl d => Q fl d s.w
    | .nx => Q false .non s.w
    | _ => False) : ∃ fl d w', runFn gf F f as w = some (fl, d, w') ∧ Q fl d w' := by
  obtain ⟨x, s, e, q⟩ := wSs_ok gf F _ _ _ h
  unfold runFn
  rw [if_neg (by simpa using ha), e]
  cases x with
  | nx => exact ⟨_, _, _, rfl, q⟩
  | rt fl d => exact ⟨_, _, _, rfl, q⟩
  | bk => exact q.elim
  | ct => exact q.elim
/-! ### loops -/
theorem for_rule {gf : Gf} {F : Nat} {bt : D → Sta → Option Sta} {body : List Sm} {Q : Wf} {ds : List D} {s : Sta} (I : Nat → Sta → Prop) (h0 : I 0 s)
    (step : ∀ i d s, (hi : i < ds.length) → d = ds[i] → I i s → ∃ s', bt d s = some s' ∧ wSs gf F body s' fun f s => match f with
      | .nx => I (i + 1) s
      | .ct => I (i + 1) s
      | .bk => Q .nx s
      | .rt fl d => Q (.rt fl d) s) (fin : ∀ s, I ds.length s → Q .nx s) : (forGo bt (fun s => evSs gf F body s) ds s).W Q := by
  induction ds generalizing I s with
  | nil => exact ⟨_, _, rfl, fin s h0⟩
  | cons d ds ih =>
    obtain ⟨s', e, k⟩ := step 0 d s (Nat.zero_lt_succ _) rfl h0
    unfold forGo
    rw [e]
    refine W_bind (W_mono (wSs_ok gf F _ _ _ k) fun f s1 q => ?_)
    cases f with
    | nx => exact ih (fun i s => I (i + 1) s) q (fun i d s hi hd hI => step (i + 1) d s (Nat.succ_lt_succ hi) hd hI) fin
    | ct => exact ih (fun i s => I (i + 1) s) q (fun i d s hi hd hI => step (i + 1) d s (Nat.succ_lt_succ hi) hd hI) fin
    | bk => exact ⟨_, _, rfl, q⟩
    | rt fl d => exact ⟨_, _, rfl, q⟩
theorem whl_rule {gf : Gf} {F n : Nat} {t : Ex} {body : List Sm} {Q : Wf} {s : Sta} (I : Nat → Sta → Prop) (h0 : I n s)
    (step : ∀ m s, I m s → wE gf t s fun x s => match toB x with
      | some b => (b = true → ∃ m', m = m' + 1 ∧ wSs gf F body s fun f s => match f with
        | .nx => I m' s
        | .ct => I m' s
        | .bk => Q .nx s
        | .rt fl d => Q (.rt fl d) s) ∧ (b = false → Q .nx s)
      | none => False) {N : Nat} (hN : n < N) : (whlGo (fun s => (evE gf t s).bind fun x s => R.opt s (toB x)) (fun s => evSs gf F body s) N s).W Q := by
  induction N generalizing n s with
  | zero => omega
  | succ N ih =>
    unfold whlGo
    refine W_bind (r := (evE gf t s).bind fun x s => R.opt s (toB x)) (W_bind (W_mono (wE_ok gf t s _ (step n s h0)) fun x s1 q => ?_))
    cases e : toB x with
    | none => rw [e] at q; exact q.elim
    | some b =>
      rw [e] at q
      refine ⟨b, s1, rfl, ?_⟩
      cases b with
      | false => exact ⟨_, _, rfl, q.2 rfl⟩
      | true =>
        obtain ⟨m', hm, q2⟩ := q.1 rfl
        refine W_bind (W_mono (wSs_ok gf F _ _ _ q2) fun f s2 q => ?_)
        cases f with
        | nx => exact ih q (by omega)
        | ct => exact ih q (by omega)
        | bk => exact ⟨_, _, rfl, q⟩
        | rt fl d => exact ⟨_, _, rfl, q⟩
theorem lcW_rule {bt : D → Sta → Option Sta} {tst : Sta → R Bool} {el : Sta → R D} {wp : Sta → Sta} {ds : List D} {s : Sta} {Q : List D → Sta → Prop} (I : Nat → List D → Sta → Prop) (h0 : I 0 [] s)
    (step : ∀ i d xs s, (hi : i < ds.length) → d = ds[i] → I i xs s → ∃ s', bt d (wp s) = some s' ∧ (tst s').W fun b s => (b = true → (el s).W fun y s => I (i + 1) (xs ++ [y]) s) ∧ (b = false → I (i + 1) xs s))
    (fin : ∀ xs s, I ds.length xs s → Q xs s) : (lcGo bt tst el wp ds s).W Q := by
  induction ds generalizing I s Q with
  | nil => exact ⟨_, _, rfl, fin _ s h0⟩
  | cons d ds ih =>
    obtain ⟨s', e, k⟩ := step 0 d [] s (Nat.zero_lt_succ _) rfl h0
    unfold lcGo
    rw [e]
    refine W_bind (W_mono k fun b s1 q => ?_)
    cases b with
    | true =>
      refine W_bind (W_mono (q.1 rfl) fun y s2 q => ?_)
      exact W_bind (W_mono (ih (fun i xs s => I (i + 1) (y :: xs) s) q (fun i d xs s hi hd hI => step (i + 1) d (y :: xs) s (Nat.succ_lt_succ hi) hd hI) (Q := fun xs s => Q (y :: xs) s) fun xs s h => fin _ s h) fun xs s h => ⟨_, _, rfl, h⟩)
    | false => exact ih (fun i xs s => I (i + 1) xs s) (q.2 rfl) (fun i d xs s hi hd hI => step (i + 1) d xs s (Nat.succ_lt_succ hi) hd hI) fin
theorem el_ok {gf : Gf} {elt : Ex} {s : Sta} {Q : D → Sta → Prop} (h : wE gf elt s fun x s => ∃ y, toD x = some y ∧ Q y s) : ((evE gf elt s).bind fun x s => R.opt s (toD x)).W Q := by
  refine W_bind (W_mono (wE_ok gf elt _ _ h) fun x s2 q => ?_)
  obtain ⟨y, e2, q⟩ := q
  exact ⟨y, s2, by rw [e2]; rfl, q⟩
theorem lc_rule {gf : Gf} {bt : D → Sta → Option Sta} {ifs : Option Ex} {elt : Ex} {wp : Sta → Sta} {ds : List D} {s : Sta} {Q : List D → Sta → Prop} (I : Nat → List D → Sta → Prop) (h0 : I 0 [] s)
    (step : ∀ i d xs s, (hi : i < ds.length) → d = ds[i] → I i xs s → ∃ s', bt d (wp s) = some s' ∧ wI gf ifs s' fun b s => (b = true → wE gf elt s fun x s => ∃ y, toD x = some y ∧ I (i + 1) (xs ++ [y]) s) ∧ (b = false → I (i + 1) xs s))
    (fin : ∀ xs s, I ds.length xs s → Q xs s) : (lcGo bt (fun s => evI gf ifs s) (fun s => (evE gf elt s).bind fun x s => R.opt s (toD x)) wp ds s).W Q := by
  refine lcW_rule I h0 (fun i d xs s hi hd hI => ?_) fin
  obtain ⟨s', e, k⟩ := step i d xs s hi hd hI
  exact ⟨s', e, W_mono (wI_ok gf ifs _ _ k) fun b s q => ⟨fun hb => el_ok (q.1 hb), q.2⟩⟩
theorem wipe_len (vs : List Nat) (s : Sta) : (wipeS vs s).sl.length = s.sl.length := by
  induction vs with
  | nil => rfl
  | cons v vs ih => show ((wipeS vs s).sl.set v none).length = _; rw [List.length_set, ih]
theorem back_len (vs : List Nat) (s0 s : Sta) : (backS vs s0 s).sl.length = s.sl.length := by
  induction vs with
  | nil => rfl
  | cons v vs ih => show ((backS vs s0 s).sl.set v _).length = _; rw [List.length_set, ih]
theorem wipe_w (vs : List Nat) (s : Sta) : (wipeS vs s).w = s.w := by
  induction vs with
  | nil => rfl
  | cons v vs ih => exact ih
theorem back_w (vs : List Nat) (s0 s : Sta) : (backS vs s0 s).w = s.w := by
  induction vs with
  | nil => rfl
  | cons v vs ih => exact ih
theorem wipe_get (vs : List Nat) (s : Sta) (i : Nat) : (wipeS vs s).sl[i]? = if i ∈ vs ∧ i < s.sl.length then some none else s.sl[i]? := by
  induction vs with
  | nil => simp [wipeS]
  | cons v vs ih =>
    show ((wipeS vs s).sl.set v none)[i]? = _
    rw [List.getElem?_set, ih, wipe_len]
    by_cases e : v = i
    · subst e
      by_cases h : v < s.sl.length
      · simp [h]
      · have : s.sl[v]? = none := List.getElem?_eq_none (by omega)
        simp [h, this]
    · have e' : ¬ i = v := fun z => e z.symm
      simp [e, e']
theorem back_get (vs : List Nat) (s0 s : Sta) (hl : s.sl.length = s0.sl.length) (i : Nat) : (backS vs s0 s).sl[i]? = if i ∈ vs then s0.sl[i]? else s.sl[i]? := by
  induction vs with
  | nil => simp [backS]
  | cons v vs ih =>
    show ((backS vs s0 s).sl.set v _)[i]? = _
    rw [List.getElem?_set, ih, back_len]
    by_cases e : v = i
    · subst e
      by_cases h : v < s.sl.length
      · have : s0.sl[v]? = some s0.sl[v] := List.getElem?_eq_getElem (by omega)
        simp [h, this]
      · have : s0.sl[v]? = none := List.getElem?_eq_none (by omega)
        simp [h, this]
    · have e' : ¬ i = v := fun z => e z.symm
      simp [e, e']
/-- behind the comprehension the slots are as they were -/
theorem back_eq {vs : List Nat} {s0 s : Sta} (h : (wipeS vs s).sl = (wipeS vs s0).sl) : backS vs s0 s = { s0 with w := s.w } := by
  have hl : s.sl.length = s0.sl.length := by rw [← wipe_len vs s, h, wipe_len]
  have e : (backS vs s0 s).sl = s0.sl := by
    apply List.ext_getElem?
    intro i
    rw [back_get vs s0 s hl]
    by_cases hi : i ∈ vs
    · rw [if_pos hi]
    · rw [if_neg hi]
      have := congrArg (fun l : List (Option (Bool × D)) => l[i]?) h
      simp only [wipe_get, hi, false_and, if_false] at this
      exact this
  have ew := back_w vs s0 s
  revert e ew
  cases backS vs s0 s with
  | mk sl w =>
    intro e ew
    simp only at e ew
    subst e ew
    rfl
/-- a comprehension that draws nothing -/
theorem lc_pure {gf : Gf} {bt : D → Sta → Option Sta} {ifs : Option Ex} {elt : Ex} {vs : List Nat} {ds : List D} {s : Sta} {Q : List D → Sta → Prop} (f : D → Option D)
    (step : ∀ i d, (hi : i < ds.length) → d = ds[i] → ∃ s', bt d (wipeS vs s) = some s' ∧ wI gf ifs s' fun b s1 => (b = true → wE gf elt s1 fun x s2 => ∃ y, toD x = some y ∧ f d = some y ∧ wipeS vs s2 = wipeS vs s) ∧ (b = false → f d = none ∧ wipeS vs s1 = wipeS vs s))
    (fin : ∀ s', backS vs s s' = s → Q (ds.filterMap f) s') : (lcGo bt (fun s => evI gf ifs s) (fun s => (evE gf elt s).bind fun x s => R.opt s (toD x)) (wipeS vs) ds s).W Q := by
  have fin' : ∀ s', wipeS vs s' = wipeS vs s → Q (ds.filterMap f) s' := fun s' h => fin s' (by
    have hw : s'.w = s.w := by rw [← wipe_w vs s', h, wipe_w]
    rw [back_eq (congrArg Sta.sl h), hw])
  refine lcW_rule (fun i xs s' => xs = (ds.take i).filterMap f ∧ wipeS vs s' = wipeS vs s) ⟨rfl, rfl⟩ (fun i d xs s' hi hd hI => ?_) (fun xs s' hI => ?_)
  · obtain ⟨e, hw⟩ := hI
    obtain ⟨s1, e1, q⟩ := step i d hi hd
    refine ⟨s1, by rw [hw]; exact e1, ?_⟩
    have tk : ds.take (i + 1) = ds.take i ++ [d] := by rw [List.take_succ_eq_append_getElem hi, hd]
    refine W_mono (wI_ok gf ifs _ _ q) fun b s2 q => ⟨fun hb => W_mono (el_ok (Q := fun y s3 => f d = some y ∧ wipeS vs s3 = wipeS vs s) (q.1 hb)) fun y s3 q => ?_, fun hb => ?_⟩
    · exact ⟨by rw [tk, List.filterMap_append, ← e]; simp [q.1], q.2⟩
    · obtain ⟨e3, e4⟩ := q.2 hb
      exact ⟨by rw [tk, List.filterMap_append, ← e]; simp [e3], e4⟩
  · rw [List.take_length] at hI
    rw [hI.1]
    exact fin' s' hI.2
end Mp
/-! Mv: values of a size, the pool's state, calls. -/
namespace Mp
open PySem PySem.Spec PyProof.Rows L2
/-- how long a while may run -/
def FF : Nat := 1000000
theorem pure_ok {gf : Gf} {F : Nat} {f : Fn} {as : List D} {w : Wd} {fl : Bool} {d : D} (ha : as.length = f.ar) (h : wSs gf F f.body ⟨as.map (fun d => some (false, d)) ++ List.replicate (f.n - as.length) none, w⟩ fun x s => match x with
    | .rt fl' d' => fl' = fl ∧ d' = d ∧ s.w = w
    | _ => False) : runFn gf F f as w = some (fl, d, w) := by
  obtain ⟨x, s, e, q⟩ := wSs_ok gf F _ _ _ h
  unfold runFn
  rw [if_neg (by simpa using ha), e]
  cases x with
  | nx => exact q.elim
  | rt fl d =>
    obtain ⟨rfl, rfl, e2⟩ := q
    rw [← e2]
  | bk => exact q.elim
  | ct => exact q.elim
theorem pure_ex {gf : Gf} {F : Nat} {f : Fn} {as : List D} {w : Wd} {d : D} (ha : as.length = f.ar) (h : wSs gf F f.body ⟨as.map (fun d => some (false, d)) ++ List.replicate (f.n - as.length) none, w⟩ fun x s => match x with
    | .rt _ d' => d' = d ∧ s.w = w
    | _ => False) : ∃ fl, runFn gf F f as w = some (fl, d, w) := by
  obtain ⟨x, s, e, q⟩ := wSs_ok gf F _ _ _ h
  unfold runFn
  rw [if_neg (by simpa using ha), e]
  cases x with
  | nx => exact q.elim
  | rt fl d =>
    obtain ⟨rfl, e2⟩ := q
    exact ⟨fl, by rw [← e2]⟩
  | bk => exact q.elim
  | ct => exact q.elim
theorem gfn_ir {F : Nat} {ds : List Mp.Entry} {n i : Nat} {d : Def} {as : List D} {w : Wd} {r : Option (Bool × D × Wd)} (h : ds[i]? = some (.ir d)) (k : runFn (gfn F ds n) F d.fn as w = r) : gfn F ds (n + 1) i as w = r := by
  show (match ds[i]? with
    | some (.ir d) => runFn (gfn F ds n) F d.fn as w
    | some (.draw _) => drawF as w
    | none => none) = r
  rw [h]
  exact k
theorem gfn_draw {F : Nat} {ds : List Mp.Entry} {n i : Nat} {st : Stmt} {as : List D} {w : Wd} (h : ds[i]? = some (.draw st)) : gfn F ds (n + 1) i as w = drawF as w := by
  show (match ds[i]? with
    | some (.ir d) => runFn (gfn F ds n) F d.fn as w
    | some (.draw _) => drawF as w
    | none => none) = _
  rw [h]
theorem lvl {k n : Nat} (h : k + 1 ≤ n) : ∃ m, n = m + 1 ∧ k ≤ m := ⟨n - 1, by omega, by omega⟩
/-! ### the pool's state -/
structure G (B : Nat) (w : Wd) : Prop where
  n : w.n ≤ B
  lo : 24 ≤ w.rows.length
  hi : w.rows.length ≤ 144
theorem G.mono {B C : Nat} {w : Wd} (h : G B w) (le : B ≤ C) : G C w := ⟨Nat.le_trans h.n le, h.lo, h.hi⟩
theorem drawF_ok {w : Wd} {B : Nat} {m : Int} (g : G B w) (hB : B < 2 ^ 60) (hm : 0 < m) : ∃ (k : Nat) (w' : Wd), (k : Int) < m ∧ G (B + 1) w' ∧ drawF [.pool, .int m] w = some (false, .int (k : Nat), w') := by
  have h1 : 0 ≤ drawn w.rows w.n m := Int.emod_nonneg _ (by omega : m ≠ 0)
  have h2 : drawn w.rows w.n m < m := Int.emod_lt_of_pos _ hm
  refine ⟨(drawn w.rows w.n m).toNat, { w with n := w.n + 1 }, ?_, ⟨Nat.succ_le_succ g.n, g.lo, g.hi⟩, ?_⟩
  · show ((drawn w.rows w.n m).toNat : Int) < m
    rw [Int.toNat_of_nonneg h1]
    exact h2
  · rw [Int.toNat_of_nonneg h1]
    have a1 := g.n
    have a2 := g.lo
    have a3 := g.hi
    show (if 0 < m ∧ w.n < 2 ^ 60 ∧ 0 < w.rows.length ∧ w.rows.length < 1000000 then _ else _) = _
    rw [if_pos ⟨hm, by omega, by omega, by omega⟩]
/-! ### values of a size -/
def Vd (b : Nat) : Nat → D → Prop
  | _, .non => True
  | _, .bl _ => True
  | _, .int i => i.natAbs ≤ b
  | _, .str x => x.length ≤ b
  | d + 1, .tup ds => ds.length ≤ b ∧ ∀ x ∈ ds, Vd b d x
  | d + 1, .lst ds => ds.length ≤ b ∧ ∀ x ∈ ds, Vd b d x
  | _, _ => False
theorem Vd.tup {b d : Nat} {ds : List D} (h : Vd b d (.tup ds)) : ∃ e, d = e + 1 ∧ ds.length ≤ b ∧ ∀ x ∈ ds, Vd b e x := by
  cases d with
  | zero => exact h.elim
  | succ e => exact ⟨e, rfl, h.1, h.2⟩
theorem Vd.lst {b d : Nat} {ds : List D} (h : Vd b d (.lst ds)) : ∃ e, d = e + 1 ∧ ds.length ≤ b ∧ ∀ x ∈ ds, Vd b e x := by
  cases d with
  | zero => exact h.elim
  | succ e => exact ⟨e, rfl, h.1, h.2⟩
theorem Vd.mono {b c : Nat} (hb : b ≤ c) : ∀ {d e : Nat} (v : D), d ≤ e → Vd b d v → Vd c e v
  | _, _, .non, _, _ => by simp [Vd]
  | _, _, .bl _, _, _ => by simp [Vd]
  | _, _, .int i, _, h => by
    simp only [Vd] at h ⊢
    omega
  | _, _, .str i, _, h => by
    simp only [Vd] at h ⊢
    omega
  | 0, _, .tup _, _, h => h.elim
  | 0, _, .lst _, _, h => h.elim
  | 0, _, .dct _ _, _, h => h.elim
  | 0, _, .pool, _, h => h.elim
  | _ + 1, _, .dct _ _, _, h => h.elim
  | _ + 1, _, .pool, _, h => h.elim
  | d + 1, 0, .tup ds, hd, h => by omega
  | d + 1, 0, .lst ds, hd, h => by omega
  | d + 1, e + 1, .tup ds, hd, h => ⟨Nat.le_trans h.1 hb, fun x hx => Vd.mono hb x (by omega) (h.2 x hx)⟩
  | d + 1, e + 1, .lst ds, hd, h => ⟨Nat.le_trans h.1 hb, fun x hx => Vd.mono hb x (by omega) (h.2 x hx)⟩
def knd : D → Int
  | .bl _ => 1
  | .int _ => 2
  | .str _ => 3
  | .tup _ => 4
  | .lst _ => 5
  | .non => 6
  | _ => 0
def tyI (t : Ty) (v : D) : Bool := (isi t v).getD false
theorem isi_ok {b d : Nat} {v : D} (h : Vd b d v) (t : Ty) : isi t v = some (tyI t v) := by
  cases v with
  | pool => cases d <;> exact h.elim
  | dct => cases d <;> exact h.elim
  | _ => rfl
theorem ix_tup {ds : List D} {i : Nat} {x : D} (h : ds[i]? = some x) : ix (.tup ds) (.int (i : Nat)) = some x := atI_nat h
theorem ix_lst {ds : List D} {i : Nat} {x : D} (h : ds[i]? = some x) : ix (.lst ds) (.int (i : Nat)) = some x := atI_nat h
theorem items_rng {k : Kd} {n : Nat} (h : n < 2 ^ 60) : items .rng1 [(k, .int (n : Nat))] = some ((List.range n).map fun i => .int (i : Nat)) := by
  have h1 : -(2 ^ 62) ≤ ((n : Nat) : Int) ∧ ((n : Nat) : Int) < 2 ^ 62 := ⟨by omega, by omega⟩
  have h2 : ((List.range ((n : Nat) : Int).toNat).map fun i => D.int (0 + (i : Nat))) = (List.range n).map fun i => .int (i : Nat) := by
    rw [Int.toNat_natCast]
    congr 1
    funext i
    rw [Int.zero_add]
  unfold items
  simp only [h1, and_self, if_true, h2]
theorem lc2W_rule {bt : D → Sta → Option Sta} {inn : Sta → R (List D)} {wp : Sta → Sta} {ds : List D} {s : Sta} {Q : List D → Sta → Prop} (I : Nat → List D → Sta → Prop) (h0 : I 0 [] s)
    (step : ∀ i d xs s, (hi : i < ds.length) → d = ds[i] → I i xs s → ∃ s', bt d (wp s) = some s' ∧ (inn s').W fun ys s => I (i + 1) (xs ++ ys) s)
    (fin : ∀ xs s, I ds.length xs s → Q xs s) : (lcGo2 bt inn wp ds s).W Q := by
  induction ds generalizing I s Q with
  | nil => exact ⟨_, _, rfl, fin _ s h0⟩
  | cons d ds ih =>
    obtain ⟨s', e, k⟩ := step 0 d [] s (Nat.zero_lt_succ _) rfl h0
    unfold lcGo2
    rw [e]
    refine W_bind (W_mono k fun ys s1 q => ?_)
    refine W_bind (W_mono (ih (fun i xs s => I (i + 1) (ys ++ xs) s) (by rw [List.append_nil]; exact q) (fun i d xs s hi hd hI => ?_) (Q := fun xs s => Q (ys ++ xs) s) fun xs s h => fin _ s h) fun xs s h => ⟨_, _, rfl, h⟩)
    obtain ⟨s2, e2, k2⟩ := step (i + 1) d (ys ++ xs) s (Nat.succ_lt_succ hi) hd hI
    exact ⟨s2, e2, W_mono k2 fun zs t q => by rw [← List.append_assoc]; exact q⟩
theorem inn_ok {gf : Gf} {es1 : List Ex} {sk1 : Sk} {f : List D → Sta → R (List D)} {s : Sta} {Q : List D → Sta → Prop} (h : wL gf es1 s fun ds1 s => ∃ ds1', items sk1 ds1 = some ds1' ∧ (f ds1' s).W Q) :
    ((evL gf es1 s).bind fun ds1 s => match items sk1 ds1 with
      | some ds1 => f ds1 s
      | none => .bad).W Q := by
  refine W_bind (W_mono (wL_ok gf es1 _ _ h) fun ds1 s q => ?_)
  obtain ⟨ds1', e, q⟩ := q
  simp only [e]
  exact q
theorem digits_core (b : Nat) : ∀ (f n : Nat) (acc : List Char), (Nat.toDigitsCore b f n acc).length ≤ f + acc.length
  | 0, n, acc => by unfold Nat.toDigitsCore; omega
  | f + 1, n, acc => by
    unfold Nat.toDigitsCore
    simp only
    split
    · simp; omega
    · have := digits_core b f (n / b) (Nat.digitChar (n % b) :: acc)
      simp at this
      omega
theorem digits_len (n : Nat) : (Nat.toDigits 10 n).length ≤ n + 1 := by
  have := digits_core 10 (n + 1) n []
  simpa [Nat.toDigits] using this
theorem len_int (i : Int) : (PySem.Str.ofString (toString i)).length ≤ i.natAbs + 3 := by
  have h : (PySem.Str.ofString (toString i)).length = (toString i).toList.length := by
    show Array.size _ = _
    rw [← Array.length_toList, signs_ofString, List.length_map]
  rw [h]
  cases i with
  | ofNat m =>
    show (Nat.repr m).toList.length ≤ _
    rw [Nat.toList_repr]
    have := digits_len m
    show _ ≤ m + 3
    omega
  | negSucc m =>
    show ("-" ++ Nat.repr (m + 1)).toList.length ≤ _
    rw [String.toList_append, List.length_append, Nat.toList_repr]
    have := digits_len (m + 1)
    show 1 + _ ≤ (m + 1) + 3
    omega
/-! ### terms that change nothing -/
abbrev Pu (gf : Gf) (e : Ex) (s : Sta) (x : Kd × D) : Prop := ∀ Q : Wx, Q x s → wE gf e s Q
section
variable {gf : Gf} {F : Nat} {s : Sta} {a b c : Ex} {k k1 k2 : Bool}
theorem pu_or (ha : Pu gf a s (.val, .bl k1)) (hb : k1 = false → Pu gf b s (.val, .bl k2)) : Pu gf (.or a b) s (.val, .bl (k1 || k2)) := fun Q q => ha _ ⟨fun h => by
    subst h
    exact q, fun h => by
    subst h
    exact hb rfl Q q⟩
theorem pu_and (ha : Pu gf a s (.val, .bl k1)) (hb : k1 = true → Pu gf b s (.val, .bl k2)) : Pu gf (.and a b) s (.val, .bl (k1 && k2)) := fun Q q => ha _ ⟨fun h => by
    subst h
    exact hb rfl Q q, fun h => by
    subst h
    exact q⟩
theorem pu_nt (ha : Pu gf a s (.val, .bl k)) : Pu gf (.nt a) s (.val, .bl (!k)) := fun Q q => ha _ q
theorem pu_chn {o1 o2 : CmpOp} {x y z : Kd × D} (ha : Pu gf a s x) (hb : Pu gf b s y) (hc : Pu gf c s z) (h1 : cmp o1 x.2 y.2 = some k1) (h2 : cmp o2 y.2 z.2 = some k2) : Pu gf (.chn o1 o2 a b c) s (.val, .bl (k1 && k2)) :=
  fun Q q => ha _ (hb _ ⟨k1, h1, fun h => hc _ ⟨k2, h2, by subst h; exact q⟩, fun h => by subst h; exact q⟩)
theorem pu_cmp {o : CmpOp} {x y : Kd × D} (ha : Pu gf a s x) (hb : Pu gf b s y) (h : cmp o x.2 y.2 = some k) : Pu gf (.cmp o a b) s (.val, .bl k) := fun Q q => ha _ (hb _ ⟨k, h, q⟩)
theorem wSs_nil {Q : Wf} (h : Q .nx s) : wSs gf F [] s Q := h
theorem asg_pu {i : Nat} {d : D} {r : List Sm} {Q : Wf} (h : Pu gf a s (.val, d)) (q : wSs gf F r (s.set i (some (false, d))) Q) : wSs gf F (.asg (.nm i) a :: r) s Q := h _ q
theorem ret_pu {d : D} {Q : Wf} (hv : ∀ i, a ≠ .v i) (h : Pu gf a s (.val, d)) (q : Q (.rt false d) s) : wSs gf F [.ret a] s Q := by
  cases a with
  | v i => exact absurd rfl (hv i)
  | _ =>
    simp only [wSs, wS]
    exact h _ q
theorem ife_pu {p q : List Sm} {Q : Wf} (ht : Pu gf a s (.val, .bl k)) (h1 : k = true → wSs gf F p s Q) (h2 : k = false → wSs gf F q s Q) : wS gf F (.ife a p q) s Q := ht _ ⟨h1, h2⟩
/-- an if that goes on: what comes behind -/
theorem ifs_pu {p r : List Sm} {Q : Wf} (ht : Pu gf a s (.val, .bl k)) (h1 : k = true → wSs gf F p s fun f s => match f with
    | .nx => wSs gf F r s Q
    | f => Q f s) (h2 : k = false → wSs gf F r s Q) : wSs gf F (.ife a p [] :: r) s Q := ht _ ⟨h1, h2⟩
end
end Mp
namespace K
open PySem PySem.Spec PyProof.Rows L2 Mp
def topS (i : Nat) : Stmt := PySem.Challenge.pw_toldbytrials_k01_machines_told.main.body.getD i (.Pass ⟨0, 0, 0, 0⟩)
def f_is_integer : Fn := ⟨1, 1, [.ret (.and (.isi .int (.b 0)) (.nt (.isi .bool (.b 0))))]⟩
def f_is_number : Fn := ⟨3, 3, [.ret (.and (.call 0 [(.v 0)]) (.chn .LtE .LtE (.b 1) (.b 0) (.b 2)))]⟩
def f_is_tuple : Fn := ⟨2, 2, [.ret (.and (.isi .tuple (.b 0)) (.cmp .Eq (.bi .len [(.b 0)]) (.b 1)))]⟩
def f_is_machine : Fn := ⟨1, 3, [.ife (.or (.nt (.isi .tuple (.b 0))) (.nt (.chn .LtE .LtE (.k (.int 1)) (.bi .len [(.b 0)]) (.g "MOST_STATES" (.int 6))))) [.ret (.k (.bl false))] [], .ife (.or (.nt (.isi .tuple (.ix (.b 0) (.k (.int 0))))) (.nt (.chn .LtE .LtE (.k (.int 1)) (.bi .len [(.ix (.b 0) (.k (.int 0)))]) (.g "MOST_LETTERS" (.int 3))))) [.ret (.k (.bl false))] [], .for (.nm 1) .e [(.v 0)] [.ife (.or (.nt (.call 2 [(.v 1), (.bi .len [(.ix (.b 0) (.k (.int 0)))])])) (.nt (.bi .all [(.lc (.call 4 [(.v 2), (.bi .len [(.b 0)])]) (.nm 2) .e [(.v 1)] none [("step", 2)])]))) [.ret (.k (.bl false))] []], .ret (.k (.bl true))]⟩
def f_is_step : Fn := ⟨2, 2, [.ret (.and (.call 2 [(.v 0), (.k (.int 2))]) (.and (.call 1 [(.ix (.b 0) (.k (.int 0))), (.k (.int 0)), (.bin .Sub (.g "MOST_ANSWERS" (.int 3)) (.k (.int 1)))]) (.call 1 [(.ix (.b 0) (.k (.int 1))), (.k (.int 0)), (.bin .Sub (.b 1) (.k (.int 1)))])))]⟩
def f_letters_of : Fn := ⟨1, 1, [.ret (.bi .len [(.ix (.b 0) (.k (.int 0)))])]⟩
def f_answers_of : Fn := ⟨3, 6, [.asg (.nm 3) (.lst []), .for (.nm 4) .e [(.v 2)] [.asg (.tp [(.nm 5), (.nm 1)]) (.ix (.ix (.b 0) (.b 1)) (.b 4)), .app 3 (.v 5)], .ret (.bi .tuple [(.b 3)])]⟩
def f_goal_of : Fn := ⟨3, 4, [.for (.nm 3) .e [(.v 2)] [.asg (.nm 1) (.ix (.ix (.ix (.b 0) (.b 1)) (.b 3)) (.k (.int 1)))], .ret (.v 1)]⟩
def f_trial : Fn := ⟨2, 2, [.ret (.call 6 [(.v 0), (.k (.int 0)), (.v 1)])]⟩
def f_words_of : Fn := ⟨2, 6, [.asg (.nm 2) (.lst [(.tup [])]), .for (.nm 3) .rng1 [(.b 1)] [.asg (.nm 2) (.lc2 (.bin .Add (.b 4) (.tup [(.v 5)])) (.nm 4) .e [(.v 2)] (.nm 5) .rng1 [(.b 0)] none [("word", 4), ("letter", 5)] [5])], .ret (.v 2)]⟩
def f_is_word : Fn := ⟨2, 3, [.ret (.and (.isi .tuple (.b 1)) (.bi .all [(.lc (.call 1 [(.v 2), (.k (.int 0)), (.bin .Sub (.b 0) (.k (.int 1)))]) (.nm 2) .e [(.v 1)] none [("letter", 2)])]))]⟩
def f_law_kind : Fn := ⟨1, 1, [.ife (.isi .bool (.b 0)) [.ret (.k (.int 1))] [], .ife (.isi .int (.b 0)) [.ret (.k (.int 2))] [], .ife (.isi .str (.b 0)) [.ret (.k (.int 3))] [], .ife (.isi .tuple (.b 0)) [.ret (.k (.int 4))] [], .ife (.isi .list (.b 0)) [.ret (.k (.int 5))] [], .ife (.cmp .Is (.b 0) (.k (.non))) [.ret (.k (.int 6))] [], .ret (.k (.int 0))]⟩
def f_law_equal : Fn := ⟨2, 3, [.ife (.or (.cmp .NotEq (.call 12 [(.v 0)]) (.call 12 [(.v 1)])) (.cmp .Eq (.call 12 [(.v 0)]) (.k (.int 0)))) [.ret (.k (.bl false))] [], .ife (.or (.isi .tuple (.b 1)) (.isi .list (.b 1))) [.ife (.cmp .NotEq (.bi .len [(.b 0)]) (.bi .len [(.b 1)])) [.ret (.k (.bl false))] [], .for (.nm 2) .rng1 [(.bi .len [(.b 1)])] [.ife (.nt (.call 13 [(.ix (.b 0) (.b 2)), (.ix (.b 1) (.b 2))])) [.ret (.k (.bl false))] []], .ret (.k (.bl true))] [], .ret (.cmp .Eq (.b 0) (.b 1))]⟩
def f_law_is : Fn := ⟨2, 2, [.ife (.b 1) [.ret (.cmp .Is (.b 0) (.k (.bl true)))] [], .ret (.cmp .Is (.b 0) (.k (.bl false)))]⟩
def f_law_int : Fn := ⟨3, 3, [.ret (.and (.cmp .Eq (.call 12 [(.v 0)]) (.k (.int 2))) (.chn .LtE .LtE (.b 1) (.b 0) (.b 2)))]⟩
def f_law_bent : Fn := ⟨2, 7, [.ife (.isi .tuple (.b 1)) [.asg (.nm 2) (.call 11 [(.v 0), (.k (.int 10))]), .ife (.or (.cmp .Eq (.bi .len [(.b 1)]) (.k (.int 0))) (.cmp .Eq (.b 2) (.k (.int 0)))) [.ret (.bin .Add (.b 1) (.tup [(.ix (.lst [(.k (.int 0)), (.k (.int 1)), (.tup []), (.tup [(.k (.int 0)), (.k (.int 0))])]) (.call 11 [(.v 0), (.k (.int 4))]))]))] [], .asg (.nm 3) (.call 11 [(.v 0), (.bi .len [(.b 1)])]), .ife (.cmp .Eq (.b 2) (.k (.int 1))) [.ret (.bin .Add (.sl (.b 1) none (some (.b 3))) (.sl (.b 1) (some (.bin .Add (.b 3) (.k (.int 1)))) none))] [], .ife (.and (.cmp .Eq (.b 2) (.k (.int 2))) (.cmp .Eq (.call 11 [(.v 0), (.k (.int 3))]) (.k (.int 0)))) [.ret (.bi .list [(.b 1)])] [], .ife (.cmp .Eq (.b 2) (.k (.int 3))) [.ret (.bin .Add (.bin .Add (.sl (.b 1) none (some (.b 3))) (.tup [(.ix (.b 1) (.b 3))])) (.sl (.b 1) (some (.b 3)) none))] [], .ife (.and (.cmp .Eq (.b 2) (.k (.int 4))) (.cmp .Gt (.bi .len [(.b 1)]) (.k (.int 1)))) [.asg (.nm 4) (.bin .Mod (.bin .Add (.b 3) (.k (.int 1))) (.bi .len [(.b 1)])), .asg (.nm 5) (.bi .min2 [(.b 3), (.b 4)]), .asg (.nm 6) (.bi .max2 [(.b 3), (.b 4)]), .ret (.bin .Add (.bin .Add (.bin .Add (.bin .Add (.sl (.b 1) none (some (.b 5))) (.tup [(.ix (.b 1) (.b 6))])) (.sl (.b 1) (some (.bin .Add (.b 5) (.k (.int 1)))) (some (.b 6)))) (.tup [(.ix (.b 1) (.b 5))])) (.sl (.b 1) (some (.bin .Add (.b 6) (.k (.int 1)))) none))] [], .ret (.bin .Add (.bin .Add (.sl (.b 1) none (some (.b 3))) (.tup [(.call 16 [(.v 0), (.ix (.b 1) (.b 3))])])) (.sl (.b 1) (some (.bin .Add (.b 3) (.k (.int 1)))) none))] [], .ife (.isi .str (.b 1)) [.ret (.ix (.lst [(.bin .Add (.b 1) (.k (.str "x"))), (.k (.str "")), (.mt .upper (.b 1)), (.k (.non)), (.k (.int 0))]) (.call 11 [(.v 0), (.k (.int 5))]))] [], .ife (.cmp .Eq (.call 12 [(.v 1)]) (.k (.int 2))) [.ret (.ix (.lst [(.bin .Add (.b 1) (.k (.int 1))), (.bin .Sub (.b 1) (.k (.int 1))), (.bin .Add (.b 1) (.k (.int 1))), (.bin .Sub (.b 1) (.k (.int 1))), (.k (.int 0)), (.bin .Add (.b 1) (.k (.int 16))), (.k (.bl true)), (.k (.non)), (.bi .str [(.b 1)]), (.tup [(.v 1)])]) (.call 11 [(.v 0), (.k (.int 10))]))] [], .ret (.ix (.lst [(.k (.int 0)), (.tup []), (.k (.bl false)), (.k (.str "x"))]) (.call 11 [(.v 0), (.k (.int 4))]))]⟩
def f_law_bends : Fn := ⟨3, 6, [.asg (.nm 3) (.lst [(.v 1)]), .for (.nm 4) .rng1 [(.b 2)] [.asg (.nm 5) (.call 16 [(.v 0), (.v 1)]), .ife (.cmp .Eq (.call 11 [(.v 0), (.k (.int 5))]) (.k (.int 0))) [.asg (.nm 5) (.call 16 [(.v 0), (.v 5)])] [], .app 3 (.v 5)], .ret (.bin .Add (.b 3) (.lst [(.k (.non)), (.k (.int 0)), (.k (.bl true)), (.k (.str "")), (.tup []), (.lst []), (.k (.str "x")), (.tup [(.k (.int 0))]), (.tup [(.k (.str "x")), (.k (.int 1))]), (.v 1)]))]⟩
def f_law_ints : Fn := ⟨3, 4, [.ife (.nt (.isi .tuple (.b 0))) [.ret (.k (.bl false))] [], .for (.nm 3) .e [(.v 0)] [.ife (.nt (.call 15 [(.v 3), (.v 1), (.v 2)])) [.ret (.k (.bl false))] []], .ret (.k (.bl true))]⟩
def f_law_table : Fn := ⟨4, 8, [.asg (.nm 4) (.tup []), .for (.nm 5) .rng1 [(.b 2)] [.asg (.nm 6) (.tup []), .for (.nm 7) .rng1 [(.b 1)] [.asg (.nm 6) (.bin .Add (.b 6) (.tup [(.tup [(.call 11 [(.v 0), (.v 3)]), (.call 11 [(.v 0), (.v 2)])])]))], .asg (.nm 4) (.bin .Add (.b 4) (.tup [(.v 6)]))], .ret (.v 4)]⟩
def f_law_machine : Fn := ⟨3, 10, [.asg (.nm 3) (.call 11 [(.v 0), (.k (.int 9))]), .asg (.nm 4) (.bin .Add (.k (.int 1)) (.call 11 [(.v 0), (.v 2)])), .ife (.cmp .Gt (.call 11 [(.v 0), (.k (.int 3))]) (.k (.int 0))) [.asg (.nm 4) (.v 2)] [], .asg (.nm 5) (.call 19 [(.v 0), (.v 1), (.v 4), (.bin .Add (.k (.int 1)) (.call 11 [(.v 0), (.k (.int 3))]))]), .ife (.cmp .Eq (.b 3) (.k (.int 0))) [.asg (.nm 6) (.lc (.call 11 [(.v 0), (.v 4)]) (.nm 8) .rng1 [(.b 1)] none [("letter", 8)]), .asg (.nm 5) (.bi .tuple [(.lc (.bi .tuple [(.lc (.tup [(.ix (.ix (.ix (.b 5) (.b 9)) (.b 8)) (.k (.int 0))), (.bin .Mod (.bi .int [(.bin .Add (.b 9) (.ix (.b 6) (.b 8)))]) (.b 4))]) (.nm 8) .rng1 [(.b 1)] none [("letter", 8)])]) (.nm 9) .rng1 [(.b 4)] none [("state", 9)])])] [], .ife (.cmp .Eq (.b 3) (.k (.int 1))) [.asg (.nm 5) (.call 26 [(.v 0), (.v 1), (.v 4)])] [], .ife (.cmp .Eq (.b 3) (.k (.int 2))) [.asg (.nm 7) (.lc (.call 11 [(.v 0), (.v 4)]) (.nm 8) .rng1 [(.b 1)] none [("letter", 8)]), .asg (.nm 5) (.bi .tuple [(.lc (.bi .tuple [(.lc (.tup [(.ix (.ix (.ix (.b 5) (.b 9)) (.b 8)) (.k (.int 0))), (.ix (.b 7) (.b 8))]) (.nm 8) .rng1 [(.b 1)] none [("letter", 8)])]) (.nm 9) .rng1 [(.b 4)] none [("state", 9)])])] [], .ife (.cmp .Eq (.b 3) (.k (.int 3))) [.asg (.nm 5) (.bi .tuple [(.lc (.bi .tuple [(.lc (.tup [(.bin .Mod (.bi .int [(.bin .Add (.ix (.ix (.ix (.b 5) (.b 9)) (.k (.int 0))) (.k (.int 0))) (.b 8))]) (.k (.int 3))), (.ix (.ix (.ix (.b 5) (.b 9)) (.b 8)) (.k (.int 1)))]) (.nm 8) .rng1 [(.b 1)] none [("letter", 8)])]) (.nm 9) .rng1 [(.b 4)] none [("state", 9)])])] [], .ife (.cmp .Eq (.b 3) (.k (.int 4))) [.asg (.nm 5) (.bi .tuple [(.lc (.bi .tuple [(.lc (.tup [(.bin .Mod (.bi .int [(.bin .Add (.b 9) (.b 8))]) (.k (.int 3))), (.bi .max2 [(.k (.int 0)), (.bin .Sub (.b 9) (.b 8))])]) (.nm 8) .rng1 [(.b 1)] none [("letter", 8)])]) (.nm 9) .rng1 [(.b 4)] none [("state", 9)])])] [], .ret (.v 5)]⟩
def f_law_word : Fn := ⟨3, 5, [.asg (.nm 3) (.tup []), .for (.nm 4) .rng1 [(.call 11 [(.v 0), (.bin .Add (.b 2) (.k (.int 1)))])] [.asg (.nm 3) (.bin .Add (.b 3) (.tup [(.call 11 [(.v 0), (.v 1)])]))], .ret (.v 3)]⟩
def f_law_answers : Fn := ⟨3, 6, [.asg (.nm 3) (.tup []), .for (.nm 4) .e [(.v 2)] [.asg (.tp [(.nm 5), (.nm 1)]) (.ix (.ix (.b 0) (.b 1)) (.b 4)), .asg (.nm 3) (.bin .Add (.b 3) (.tup [(.v 5)]))], .ret (.v 3)]⟩
def f_law_goal : Fn := ⟨3, 4, [.for (.nm 3) .e [(.v 2)] [.asg (.nm 1) (.ix (.ix (.ix (.b 0) (.b 1)) (.b 3)) (.k (.int 1)))], .ret (.v 1)]⟩
def f_law_all_words : Fn := ⟨2, 7, [.asg (.nm 2) (.lst [(.tup [])]), .for (.nm 3) .rng1 [(.b 1)] [.asg (.nm 4) (.lst []), .for (.nm 5) .e [(.v 2)] [.for (.nm 6) .rng1 [(.b 0)] [.app 4 (.bin .Add (.b 5) (.tup [(.v 6)]))]], .asg (.nm 2) (.v 4)], .ret (.v 2)]⟩
def f_law_is_machine : Fn := ⟨1, 3, [.ife (.or (.nt (.isi .tuple (.b 0))) (.or (.nt (.chn .LtE .LtE (.k (.int 1)) (.bi .len [(.b 0)]) (.k (.int 6)))) (.or (.nt (.isi .tuple (.ix (.b 0) (.k (.int 0))))) (.nt (.chn .LtE .LtE (.k (.int 1)) (.bi .len [(.ix (.b 0) (.k (.int 0)))]) (.k (.int 3))))))) [.ret (.k (.bl false))] [], .for (.nm 1) .e [(.v 0)] [.ife (.or (.nt (.isi .tuple (.b 1))) (.cmp .NotEq (.bi .len [(.b 1)]) (.bi .len [(.ix (.b 0) (.k (.int 0)))]))) [.ret (.k (.bl false))] [], .for (.nm 2) .e [(.v 1)] [.ife (.or (.nt (.isi .tuple (.b 2))) (.or (.cmp .NotEq (.bi .len [(.b 2)]) (.k (.int 2))) (.or (.nt (.call 15 [(.ix (.b 2) (.k (.int 0))), (.k (.int 0)), (.k (.int 2))])) (.nt (.call 15 [(.ix (.b 2) (.k (.int 1))), (.k (.int 0)), (.bin .Sub (.bi .len [(.b 0)]) (.k (.int 1)))]))))) [.ret (.k (.bl false))] []]], .ret (.k (.bl true))]⟩
def f_law_doubled : Fn := ⟨3, 11, [.asg (.nm 3) (.bi .max2 [(.k (.int 1)), (.bin .FloorDiv (.b 2) (.k (.int 2)))]), .asg (.nm 4) (.call 19 [(.v 0), (.v 1), (.v 3), (.k (.int 2))]), .asg (.nm 5) (.tup []), .for (.nm 6) .rng1 [(.b 2)] [.asg (.nm 7) (.tup []), .for (.tp [(.nm 8), (.nm 9)]) .e [(.ix (.b 4) (.bin .Mod (.bi .int [(.b 6)]) (.b 3)))] [.asg (.nm 10) (.v 9), .ife (.and (.cmp .Lt (.bin .Add (.b 9) (.b 3)) (.b 2)) (.cmp .Eq (.call 11 [(.v 0), (.k (.int 2))]) (.k (.int 0)))) [.asg (.nm 10) (.bin .Add (.b 9) (.b 3))] [], .asg (.nm 7) (.bin .Add (.b 7) (.tup [(.tup [(.v 8), (.v 10)])]))], .asg (.nm 5) (.bin .Add (.b 5) (.tup [(.v 7)]))], .ret (.v 5)]⟩
def f_law_is_word : Fn := ⟨2, 2, [.ret (.call 18 [(.v 1), (.k (.int 0)), (.bin .Sub (.b 0) (.k (.int 1)))])]⟩
def gs : List (Str × Const) := [("MOST_STATES", .int 6), ("MOST_LETTERS", .int 3), ("MOST_ANSWERS", .int 3)]
def es : List Mp.Entry := [
  .ir ⟨"is_integer", topS 1, ["value"], ["value"], f_is_integer⟩,
  .ir ⟨"is_number", topS 2, ["value", "low", "high"], ["value", "low", "high"], f_is_number⟩,
  .ir ⟨"is_tuple", topS 3, ["value", "size"], ["value", "size"], f_is_tuple⟩,
  .ir ⟨"is_machine", topS 8, ["value"], ["value", "row", "step"], f_is_machine⟩,
  .ir ⟨"is_step", topS 9, ["value", "states"], ["value", "states"], f_is_step⟩,
  .ir ⟨"letters_of", topS 10, ["machine"], ["machine"], f_letters_of⟩,
  .ir ⟨"answers_of", topS 11, ["machine", "state", "word"], ["machine", "state", "word", "found", "letter", "answer"], f_answers_of⟩,
  .ir ⟨"goal_of", topS 12, ["machine", "state", "word"], ["machine", "state", "word", "letter"], f_goal_of⟩,
  .ir ⟨"trial", topS 13, ["machine", "word"], ["machine", "word"], f_trial⟩,
  .ir ⟨"words_of", topS 14, ["letters", "length"], ["letters", "length", "found", "_", "word", "letter"], f_words_of⟩,
  .ir ⟨"is_word", topS 15, ["letters", "value"], ["letters", "value", "letter"], f_is_word⟩,
  .draw (topS 20),
  .ir ⟨"_law_kind", topS 21, ["x"], ["x"], f_law_kind⟩,
  .ir ⟨"_law_equal", topS 22, ["x", "due"], ["x", "due", "k"], f_law_equal⟩,
  .ir ⟨"_law_is", topS 23, ["x", "due"], ["x", "due"], f_law_is⟩,
  .ir ⟨"_law_int", topS 24, ["x", "low", "high"], ["x", "low", "high"], f_law_int⟩,
  .ir ⟨"_law_bent", topS 25, ["pool", "value"], ["pool", "value", "way", "at", "other", "low", "high"], f_law_bent⟩,
  .ir ⟨"_law_bends", topS 26, ["pool", "value", "many"], ["pool", "value", "many", "rows", "k", "one"], f_law_bends⟩,
  .ir ⟨"_law_ints", topS 27, ["x", "low", "high"], ["x", "low", "high", "one"], f_law_ints⟩,
  .ir ⟨"_law_table", topS 28, ["pool", "letters", "n", "answers"], ["pool", "letters", "n", "answers", "rows", "state", "row", "letter"], f_law_table⟩,
  .ir ⟨"_law_machine", topS 29, ["pool", "letters", "most"], ["pool", "letters", "most", "way", "n", "rows", "steps", "goals", "letter", "state"], f_law_machine⟩,
  .ir ⟨"_law_word", topS 30, ["pool", "letters", "most"], ["pool", "letters", "most", "word", "k"], f_law_word⟩,
  .ir ⟨"_law_answers", topS 31, ["machine", "state", "word"], ["machine", "state", "word", "found", "letter", "answer"], f_law_answers⟩,
  .ir ⟨"_law_goal", topS 32, ["machine", "state", "word"], ["machine", "state", "word", "letter"], f_law_goal⟩,
  .ir ⟨"_law_all_words", topS 33, ["letters", "length"], ["letters", "length", "found", "k", "longer", "word", "letter"], f_law_all_words⟩,
  .ir ⟨"_law_is_machine", topS 34, ["x"], ["x", "row", "step"], f_law_is_machine⟩,
  .ir ⟨"_law_doubled", topS 35, ["pool", "letters", "n"], ["pool", "letters", "n", "half", "base", "rows", "state", "row", "answer", "goal", "other"], f_law_doubled⟩,
  .ir ⟨"_law_is_word", topS 36, ["letters", "x"], ["letters", "x"], f_law_is_word⟩]
abbrev ix_is_integer : Nat := 0
theorem en_is_integer : es[ix_is_integer]? = some (.ir ⟨"is_integer", topS 1, ["value"], ["value"], f_is_integer⟩) := rfl
abbrev ix_is_number : Nat := 1
theorem en_is_number : es[ix_is_number]? = some (.ir ⟨"is_number", topS 2, ["value", "low", "high"], ["value", "low", "high"], f_is_number⟩) := rfl
abbrev ix_is_tuple : Nat := 2
theorem en_is_tuple : es[ix_is_tuple]? = some (.ir ⟨"is_tuple", topS 3, ["value", "size"], ["value", "size"], f_is_tuple⟩) := rfl
abbrev ix_is_machine : Nat := 3
theorem en_is_machine : es[ix_is_machine]? = some (.ir ⟨"is_machine", topS 8, ["value"], ["value", "row", "step"], f_is_machine⟩) := rfl
abbrev ix_is_step : Nat := 4
theorem en_is_step : es[ix_is_step]? = some (.ir ⟨"is_step", topS 9, ["value", "states"], ["value", "states"], f_is_step⟩) := rfl
abbrev ix_letters_of : Nat := 5
theorem en_letters_of : es[ix_letters_of]? = some (.ir ⟨"letters_of", topS 10, ["machine"], ["machine"], f_letters_of⟩) := rfl
abbrev ix_answers_of : Nat := 6
theorem en_answers_of : es[ix_answers_of]? = some (.ir ⟨"answers_of", topS 11, ["machine", "state", "word"], ["machine", "state", "word", "found", "letter", "answer"], f_answers_of⟩) := rfl
abbrev ix_goal_of : Nat := 7
theorem en_goal_of : es[ix_goal_of]? = some (.ir ⟨"goal_of", topS 12, ["machine", "state", "word"], ["machine", "state", "word", "letter"], f_goal_of⟩) := rfl
abbrev ix_trial : Nat := 8
theorem en_trial : es[ix_trial]? = some (.ir ⟨"trial", topS 13, ["machine", "word"], ["machine", "word"], f_trial⟩) := rfl
abbrev ix_words_of : Nat := 9
theorem en_words_of : es[ix_words_of]? = some (.ir ⟨"words_of", topS 14, ["letters", "length"], ["letters", "length", "found", "_", "word", "letter"], f_words_of⟩) := rfl
abbrev ix_is_word : Nat := 10
theorem en_is_word : es[ix_is_word]? = some (.ir ⟨"is_word", topS 15, ["letters", "value"], ["letters", "value", "letter"], f_is_word⟩) := rfl
abbrev ix_law_draw : Nat := 11
theorem en_law_draw : es[ix_law_draw]? = some (.draw (topS 20)) := rfl
abbrev ix_law_kind : Nat := 12
theorem en_law_kind : es[ix_law_kind]? = some (.ir ⟨"_law_kind", topS 21, ["x"], ["x"], f_law_kind⟩) := rfl
abbrev ix_law_equal : Nat := 13
theorem en_law_equal : es[ix_law_equal]? = some (.ir ⟨"_law_equal", topS 22, ["x", "due"], ["x", "due", "k"], f_law_equal⟩) := rfl
abbrev ix_law_is : Nat := 14
theorem en_law_is : es[ix_law_is]? = some (.ir ⟨"_law_is", topS 23, ["x", "due"], ["x", "due"], f_law_is⟩) := rfl
abbrev ix_law_int : Nat := 15
theorem en_law_int : es[ix_law_int]? = some (.ir ⟨"_law_int", topS 24, ["x", "low", "high"], ["x", "low", "high"], f_law_int⟩) := rfl
abbrev ix_law_bent : Nat := 16
theorem en_law_bent : es[ix_law_bent]? = some (.ir ⟨"_law_bent", topS 25, ["pool", "value"], ["pool", "value", "way", "at", "other", "low", "high"], f_law_bent⟩) := rfl
abbrev ix_law_bends : Nat := 17
theorem en_law_bends : es[ix_law_bends]? = some (.ir ⟨"_law_bends", topS 26, ["pool", "value", "many"], ["pool", "value", "many", "rows", "k", "one"], f_law_bends⟩) := rfl
abbrev ix_law_ints : Nat := 18
theorem en_law_ints : es[ix_law_ints]? = some (.ir ⟨"_law_ints", topS 27, ["x", "low", "high"], ["x", "low", "high", "one"], f_law_ints⟩) := rfl
abbrev ix_law_table : Nat := 19
theorem en_law_table : es[ix_law_table]? = some (.ir ⟨"_law_table", topS 28, ["pool", "letters", "n", "answers"], ["pool", "letters", "n", "answers", "rows", "state", "row", "letter"], f_law_table⟩) := rfl
abbrev ix_law_machine : Nat := 20
theorem en_law_machine : es[ix_law_machine]? = some (.ir ⟨"_law_machine", topS 29, ["pool", "letters", "most"], ["pool", "letters", "most", "way", "n", "rows", "steps", "goals", "letter", "state"], f_law_machine⟩) := rfl
abbrev ix_law_word : Nat := 21
theorem en_law_word : es[ix_law_word]? = some (.ir ⟨"_law_word", topS 30, ["pool", "letters", "most"], ["pool", "letters", "most", "word", "k"], f_law_word⟩) := rfl
abbrev ix_law_answers : Nat := 22
theorem en_law_answers : es[ix_law_answers]? = some (.ir ⟨"_law_answers", topS 31, ["machine", "state", "word"], ["machine", "state", "word", "found", "letter", "answer"], f_law_answers⟩) := rfl
abbrev ix_law_goal : Nat := 23
theorem en_law_goal : es[ix_law_goal]? = some (.ir ⟨"_law_goal", topS 32, ["machine", "state", "word"], ["machine", "state", "word", "letter"], f_law_goal⟩) := rfl
abbrev ix_law_all_words : Nat := 24
theorem en_law_all_words : es[ix_law_all_words]? = some (.ir ⟨"_law_all_words", topS 33, ["letters", "length"], ["letters", "length", "found", "k", "longer", "word", "letter"], f_law_all_words⟩) := rfl
abbrev ix_law_is_machine : Nat := 25
theorem en_law_is_machine : es[ix_law_is_machine]? = some (.ir ⟨"_law_is_machine", topS 34, ["x"], ["x", "row", "step"], f_law_is_machine⟩) := rfl
abbrev ix_law_doubled : Nat := 26
theorem en_law_doubled : es[ix_law_doubled]? = some (.ir ⟨"_law_doubled", topS 35, ["pool", "letters", "n"], ["pool", "letters", "n", "half", "base", "rows", "state", "row", "answer", "goal", "other"], f_law_doubled⟩) := rfl
abbrev ix_law_is_word : Nat := 27
theorem en_law_is_word : es[ix_law_is_word]? = some (.ir ⟨"_law_is_word", topS 36, ["letters", "x"], ["letters", "x"], f_law_is_word⟩) := rfl
def lawN : List Str := ["script", "pool", "letters", "machine", "most", "others", "value", "k", "length", "word", "state"]
def lawBody : List Sm := [.asg (.nm 2) (.bin .Add (.k (.int 1)) (.call 11 [(.v 1), (.k (.int 3))])), .asg (.nm 3) (.call 20 [(.v 1), (.v 2), (.k (.int 6))]), .asg (.nm 4) (.bin .Mult (.tup [(.bin .Mult (.tup [(.tup [(.k (.int 2)), (.k (.int 5))])]) (.k (.int 3)))]) (.k (.int 6))), .asg (.nm 5) (.lst [(.tup []), (.tup [(.tup [])]), (.tup [(.tup [(.tup [(.k (.int 0)), (.k (.int 0))])])]), (.tup [(.tup [(.tup [(.k (.int 0)), (.k (.int 1))])])]), (.tup [(.tup [(.tup [(.k (.int 3)), (.k (.int 0))])])]), (.tup [(.tup [(.tup [(.k (.int 0)), (.k (.int 0))])]), (.tup [])]), (.tup [(.tup [(.tup [(.k (.int 0)), (.k (.int 0))])]), (.tup [(.tup [(.k (.int 0)), (.k (.int 0))]), (.tup [(.k (.int 0)), (.k (.int 1))])])]), (.v 4), (.bin .Add (.b 4) (.sl (.b 4) none (some (.k (.int 1))))), (.tup [(.bin .Mult (.tup [(.tup [(.k (.int 0)), (.k (.int 0))])]) (.k (.int 4)))]), (.tup [(.tup [(.tup [(.k (.int 0)), (.k (.int 0))]), (.tup [(.k (.int 0)), (.k (.int 0)), (.k (.int 0))])])]), (.lst [(.tup [(.tup [(.k (.int 0)), (.k (.int 0))])])])]), .for (.nm 6) .e [(.bin .Add (.call 17 [(.v 1), (.v 3), (.k (.int 30))]) (.b 5))] [.ife (.nt (.call 14 [(.call 3 [(.v 6)]), (.call 25 [(.v 6)])])) [.ret (.k (.bl false))] []], .ife (.nt (.call 13 [(.call 5 [(.v 3)]), (.v 2)])) [.ret (.k (.bl false))] [], .for (.nm 7) .rng1 [(.k (.int 8))] [.asg (.nm 9) (.call 21 [(.v 1), (.v 2), (.k (.int 9))]), .asg (.nm 10) (.call 11 [(.v 1), (.bi .len [(.b 3)])]), .ife (.or (.nt (.call 13 [(.call 6 [(.v 3), (.v 10), (.v 9)]), (.call 22 [(.v 3), (.v 10), (.v 9)])])) (.nt (.call 13 [(.call 7 [(.v 3), (.v 10), (.v 9)]), (.call 23 [(.v 3), (.v 10), (.v 9)])]))) [.ret (.k (.bl false))] [], .ife (.nt (.call 13 [(.call 8 [(.v 3), (.v 9)]), (.call 22 [(.v 3), (.k (.int 0)), (.v 9)])])) [.ret (.k (.bl false))] [], .for (.nm 6) .e [(.bin .Add (.call 17 [(.v 1), (.v 9), (.k (.int 4))]) (.lst [(.tup [(.v 2)]), (.tup [(.bin .Sub (.b 2) (.k (.int 1)))]), (.tup [(.neg (.k (.int 1)))]), (.tup [(.k (.int 0)), (.v 2)])]))] [.ife (.nt (.call 14 [(.call 10 [(.v 2), (.v 6)]), (.call 27 [(.v 2), (.v 6)])])) [.ret (.k (.bl false))] []]], .asg (.nm 8) (.call 11 [(.v 1), (.k (.int 5))]), .ret (.call 13 [(.call 9 [(.v 2), (.v 8)]), (.call 24 [(.v 2), (.v 8)])])]
abbrev sLaw : Stmt := topS 37
theorem bd_is_integer : BindB "is_integer" (topS 1) ["value"] := fun _ _ _ _ _ _ us hl => match us, hl with | [_], _ => rfl
theorem bd_is_number : BindB "is_number" (topS 2) ["value", "low", "high"] := fun _ _ _ _ _ _ us hl => match us, hl with | [_, _, _], _ => rfl
theorem bd_is_tuple : BindB "is_tuple" (topS 3) ["value", "size"] := fun _ _ _ _ _ _ us hl => match us, hl with | [_, _], _ => rfl
theorem bd_is_machine : BindB "is_machine" (topS 8) ["value"] := fun _ _ _ _ _ _ us hl => match us, hl with | [_], _ => rfl
theorem bd_is_step : BindB "is_step" (topS 9) ["value", "states"] := fun _ _ _ _ _ _ us hl => match us, hl with | [_, _], _ => rfl
theorem bd_letters_of : BindB "letters_of" (topS 10) ["machine"] := fun _ _ _ _ _ _ us hl => match us, hl with | [_], _ => rfl
theorem bd_answers_of : BindB "answers_of" (topS 11) ["machine", "state", "word"] := fun _ _ _ _ _ _ us hl => match us, hl with | [_, _, _], _ => rfl
theorem bd_goal_of : BindB "goal_of" (topS 12) ["machine", "state", "word"] := fun _ _ _ _ _ _ us hl => match us, hl with | [_, _, _], _ => rfl
theorem bd_trial : BindB "trial" (topS 13) ["machine", "word"] := fun _ _ _ _ _ _ us hl => match us, hl with | [_, _], _ => rfl
theorem bd_words_of : BindB "words_of" (topS 14) ["letters", "length"] := fun _ _ _ _ _ _ us hl => match us, hl with | [_, _], _ => rfl
theorem bd_is_word : BindB "is_word" (topS 15) ["letters", "value"] := fun _ _ _ _ _ _ us hl => match us, hl with | [_, _], _ => rfl
theorem bd_law_cell : BindB "_law_cell" (topS 17) ["script", "k"] := fun _ _ _ _ _ _ us hl => match us, hl with | [_, _], _ => rfl
theorem bd_law_numbers : BindB "_law_numbers" (topS 18) ["cell", "many"] := fun _ _ _ _ _ _ us hl => match us, hl with | [_, _], _ => rfl
theorem bd_law_draw : BindB "_law_draw" (topS 20) ["pool", "many"] := fun _ _ _ _ _ _ us hl => match us, hl with | [_, _], _ => rfl
theorem bd_law_kind : BindB "_law_kind" (topS 21) ["x"] := fun _ _ _ _ _ _ us hl => match us, hl with | [_], _ => rfl
theorem bd_law_equal : BindB "_law_equal" (topS 22) ["x", "due"] := fun _ _ _ _ _ _ us hl => match us, hl with | [_, _], _ => rfl
theorem bd_law_is : BindB "_law_is" (topS 23) ["x", "due"] := fun _ _ _ _ _ _ us hl => match us, hl with | [_, _], _ => rfl
theorem bd_law_int : BindB "_law_int" (topS 24) ["x", "low", "high"] := fun _ _ _ _ _ _ us hl => match us, hl with | [_, _, _], _ => rfl
theorem bd_law_bent : BindB "_law_bent" (topS 25) ["pool", "value"] := fun _ _ _ _ _ _ us hl => match us, hl with | [_, _], _ => rfl
theorem bd_law_bends : BindB "_law_bends" (topS 26) ["pool", "value", "many"] := fun _ _ _ _ _ _ us hl => match us, hl with | [_, _, _], _ => rfl
theorem bd_law_ints : BindB "_law_ints" (topS 27) ["x", "low", "high"] := fun _ _ _ _ _ _ us hl => match us, hl with | [_, _, _], _ => rfl
theorem bd_law_table : BindB "_law_table" (topS 28) ["pool", "letters", "n", "answers"] := fun _ _ _ _ _ _ us hl => match us, hl with | [_, _, _, _], _ => rfl
theorem bd_law_machine : BindB "_law_machine" (topS 29) ["pool", "letters", "most"] := fun _ _ _ _ _ _ us hl => match us, hl with | [_, _, _], _ => rfl
theorem bd_law_word : BindB "_law_word" (topS 30) ["pool", "letters", "most"] := fun _ _ _ _ _ _ us hl => match us, hl with | [_, _, _], _ => rfl
theorem bd_law_answers : BindB "_law_answers" (topS 31) ["machine", "state", "word"] := fun _ _ _ _ _ _ us hl => match us, hl with | [_, _, _], _ => rfl
theorem bd_law_goal : BindB "_law_goal" (topS 32) ["machine", "state", "word"] := fun _ _ _ _ _ _ us hl => match us, hl with | [_, _, _], _ => rfl
theorem bd_law_all_words : BindB "_law_all_words" (topS 33) ["letters", "length"] := fun _ _ _ _ _ _ us hl => match us, hl with | [_, _], _ => rfl
theorem bd_law_is_machine : BindB "_law_is_machine" (topS 34) ["x"] := fun _ _ _ _ _ _ us hl => match us, hl with | [_], _ => rfl
theorem bd_law_doubled : BindB "_law_doubled" (topS 35) ["pool", "letters", "n"] := fun _ _ _ _ _ _ us hl => match us, hl with | [_, _, _], _ => rfl
theorem bd_law_is_word : BindB "_law_is_word" (topS 36) ["letters", "x"] := fun _ _ _ _ _ _ us hl => match us, hl with | [_, _], _ => rfl
theorem binds : ∀ e ∈ es, BindB e.name e.st e.ps := List.forall_mem_cons.mpr ⟨bd_is_integer, List.forall_mem_cons.mpr ⟨bd_is_number, List.forall_mem_cons.mpr ⟨bd_is_tuple, List.forall_mem_cons.mpr ⟨bd_is_machine, List.forall_mem_cons.mpr ⟨bd_is_step, List.forall_mem_cons.mpr ⟨bd_letters_of, List.forall_mem_cons.mpr ⟨bd_answers_of, List.forall_mem_cons.mpr ⟨bd_goal_of, List.forall_mem_cons.mpr ⟨bd_trial, List.forall_mem_cons.mpr ⟨bd_words_of, List.forall_mem_cons.mpr ⟨bd_is_word, List.forall_mem_cons.mpr ⟨bd_law_draw, List.forall_mem_cons.mpr ⟨bd_law_kind, List.forall_mem_cons.mpr ⟨bd_law_equal, List.forall_mem_cons.mpr ⟨bd_law_is, List.forall_mem_cons.mpr ⟨bd_law_int, List.forall_mem_cons.mpr ⟨bd_law_bent, List.forall_mem_cons.mpr ⟨bd_law_bends, List.forall_mem_cons.mpr ⟨bd_law_ints, List.forall_mem_cons.mpr ⟨bd_law_table, List.forall_mem_cons.mpr ⟨bd_law_machine, List.forall_mem_cons.mpr ⟨bd_law_word, List.forall_mem_cons.mpr ⟨bd_law_answers, List.forall_mem_cons.mpr ⟨bd_law_goal, List.forall_mem_cons.mpr ⟨bd_law_all_words, List.forall_mem_cons.mpr ⟨bd_law_is_machine, List.forall_mem_cons.mpr ⟨bd_law_doubled, List.forall_mem_cons.mpr ⟨bd_law_is_word, fun _ h => nomatch h⟩⟩⟩⟩⟩⟩⟩⟩⟩⟩⟩⟩⟩⟩⟩⟩⟩⟩⟩⟩⟩⟩⟩⟩⟩⟩⟩⟩
def allDefs : List (Str × Stmt) := [("is_integer", topS 1), ("is_number", topS 2), ("is_tuple", topS 3), ("is_machine", topS 8), ("is_step", topS 9), ("letters_of", topS 10), ("answers_of", topS 11), ("goal_of", topS 12), ("trial", topS 13), ("words_of", topS 14), ("is_word", topS 15), ("_law_cell", topS 17), ("_law_numbers", topS 18), ("_law_pool", topS 19), ("_law_draw", topS 20), ("_law_kind", topS 21), ("_law_equal", topS 22), ("_law_is", topS 23), ("_law_int", topS 24), ("_law_bent", topS 25), ("_law_bends", topS 26), ("_law_ints", topS 27), ("_law_table", topS 28), ("_law_machine", topS 29), ("_law_word", topS 30), ("_law_answers", topS 31), ("_law_goal", topS 32), ("_law_all_words", topS 33), ("_law_is_machine", topS 34), ("_law_doubled", topS 35), ("_law_is_word", topS 36), ("law", topS 37)]
def loose : List Str := (["is_integer", "is_number", "is_tuple", "is_machine", "is_step", "letters_of", "answers_of", "goal_of", "trial", "words_of", "is_word", "_law_cell", "_law_numbers", "_law_pool", "_law_draw", "_law_kind", "_law_equal", "_law_is", "_law_int", "_law_bent", "_law_bends", "_law_ints", "_law_table", "_law_machine", "_law_word", "_law_answers", "_law_goal", "_law_all_words", "_law_is_machine", "_law_doubled"] : List Str) ++ (["_law_is_word", "MOST_STATES", "MOST_LETTERS", "MOST_ANSWERS"] : List Str)
theorem drawSt : ∀ st, Mp.Entry.draw st ∈ es → st = topS 20 := fun st h => by
  unfold es at h
  simpa using h
def lawAt : Nat := 37
end K
namespace K
open PySem PySem.Spec PyProof.Rows L2 Mp
abbrev gg (n : Nat) : Gf := gfn FF es n
def isInt : D → Bool
  | .int _ => true
  | _ => false
def num (v : D) (lo hi : Int) : Bool := match v with
  | .int i => decide (lo ≤ i) && decide (i ≤ hi)
  | _ => false
def isTup (v : D) (k : Int) : Bool := match v with
  | .tup ds => decide ((ds.length : Int) = k)
  | _ => false
theorem sp_law_draw {n B : Nat} {w : Wd} {m : Int} (hn : 1 ≤ n) (g : G B w) (hB : B < 2 ^ 60) (h0 : 0 < m) : ∃ (k : Nat) (w' : Wd), (k : Int) < m ∧ G (B + 1) w' ∧ gg n ix_law_draw [.pool, .int m] w = some (false, .int (k : Nat), w') := by
  obtain ⟨n, rfl, hm⟩ := lvl hn
  obtain ⟨k, w', h1, h2, h3⟩ := drawF_ok g hB h0
  exact ⟨k, w', h1, h2, (gfn_draw en_law_draw).trans h3⟩
theorem sp_is_integer {n b d : Nat} {v : D} {w : Wd} (hn : 1 ≤ n) (hv : Vd b d v) : gg n ix_is_integer [v] w = some (false, .bl (isInt v), w) := by
  obtain ⟨n, rfl, hm⟩ := lvl hn
  refine gfn_ir en_is_integer ?_
  cases v with
  | pool => cases d <;> exact hv.elim
  | dct => cases d <;> exact hv.elim
  | _ => rfl
theorem sp_is_number {n b d : Nat} {v : D} {lo hi : Int} {w : Wd} (hn : 2 ≤ n) (hv : Vd b d v) : gg n ix_is_number [v, .int lo, .int hi] w = some (false, .bl (num v lo hi), w) := by
  obtain ⟨n, rfl, hm⟩ := lvl hn
  refine gfn_ir en_is_number (pure_ok rfl ?_)
  refine ⟨_, _, _, sp_is_integer hm hv, ?_⟩
  cases v with
  | int i =>
    refine ⟨fun _ => ⟨_, rfl, fun h => ⟨_, rfl, rfl, ?_, rfl⟩, fun h => ⟨rfl, ?_, rfl⟩⟩, nofun⟩
    · show D.bl _ = D.bl (decide (lo ≤ i) && decide (i ≤ hi))
      rw [h]; rfl
    · show D.bl _ = D.bl (decide (lo ≤ i) && decide (i ≤ hi))
      rw [h]; rfl
  | _ => exact ⟨nofun, fun _ => ⟨rfl, rfl, rfl⟩⟩
theorem sp_is_tuple {n b d : Nat} {v : D} {k : Int} {w : Wd} (hn : 1 ≤ n) (hv : Vd b d v) : gg n ix_is_tuple [v, .int k] w = some (false, .bl (isTup v k), w) := by
  obtain ⟨n, rfl, hm⟩ := lvl hn
  refine gfn_ir en_is_tuple (pure_ok rfl ?_)
  cases v with
  | tup ds => exact ⟨_, rfl, fun _ => ⟨_, rfl, _, rfl, rfl, rfl, rfl⟩, nofun⟩
  | pool => cases d <;> exact hv.elim
  | dct => cases d <;> exact hv.elim
  | _ => exact ⟨_, rfl, nofun, fun _ => ⟨rfl, rfl, rfl⟩⟩
end K
namespace K
open PySem PySem.Spec PyProof.Rows L2 Mp
def isStep (v : D) (k : Int) : Bool := match v with
  | .tup [a, b] => num a 0 2 && num b 0 (k - 1)
  | _ => false
def isRow (cs k : Nat) (v : D) : Bool := isTup v cs && (match v with
  | .tup xs => xs.all fun x => isStep x k
  | _ => false)
theorem isTup_two {v : D} (h : isTup v 2 = true) : ∃ a b, v = .tup [a, b] := by
  cases v with
  | tup ds =>
    have h : (ds.length : Int) = 2 := of_decide_eq_true h
    match ds, h with
    | [a, b], _ => exact ⟨a, b, rfl⟩
    | [], h => simp at h
    | [_], h => simp at h
    | _ :: _ :: _ :: _, h => simp at h; omega
  | _ => cases h
theorem isStep_not {v : D} {k : Int} (h : isTup v 2 = false) : isStep v k = false := by
  unfold isStep
  split
  · exact nomatch h
  · rfl
theorem sp_is_step {n b d : Nat} {v : D} {k : Int} {w : Wd} (hn : 3 ≤ n) (hv : Vd b d v) : gg n ix_is_step [v, .int k] w = some (false, .bl (isStep v k), w) := by
  obtain ⟨n, rfl, hm⟩ := lvl hn
  refine gfn_ir en_is_step (pure_ok rfl ?_)
  refine ⟨_, _, _, sp_is_tuple (by omega) hv, fun h => ?_, fun h => ⟨rfl, ?_, rfl⟩⟩
  · obtain ⟨a, c, rfl⟩ := isTup_two h
    obtain ⟨e, rfl, _, hx⟩ := hv.tup
    have ha := hx a (by simp)
    have hc := hx c (by simp)
    refine ⟨a, rfl, _, rfl, _, _, _, sp_is_number hm ha, fun h => ?_, fun h => ⟨rfl, ?_, rfl⟩⟩
    · refine ⟨c, rfl, _, rfl, _, _, _, sp_is_number hm hc, rfl, ?_, rfl⟩
      show D.bl _ = D.bl (num a 0 2 && num c 0 (k - 1))
      have h : num a 0 2 = true := h
      rw [h]; rfl
    · show D.bl _ = D.bl (num a 0 2 && num c 0 (k - 1))
      have h : num a 0 2 = false := h
      rw [h]; rfl
  · rw [isStep_not h]
/-- all of a list of truths -/
theorem asBools_map (f : D → Bool) : ∀ xs : List D, asBools (xs.map fun x => .bl (f x)) = some (xs.map f)
  | [] => rfl
  | x :: xs => by
    show (asBools (xs.map fun x => D.bl (f x))).map (f x :: ·) = _
    rw [asBools_map f xs]; rfl
theorem filterMap_some {α β : Type} (f : α → β) (xs : List α) : xs.filterMap (fun x => some (f x)) = xs.map f := by simp [List.filterMap_eq_map]
theorem all_step {n b d : Nat} {k : Nat} {xs : List D} {w : Wd} (hm : 3 ≤ n) (hx : ∀ x ∈ xs, Vd b d x) (hl : xs.length ≤ sizeLine) {Q : Wx} (v : D) (vs : List D) (hv : v = .tup vs)
    (hvl : vs.length = k) (q : Q (.val, .bl (xs.all fun x => isStep x k)) ⟨[some (false, v), some (false, .tup xs), none], w⟩) :
    wE (gg n) (.bi .all [(.lc (.call 4 [(.v 2), (.bi .len [(.b 0)])]) (.nm 2) .e [(.v 1)] none [("step", 2)])]) ⟨[some (false, v), some (false, .tup xs), none], w⟩ Q := by
  subst hv
  refine ⟨rfl, xs, rfl, lc_pure (fun x => some (.bl (isStep x k))) (fun i x hi hd => ?_) fun s' hs => ⟨?_, ?_⟩⟩
  · refine ⟨_, rfl, fun _ => ?_, nofun⟩
    refine ⟨_, rfl, _, _, _, sp_is_step hm (hx x (by rw [hd]; exact List.getElem_mem hi)), _, rfl, ?_, rfl⟩
    rw [hvl]
  · rw [filterMap_some, List.length_map]; exact hl
  · refine ⟨(false, .bl (xs.all fun x => isStep x k)), ?_, ?_⟩
    · show (asBools _).map _ = _
      rw [filterMap_some, asBools_map, Option.map_some, List.all_map]
      rfl
    · rw [hs]
      exact q
theorem tup_or {v : D} : (∃ ds, v = .tup ds) ∨ (∀ k, isTup v k = false ∧ (∀ b d, Vd b d v → isi .tuple v = some false)) := by
  cases v with
  | tup ds => exact .inl ⟨ds, rfl⟩
  | pool => exact .inr fun k => ⟨rfl, fun b d h => by cases d <;> exact h.elim⟩
  | dct => exact .inr fun k => ⟨rfl, fun b d h => by cases d <;> exact h.elim⟩
  | _ => exact .inr fun k => ⟨rfl, fun b d h => rfl⟩
/-- how many are within -/
def btw (n lo hi : Nat) : Bool := decide (lo ≤ n) && decide (n ≤ hi)
theorem btw_int {n lo hi : Nat} : (decide ((lo : Int) ≤ (n : Int)) && decide ((n : Int) ≤ (hi : Int))) = btw n lo hi := by
  unfold btw
  congr 1 <;> exact decide_eq_decide.mpr (by omega)
def isM2 (ds : List D) : Bool := match ds with
    | .tup cs :: _ => btw cs.length 1 3 && ds.all (isRow cs.length ds.length)
    | _ => false
def isM (v : D) : Bool := match v with
  | .tup ds => btw ds.length 1 6 && isM2 ds
  | _ => false
theorem sp_is_machine {n b d : Nat} {v : D} {w : Wd} (hn : 4 ≤ n) (hv : Vd b d v) (hb : b ≤ sizeLine) : gg n ix_is_machine [v] w = some (false, .bl (isM v), w) := by
  obtain ⟨n, rfl, hm⟩ := lvl hn
  refine gfn_ir en_is_machine (pure_ok rfl ?_)
  rcases tup_or (v := v) with ⟨ds, rfl⟩ | h
  case inr =>
    refine ⟨_, (h 0).2 b d hv, fun _ => ⟨fun _ => ⟨rfl, ?_, rfl⟩, nofun⟩, nofun⟩
    have e := (h 0).2 b d hv
    cases v <;> first | rfl | cases e
  obtain ⟨e, rfl, hl, hx⟩ := hv.tup
  refine ifs_pu (pu_or (pu_nt fun Q q => ⟨_, rfl, q⟩) fun _ => pu_nt (pu_chn (fun Q q => q) (fun Q q => ⟨_, rfl, q⟩) (fun Q q => q) rfl rfl)) (fun h => ⟨rfl, ?_, rfl⟩) fun h => ?_
  · have h : (!(decide (((1 : Nat) : Int) ≤ (ds.length : Int)) && decide ((ds.length : Int) ≤ ((6 : Nat) : Int)))) = true := h
    rw [btw_int] at h
    have h : btw ds.length 1 6 = false := by simpa using h
    show D.bl false = D.bl (btw ds.length 1 6 && isM2 ds)
    rw [h]; rfl
  have h : (!(decide (((1 : Nat) : Int) ≤ (ds.length : Int)) && decide ((ds.length : Int) ≤ ((6 : Nat) : Int)))) = false := h
  rw [btw_int] at h
  have h : btw ds.length 1 6 = true := by simpa using h
  have eM : isM (.tup ds) = isM2 ds := by
    show (btw ds.length 1 6 && isM2 ds) = _
    rw [h]; rfl
  rw [eM]
  obtain ⟨r, rs, rfl⟩ : ∃ r rs, ds = r :: rs := by
    cases ds with
    | nil => cases h
    | cons r rs => exact ⟨r, rs, rfl⟩
  have hr := hx r (by simp)
  have i0 : ix (.tup (r :: rs)) (.int 0) = some r := ix_tup (i := 0) rfl
  rcases tup_or (v := r) with ⟨cs, rfl⟩ | h
  case inr =>
    refine ⟨r, i0, _, (h 0).2 _ _ hr, fun _ => ⟨fun _ => ⟨rfl, ?_, rfl⟩, nofun⟩, nofun⟩
    have e := (h 0).2 _ _ hr
    cases r <;> first | rfl | cases e
  refine ifs_pu (pu_or (pu_nt fun Q q => ⟨_, i0, _, rfl, q⟩) fun _ => pu_nt (pu_chn (fun Q q => q) (fun Q q => ⟨_, i0, _, rfl, q⟩) (fun Q q => q) rfl rfl)) (fun h => ⟨rfl, ?_, rfl⟩) fun h => ?_
  · have h : (!(decide (((1 : Nat) : Int) ≤ (cs.length : Int)) && decide ((cs.length : Int) ≤ ((3 : Nat) : Int)))) = true := h
    rw [btw_int] at h
    have h : btw cs.length 1 3 = false := by simpa using h
    show D.bl false = D.bl (btw cs.length 1 3 && _)
    rw [h]; rfl
  have h : (!(decide (((1 : Nat) : Int) ≤ (cs.length : Int)) && decide ((cs.length : Int) ≤ ((3 : Nat) : Int)))) = false := h
  rw [btw_int] at h
  have h : btw cs.length 1 3 = true := by simpa using h
  have eM : isM2 (.tup cs :: rs) = (D.tup cs :: rs).all (isRow cs.length (D.tup cs :: rs).length) := by
    show (btw cs.length 1 3 && _) = _
    rw [h]; rfl
  rw [eM]
  generalize hds : D.tup cs :: rs = ds at *
  refine ⟨_, rfl, for_rule (fun i s => (ds.take i).all (isRow cs.length ds.length) = true ∧ ∃ y, s = ⟨[some (false, .tup ds), y, none], w⟩) ⟨rfl, none, rfl⟩ (fun i r s hi hr hI => ?_) (fun s hI => ?_)⟩
  · obtain ⟨hall, y, rfl⟩ := hI
    have hr' : Vd b e r := hx r (by rw [hr]; exact List.getElem_mem hi)
    have tk : ds.take (i + 1) = ds.take i ++ [r] := by rw [List.take_succ_eq_append_getElem hi, hr]
    have mem : r ∈ ds := by rw [hr]; exact List.getElem_mem hi
    have neg : isRow cs.length ds.length r = false → D.bl false = D.bl (ds.all (isRow cs.length ds.length)) := fun h => by
      have : ds.all (isRow cs.length ds.length) = false := by
        rw [List.all_eq_false]
        exact ⟨r, mem, by rw [h]; simp⟩
      rw [this]
    have t1 : Pu (gg n) (.call 2 [(.v 1), (.bi .len [(.ix (.b 0) (.k (.int 0)))])]) ⟨[some (false, .tup ds), some (false, r), none], w⟩ (.val, .bl (isTup r cs.length)) := fun Q q => ⟨_, i0, _, rfl, _, _, _, sp_is_tuple (by omega) hr', q⟩
    refine ⟨⟨[some (false, .tup ds), some (false, r), none], w⟩, rfl, ifs_pu (k := !isRow cs.length ds.length r) ?_ (fun h => ⟨rfl, neg (by simpa using h), rfl⟩) fun h => ⟨?_, _, rfl⟩⟩
    · rcases tup_or (v := r) with ⟨xs, rfl⟩ | h
      case inr =>
        have e : isRow cs.length ds.length r = false := by simp only [isRow, (h _).1, Bool.false_and]
        rw [e]
        rw [(h _).1] at t1
        exact pu_or (k2 := false) (pu_nt t1) nofun
      obtain ⟨e', rfl, hl', hx'⟩ := hr'.tup
      have e : (!isRow cs.length ds.length (.tup xs)) = (!isTup (.tup xs) cs.length || !xs.all fun x => isStep x ds.length) := by
        simp only [isRow, Bool.not_and]
      rw [e]
      exact pu_or (pu_nt t1) fun h => pu_nt fun Q q => all_step hm hx' (by omega) (.tup ds) ds rfl rfl q
    · rw [tk, List.all_append, hall, Bool.true_and]
      simp only [List.all_cons, List.all_nil, Bool.and_true]
      simpa using h
  · obtain ⟨hall, y, rfl⟩ := hI
    rw [List.take_length] at hall
    exact ⟨rfl, by rw [hall], rfl⟩
end K
namespace K
open PySem PySem.Spec PyProof.Rows L2 Mp
/-! ### machines -/
abbrev Mach := List (List (Nat × Nat))
abbrev nD (i : Nat) : D := .int (i : Nat)
def stD (p : Nat × Nat) : D := .tup [nD p.1, nD p.2]
def rwD (r : List (Nat × Nat)) : D := .tup (r.map stD)
def mD (m : Mach) : D := .tup (m.map rwD)
def wD (ws : List Nat) : D := .tup (ws.map nD)
structure MOk (L S : Nat) (m : Mach) : Prop where
  pos : 1 ≤ m.length
  le : m.length ≤ S
  lpos : 1 ≤ L
  lle : L ≤ 3
  len : ∀ r ∈ m, r.length = L
  ans : ∀ r ∈ m, ∀ p ∈ r, p.1 ≤ 2
  goal : ∀ r ∈ m, ∀ p ∈ r, p.2 < m.length
def stp (m : Mach) (s l : Nat) : Nat × Nat := ((m[s]?.getD [])[l]?).getD (0, 0)
theorem MOk.row {L S : Nat} {m : Mach} (h : MOk L S m) {s : Nat} (hs : s < m.length) : ∃ r, m[s]? = some r ∧ r ∈ m ∧ r.length = L := ⟨m[s], List.getElem?_eq_getElem hs, List.getElem_mem hs, h.len _ (List.getElem_mem hs)⟩
theorem MOk.step {L S : Nat} {m : Mach} (h : MOk L S m) {s l : Nat} (hs : s < m.length) (hl : l < L) : ∃ r, m[s]? = some r ∧ r[l]? = some (stp m s l) ∧ (stp m s l).1 ≤ 2 ∧ (stp m s l).2 < m.length := by
  obtain ⟨r, e, hr, hlen⟩ := h.row hs
  have hl' : l < r.length := by omega
  have e2 : stp m s l = r[l] := by
    unfold stp
    rw [e, Option.getD_some, List.getElem?_eq_getElem hl', Option.getD_some]
  refine ⟨r, e, by rw [e2, List.getElem?_eq_getElem hl'], ?_, ?_⟩
  · rw [e2]; exact h.ans r hr _ (List.getElem_mem hl')
  · rw [e2]; exact h.goal r hr _ (List.getElem_mem hl')
theorem ix_mD {m : Mach} {s : Nat} {r : List (Nat × Nat)} (h : m[s]? = some r) : ix (mD m) (.int (s : Nat)) = some (rwD r) := ix_tup (by rw [List.getElem?_map, h]; rfl)
theorem ix_rwD {r : List (Nat × Nat)} {l : Nat} {p : Nat × Nat} (h : r[l]? = some p) : ix (rwD r) (.int (l : Nat)) = some (stD p) := ix_tup (by rw [List.getElem?_map, h]; rfl)
def runA (m : Mach) : Nat → List Nat → List Nat
  | _, [] => []
  | s, l :: ls => (stp m s l).1 :: runA m (stp m s l).2 ls
def runG (m : Mach) : Nat → List Nat → Nat
  | s, [] => s
  | s, l :: ls => runG m (stp m s l).2 ls
theorem runG_snoc (m : Mach) : ∀ (ws : List Nat) (s l : Nat), runG m s (ws ++ [l]) = (stp m (runG m s ws) l).2
  | [], _, _ => rfl
  | x :: ws, s, l => runG_snoc m ws _ l
theorem runA_snoc (m : Mach) : ∀ (ws : List Nat) (s l : Nat), runA m s (ws ++ [l]) = runA m s ws ++ [(stp m (runG m s ws) l).1]
  | [], _, _ => rfl
  | x :: ws, s, l => by
    show (stp m s x).1 :: runA m _ (ws ++ [l]) = (stp m s x).1 :: (runA m _ ws ++ _)
    rw [runA_snoc m ws _ l]; rfl
theorem runA_length (m : Mach) : ∀ (ws : List Nat) (s : Nat), (runA m s ws).length = ws.length
  | [], _ => rfl
  | x :: ws, s => by
    show (runA m _ ws).length + 1 = ws.length + 1
    rw [runA_length m ws]
theorem runG_lt {L S : Nat} {m : Mach} (h : MOk L S m) : ∀ {ws : List Nat} {s : Nat}, s < m.length → (∀ l ∈ ws, l < L) → runG m s ws < m.length
  | [], _, hs, _ => hs
  | x :: ws, s, hs, hw => by
    obtain ⟨_, _, _, _, h4⟩ := h.step hs (hw x (by simp))
    show runG m (stp m s x).2 ws < _
    exact runG_lt h h4 fun l hl => hw l (by simp [hl])
theorem take_snoc {α : Type} {xs : List α} {i : Nat} (hi : i < xs.length) : xs.take (i + 1) = xs.take i ++ [xs[i]] := List.take_succ_eq_append_getElem hi
theorem take_all {α : Type} {p : α → Prop} {xs : List α} (h : ∀ x ∈ xs, p x) (i : Nat) : ∀ x ∈ xs.take i, p x := fun x hx => h x (List.mem_of_mem_take hx)
theorem sizeLine_big : 1000000 ≤ sizeLine := by decide
--@ letters_of
theorem sp_letters_of {n L S : Nat} {m : Mach} {w : Wd} (hn : 1 ≤ n) (h : MOk L S m) : gg n ix_letters_of [mD m] w = some (false, nD L, w) := by
  obtain ⟨n, rfl, hm⟩ := lvl hn
  refine gfn_ir en_letters_of (pure_ok rfl ?_)
  obtain ⟨r, e, _, hl⟩ := h.row (s := 0) h.pos
  refine ⟨_, ix_mD (s := 0) e, _, rfl, rfl, ?_, rfl⟩
  show D.int ((r.map stD).length : Nat) = _
  rw [List.length_map, hl]
--@ answers_of
theorem sp_answers_of {n L S s : Nat} {m : Mach} {ws : List Nat} {w : Wd} (hn : 1 ≤ n) (h : MOk L S m) (hs : s < m.length) (hw : ∀ l ∈ ws, l < L) (hl : ws.length ≤ 1000000) :
    gg n ix_answers_of [mD m, nD s, wD ws] w = some (false, wD (runA m s ws), w) := by
  obtain ⟨n, rfl, hm⟩ := lvl hn
  refine gfn_ir en_answers_of (pure_ok rfl ?_)
  refine ⟨_, rfl, for_rule (fun i t => ∃ y z, t = ⟨[some (false, mD m), some (false, nD (runG m s (ws.take i))), some (false, wD ws), some (true, .lst ((runA m s (ws.take i)).map nD)), y, z], w⟩) ⟨_, _, rfl⟩ (fun i d t hi hd hI => ?_) (fun t hI => ?_)⟩
  · obtain ⟨y, z, rfl⟩ := hI
    rw [List.length_map] at hi
    rw [List.getElem_map] at hd
    subst hd
    obtain ⟨r, e1, e2, _, _⟩ := h.step (runG_lt h hs (take_all hw i)) (hw ws[i] (List.getElem_mem hi))
    refine ⟨_, rfl, _, ix_mD e1, _, ix_rwD e2, _, rfl, ?_, ?_⟩
    · rw [List.length_map, runA_length, List.length_take]
      have := sizeLine_big
      omega
    rw [take_snoc hi, runG_snoc, runA_snoc, List.map_append]
    exact ⟨_, _, rfl⟩
  · obtain ⟨y, z, rfl⟩ := hI
    rw [List.length_map, List.take_length]
    exact ⟨_, rfl, rfl, rfl, rfl⟩
--@ goal_of
theorem sp_goal_of {n L S s : Nat} {m : Mach} {ws : List Nat} {w : Wd} (hn : 1 ≤ n) (h : MOk L S m) (hs : s < m.length) (hw : ∀ l ∈ ws, l < L) :
    gg n ix_goal_of [mD m, nD s, wD ws] w = some (false, nD (runG m s ws), w) := by
  obtain ⟨n, rfl, hm⟩ := lvl hn
  refine gfn_ir en_goal_of (pure_ok rfl ?_)
  refine ⟨_, rfl, for_rule (fun i t => ∃ y, t = ⟨[some (false, mD m), some (false, nD (runG m s (ws.take i))), some (false, wD ws), y], w⟩) ⟨_, rfl⟩ (fun i d t hi hd hI => ?_) (fun t hI => ?_)⟩
  · obtain ⟨y, rfl⟩ := hI
    rw [List.length_map] at hi
    rw [List.getElem_map] at hd
    subst hd
    obtain ⟨r, e1, e2, _, _⟩ := h.step (runG_lt h hs (take_all hw i)) (hw ws[i] (List.getElem_mem hi))
    refine ⟨_, rfl, _, ix_mD e1, _, ix_rwD e2, _, rfl, ?_⟩
    rw [take_snoc hi, runG_snoc]
    exact ⟨_, rfl⟩
  · obtain ⟨y, rfl⟩ := hI
    rw [List.length_map, List.take_length]
    exact ⟨rfl, rfl, rfl⟩
--@ trial
theorem sp_trial {n L S : Nat} {m : Mach} {ws : List Nat} {w : Wd} (hn : 2 ≤ n) (h : MOk L S m) (hw : ∀ l ∈ ws, l < L) (hl : ws.length ≤ 1000000) :
    gg n ix_trial [mD m, wD ws] w = some (false, wD (runA m 0 ws), w) := by
  obtain ⟨n, rfl, hm⟩ := lvl hn
  exact gfn_ir en_trial (pure_ok rfl ⟨_, _, _, sp_answers_of hm h h.pos hw hl, rfl, rfl, rfl⟩)
--@ _law_answers
theorem sp_law_answers {n L S s : Nat} {m : Mach} {ws : List Nat} {w : Wd} (hn : 1 ≤ n) (h : MOk L S m) (hs : s < m.length) (hw : ∀ l ∈ ws, l < L) (hl : ws.length ≤ 100000) :
    gg n ix_law_answers [mD m, nD s, wD ws] w = some (false, wD (runA m s ws), w) := by
  obtain ⟨n, rfl, hm⟩ := lvl hn
  refine gfn_ir en_law_answers (pure_ok rfl ?_)
  refine ⟨_, rfl, for_rule (fun i t => ∃ y z, t = ⟨[some (false, mD m), some (false, nD (runG m s (ws.take i))), some (false, wD ws), some (false, wD (runA m s (ws.take i))), y, z], w⟩) ⟨_, _, rfl⟩ (fun i d t hi hd hI => ?_) (fun t hI => ?_)⟩
  · obtain ⟨y, z, rfl⟩ := hI
    rw [List.length_map] at hi
    rw [List.getElem_map] at hd
    subst hd
    obtain ⟨r, e1, e2, _, _⟩ := h.step (runG_lt h hs (take_all hw i)) (hw ws[i] (List.getElem_mem hi))
    refine ⟨_, rfl, _, ix_mD e1, _, ix_rwD e2, _, rfl, _, if_pos ?_, ?_⟩
    · rw [List.length_map, runA_length, List.length_take]
      have := sizeLine_big
      show _ + 1 ≤ _
      omega
    rw [take_snoc hi, runG_snoc, runA_snoc]
    unfold wD
    rw [List.map_append]
    exact ⟨_, _, rfl⟩
  · obtain ⟨y, z, rfl⟩ := hI
    rw [List.length_map, List.take_length]
    exact ⟨rfl, rfl, rfl⟩
--@ _law_goal
theorem sp_law_goal {n L S s : Nat} {m : Mach} {ws : List Nat} {w : Wd} (hn : 1 ≤ n) (h : MOk L S m) (hs : s < m.length) (hw : ∀ l ∈ ws, l < L) :
    gg n ix_law_goal [mD m, nD s, wD ws] w = some (false, nD (runG m s ws), w) := by
  obtain ⟨n, rfl, hm⟩ := lvl hn
  refine gfn_ir en_law_goal (pure_ok rfl ?_)
  refine ⟨_, rfl, for_rule (fun i t => ∃ y, t = ⟨[some (false, mD m), some (false, nD (runG m s (ws.take i))), some (false, wD ws), y], w⟩) ⟨_, rfl⟩ (fun i d t hi hd hI => ?_) (fun t hI => ?_)⟩
  · obtain ⟨y, rfl⟩ := hI
    rw [List.length_map] at hi
    rw [List.getElem_map] at hd
    subst hd
    obtain ⟨r, e1, e2, _, _⟩ := h.step (runG_lt h hs (take_all hw i)) (hw ws[i] (List.getElem_mem hi))
    refine ⟨_, rfl, _, ix_mD e1, _, ix_rwD e2, _, rfl, ?_⟩
    rw [take_snoc hi, runG_snoc]
    exact ⟨_, rfl⟩
  · obtain ⟨y, rfl⟩ := hI
    rw [List.length_map, List.take_length]
    exact ⟨rfl, rfl, rfl⟩
end K
namespace K
open PySem PySem.Spec PyProof.Rows L2 Mp
/-! ### all words -/
def allW (L : Nat) : Nat → List (List Nat)
  | 0 => [[]]
  | k + 1 => (allW L k).flatMap fun ws => (List.range L).map fun l => ws ++ [l]
def lwD (wss : List (List Nat)) : D := .lst (wss.map wD)
theorem allW_length (L : Nat) : ∀ k, (allW L k).length = L ^ k
  | 0 => rfl
  | k + 1 => by
    show ((allW L k).flatMap _).length = _
    rw [List.length_flatMap]
    simp only [List.length_map, List.length_range]
    rw [List.map_const', List.sum_replicate_nat, allW_length L k, Nat.pow_succ]
theorem allW_len {L : Nat} : ∀ {k : Nat} {ws : List Nat}, ws ∈ allW L k → ws.length = k
  | 0, ws, h => by
    have h : ws ∈ [[]] := h
    simp at h
    rw [h]; rfl
  | k + 1, ws, h => by
    have h : ws ∈ (allW L k).flatMap fun ws => (List.range L).map fun l => ws ++ [l] := h
    simp only [List.mem_flatMap, List.mem_map, List.mem_range] at h
    obtain ⟨vs, h1, l, _, rfl⟩ := h
    rw [List.length_append, allW_len h1]; rfl
theorem pow_mono {L i k : Nat} (hL : 1 ≤ L) (h : i ≤ k) (hb : L ^ k ≤ 100000) : L ^ i ≤ 100000 := Nat.le_trans (Nat.pow_le_pow_right hL h) hb
--@ words_of
theorem sp_words_of {n L k : Nat} {w : Wd} (hn : 1 ≤ n) (hL : 1 ≤ L) (hL2 : L ≤ 100) (hk : k ≤ 1000) (hb : L ^ k ≤ 100000) :
    gg n ix_words_of [nD L, nD k] w = some (true, lwD (allW L k), w) := by
  obtain ⟨n, rfl, hm⟩ := lvl hn
  refine gfn_ir en_words_of (pure_ok rfl ?_)
  refine ⟨_, items_rng (by omega), for_rule (fun i t => ∃ y, t = ⟨[some (false, nD L), some (false, nD k), some (true, lwD (allW L i)), y, none, none], w⟩) ⟨_, rfl⟩ (fun i d t hi hd hI => ?_) (fun t hI => ?_)⟩
  · obtain ⟨y, rfl⟩ := hI
    rw [List.length_map, List.length_range] at hi
    rw [List.getElem_map, List.getElem_range] at hd
    subst hd
    refine ⟨_, rfl, rfl, _, rfl, lc2W_rule (fun j xs t => xs = (((allW L i).take j).flatMap fun ws => (List.range L).map fun l => ws ++ [l]).map wD ∧ ∃ y z, t = ⟨[some (false, nD L), some (false, nD k), some (false, lwD (allW L i)), some (false, nD i), y, z], w⟩) ⟨rfl, _, _, rfl⟩ (fun j d xs t hj hd hI => ?_) (fun xs t hI => ?_)⟩
    · obtain ⟨rfl, y, z, rfl⟩ := hI
      rw [List.length_map] at hj
      rw [List.getElem_map] at hd
      subst hd
      have hwl : ((allW L i)[j]).length = i := allW_len (List.getElem_mem hj)
      refine ⟨_, rfl, inn_ok ⟨_, items_rng (by omega), lc_rule (fun a ys t => ys = ((List.range a).map fun l => (allW L i)[j] ++ [l]).map wD ∧ ∃ z, t = ⟨[some (false, nD L), some (false, nD k), some (false, lwD (allW L i)), some (false, nD i), some (false, wD (allW L i)[j]), z], w⟩) ⟨rfl, _, rfl⟩ (fun a d ys t ha hd hI => ?_) (fun ys t hI => ?_)⟩⟩
      · obtain ⟨rfl, z, rfl⟩ := hI
        rw [List.length_map, List.length_range] at ha
        rw [List.getElem_map, List.getElem_range] at hd
        subst hd
        refine ⟨_, rfl, fun _ => ⟨_, if_pos ?_, _, rfl, ?_, _, rfl⟩, nofun⟩
        · rw [List.length_map, hwl]
          have := sizeLine_big
          show _ + 1 ≤ _
          omega
        · rw [List.range_succ, List.map_append, List.map_append]
          simp [wD]
      · obtain ⟨rfl, z, rfl⟩ := hI
        rw [List.length_map, List.length_range]
        refine ⟨?_, _, _, rfl⟩
        rw [take_snoc hj, List.flatMap_append, List.map_append]
        simp
    · obtain ⟨rfl, y, z, rfl⟩ := hI
      rw [show (List.map wD (allW L i)).length = _ from List.length_map .., List.take_length]
      have e : (allW L i).flatMap (fun ws => (List.range L).map fun l => ws ++ [l]) = allW L (i + 1) := rfl
      rw [e]
      refine ⟨?_, _, rfl⟩
      rw [List.length_map, allW_length]
      have := pow_mono hL (show i + 1 ≤ k by omega) hb
      have := sizeLine_big
      omega
  · obtain ⟨y, rfl⟩ := hI
    rw [List.length_map, List.length_range]
    exact ⟨rfl, rfl, rfl⟩
--@ _law_all_words
theorem sp_law_all_words {n L k : Nat} {w : Wd} (hn : 1 ≤ n) (hL : 1 ≤ L) (hL2 : L ≤ 100) (hk : k ≤ 1000) (hb : L ^ k ≤ 100000) :
    ∃ fl, gg n ix_law_all_words [nD L, nD k] w = some (fl, lwD (allW L k), w) := by
  obtain ⟨n, rfl, hm⟩ := lvl hn
  obtain ⟨fl, e⟩ : ∃ fl, runFn (gg n) FF f_law_all_words [nD L, nD k] w = some (fl, lwD (allW L k), w) := by
    refine pure_ex rfl ?_
    refine ⟨_, items_rng (by omega), for_rule (fun i t => ∃ b y z u v, t = ⟨[some (false, nD L), some (false, nD k), some (b, lwD (allW L i)), y, z, u, v], w⟩) ⟨_, _, _, _, _, rfl⟩ (fun i d t hi hd hI => ?_) (fun t hI => ?_)⟩
    · obtain ⟨b, y, z, u, v, rfl⟩ := hI
      rw [List.length_map, List.length_range] at hi
      rw [List.getElem_map, List.getElem_range] at hd
      subst hd
      refine ⟨_, rfl, ?_⟩
      cases b
      all_goals
        refine ⟨_, rfl, for_rule (fun j t => ∃ u v, t = ⟨[some (false, nD L), some (false, nD k), some (false, lwD (allW L i)), some (false, nD i), some (true, lwD (((allW L i).take j).flatMap fun ws => (List.range L).map fun l => ws ++ [l])), u, v], w⟩) ⟨_, _, rfl⟩ (fun j d t hj hd hI => ?_) (fun t hI => ?_)⟩
        · obtain ⟨u, v, rfl⟩ := hI
          rw [List.length_map] at hj
          rw [List.getElem_map] at hd
          subst hd
          have hwl : ((allW L i)[j]).length = i := allW_len (List.getElem_mem hj)
          refine ⟨_, rfl, _, items_rng (by omega), for_rule (fun a t => ∃ v, t = ⟨[some (false, nD L), some (false, nD k), some (false, lwD (allW L i)), some (false, nD i), some (true, lwD ((((allW L i).take j).flatMap fun ws => (List.range L).map fun l => ws ++ [l]) ++ (List.range a).map fun l => (allW L i)[j] ++ [l])), some (false, wD (allW L i)[j]), v], w⟩) ⟨v, ?_⟩ (fun a d t ha hd hI => ?_) (fun t hI => ?_)⟩
          · rw [List.range_zero, List.map_nil, List.append_nil]; rfl
          · obtain ⟨v, rfl⟩ := hI
            rw [List.length_map, List.length_range] at ha
            rw [List.getElem_map, List.getElem_range] at hd
            subst hd
            refine ⟨_, rfl, _, if_pos ?_, ?_, some (false, nD a), ?_⟩
            · rw [List.length_map, hwl]
              have := sizeLine_big
              show _ + 1 ≤ _
              omega
            · rw [List.length_map, List.length_append, List.length_map, List.length_range, List.length_flatMap]
              simp only [List.length_map, List.length_range]
              rw [List.map_const', List.sum_replicate_nat, List.length_take]
              have h1 := pow_mono hL (show i + 1 ≤ k by omega) hb
              rw [Nat.pow_succ] at h1
              have h2 : min j (allW L i).length * L ≤ (allW L i).length * L := Nat.mul_le_mul_right _ (Nat.min_le_right ..)
              rw [allW_length] at h2
              rw [allW_length]
              have := sizeLine_big
              omega
            · rw [List.range_succ]
              unfold lwD
              simp [wD]
              rfl
          · obtain ⟨v, rfl⟩ := hI
            rw [List.length_map, List.length_range, take_snoc hj, List.flatMap_append]
            rw [List.flatMap_singleton]
            exact ⟨_, _, rfl⟩
        · obtain ⟨u, v, rfl⟩ := hI
          rw [List.length_map, List.take_length]
          exact ⟨_, _, _, _, _, rfl⟩
    · obtain ⟨b, y, z, u, v, rfl⟩ := hI
      rw [List.length_map, List.length_range]
      exact ⟨rfl, rfl⟩
  exact ⟨fl, gfn_ir en_law_all_words e⟩
end K
namespace K
open PySem PySem.Spec PyProof.Rows L2 Mp
--@ _law_kind
theorem sp_law_kind {n b d : Nat} {v : D} {w : Wd} (hn : 1 ≤ n) (hv : Vd b d v) : gg n ix_law_kind [v] w = some (false, .int (knd v), w) := by
  obtain ⟨n, rfl, hm⟩ := lvl hn
  refine gfn_ir en_law_kind ?_
  cases v with
  | pool => cases d <;> exact hv.elim
  | dct => cases d <;> exact hv.elim
  | _ => rfl
theorem cmp_int_eq (i j : Int) : cmp .Eq (.int i) (.int j) = some (decide (i = j)) := rfl
theorem cmp_int_ne (i j : Int) : cmp .NotEq (.int i) (.int j) = some (!decide (i = j)) := rfl
theorem canL : ∀ {ds : List D}, PyData.canLayAll0 (toPyL ds) = true → ∀ x ∈ ds, (toPy x).canLay0 = true
  | [], _, _, h => nomatch h
  | d :: ds, hc, x, h => by
    have hc : ((toPy d).canLay0 && PyData.canLayAll0 (toPyL ds)) = true := hc
    rw [Bool.and_eq_true] at hc
    rcases List.mem_cons.mp h with rfl | h
    · exact hc.1
    · exact canL hc.2 x h
theorem canL_of : ∀ {ds : List D}, (∀ x ∈ ds, (toPy x).canLay0 = true) → PyData.canLayAll0 (toPyL ds) = true
  | [], _ => rfl
  | d :: ds, h => by
    show ((toPy d).canLay0 && PyData.canLayAll0 (toPyL ds)) = true
    rw [h d (by simp), canL_of fun x hx => h x (by simp [hx])]; rfl
theorem cmp_same {v : D} (h1 : ∀ xs, v ≠ .tup xs) (h2 : ∀ xs, v ≠ .lst xs) {b d : Nat} (hv : Vd b d v) (hc : (toPy v).canLay0 = true) : cmp .Eq v v = some true := by
  cases v with
  | pool => cases d <;> exact hv.elim
  | dct => cases d <;> exact hv.elim
  | tup xs => exact absurd rfl (h1 xs)
  | lst xs => exact absurd rfl (h2 xs)
  | non => rfl
  | bl c => cases c <;> rfl
  | int i => exact congrArg some (decide_eq_true rfl)
  | str x =>
    show (if _ then _ else none) = _
    rw [if_pos (show (shp (.str x) && shp (.str x)) = true from by rw [Bool.and_self]; show (PyData.canLay0 _ && _) = true; rw [hc]; rfl)]
    show some (PyData.eqv (.str x) (.str x)) = _
    simp [PyData.eqv]
--@ _law_equal
theorem knd_ne {b d : Nat} {v : D} (h : Vd b d v) : knd v ≠ 0 := by
  cases v with
  | pool => cases d <;> exact h.elim
  | dct => cases d <;> exact h.elim
  | _ => exact fun e => nomatch e
theorem law_equal_head {n b d : Nat} {v : D} {w : Wd} (hn : 1 ≤ n) (hv : Vd b d v) : Pu (gg n) (.or (.cmp .NotEq (.call ix_law_kind [(.v 0)]) (.call ix_law_kind [(.v 1)])) (.cmp .Eq (.call ix_law_kind [(.v 0)]) (.k (.int 0)))) ⟨[some (false, v), some (false, v), none], w⟩ (.val, .bl false) := fun Q q => by
  have e1 : cmp .NotEq (.int (knd v)) (.int (knd v)) = some false := by rw [cmp_int_ne, decide_eq_true rfl]; rfl
  have e2 : cmp .Eq (.int (knd v)) (.int 0) = some false := by rw [cmp_int_eq, decide_eq_false (knd_ne hv)]
  exact ⟨_, _, _, sp_law_kind hn hv, _, _, _, sp_law_kind hn hv, _, e1, nofun, fun _ => ⟨_, _, _, sp_law_kind hn hv, _, e2, q⟩⟩
theorem law_equal_loop {n : Nat} {xs : List D} {v : D} {w : Wd} {Q : Wf} (hi : ∀ i, i < xs.length → ix v (.int (i : Nat)) = some xs[i]! ∧ gg n ix_law_equal [xs[i]!, xs[i]!] w = some (false, .bl true, w)) (q : ∀ y, Q .nx ⟨[some (false, v), some (false, v), y], w⟩) :
    (forGo (bindT (.nm 2)) (fun s => evSs (gg n) FF [.ife (.nt (.call ix_law_equal [(.ix (.b 0) (.b 2)), (.ix (.b 1) (.b 2))])) [.ret (.k (.bl false))] []] s) ((List.range xs.length).map fun i => .int (i : Nat)) ⟨[some (false, v), some (false, v), none], w⟩).W Q := by
  refine for_rule (fun i t => ∃ y, t = ⟨[some (false, v), some (false, v), y], w⟩) ⟨_, rfl⟩ (fun i d t hi' hd hI => ?_) (fun t hI => ?_)
  · obtain ⟨y, rfl⟩ := hI
    rw [List.length_map, List.length_range] at hi'
    rw [List.getElem_map, List.getElem_range] at hd
    subst hd
    obtain ⟨h1, h2⟩ := hi i hi'
    exact ⟨_, rfl, _, h1, _, h1, _, _, _, h2, nofun, fun _ => ⟨_, rfl⟩⟩
  · obtain ⟨y, rfl⟩ := hI
    exact q y
theorem sp_law_equal {b : Nat} (hb : b < 2 ^ 60) : ∀ {d n : Nat} {v : D} {w : Wd}, d + 2 ≤ n → Vd b d v → (toPy v).canLay0 = true → gg n ix_law_equal [v, v] w = some (false, .bl true, w) := by
  intro d
  induction d with
  | zero =>
    intro n v w hn hv hc
    obtain ⟨n, rfl, hm⟩ := lvl hn
    refine gfn_ir en_law_equal (pure_ok rfl (ifs_pu (law_equal_head (by omega) hv) nofun fun _ => ?_))
    have h1 : ∀ xs, v ≠ .tup xs := fun xs e => by subst e; exact hv.elim
    have h2 : ∀ xs, v ≠ .lst xs := fun xs e => by subst e; exact hv.elim
    have e := cmp_same h1 h2 hv hc
    cases v with
    | pool => exact hv.elim
    | dct => exact hv.elim
    | tup xs => exact absurd rfl (h1 xs)
    | lst xs => exact absurd rfl (h2 xs)
    | _ => exact ⟨_, rfl, nofun, fun _ => ⟨_, rfl, nofun, fun _ => ⟨_, e, rfl, rfl, rfl⟩⟩⟩
  | succ d ih =>
    intro n v w hn hv hc
    obtain ⟨n, rfl, hm⟩ := lvl hn
    refine gfn_ir en_law_equal (pure_ok rfl (ifs_pu (law_equal_head (by omega) hv) nofun fun _ => ?_))
    cases v with
    | pool => exact hv.elim
    | dct => exact hv.elim
    | tup xs =>
      have el : cmp .NotEq (.int (xs.length : Nat)) (.int (xs.length : Nat)) = some false := by rw [cmp_int_ne, decide_eq_true rfl]; rfl
      refine ⟨_, rfl, fun _ => ⟨fun _ => ?_, nofun⟩, nofun⟩
      refine ⟨_, rfl, _, rfl, _, el, nofun, fun _ => ⟨_, rfl, _, items_rng (by have := hv.1; omega), law_equal_loop (fun i hi => ?_) fun y => ⟨rfl, rfl, rfl⟩⟩⟩
      have e : xs[i]! = xs[i] := by simp [hi]
      rw [e]
      exact ⟨ix_tup (List.getElem?_eq_getElem hi), ih (by omega) (hv.2 _ (List.getElem_mem hi)) (canL hc _ (List.getElem_mem hi))⟩
    | lst xs =>
      have el : cmp .NotEq (.int (xs.length : Nat)) (.int (xs.length : Nat)) = some false := by rw [cmp_int_ne, decide_eq_true rfl]; rfl
      refine ⟨_, rfl, nofun, fun _ => ⟨_, rfl, fun _ => ?_, nofun⟩⟩
      refine ⟨_, rfl, _, rfl, _, el, nofun, fun _ => ⟨_, rfl, _, items_rng (by have := hv.1; omega), law_equal_loop (fun i hi => ?_) fun y => ⟨rfl, rfl, rfl⟩⟩⟩
      have e : xs[i]! = xs[i] := by simp [hi]
      rw [e]
      exact ⟨ix_lst (List.getElem?_eq_getElem hi), ih (by omega) (hv.2 _ (List.getElem_mem hi)) (canL hc _ (List.getElem_mem hi))⟩
    | non => exact ⟨_, rfl, nofun, fun _ => ⟨_, rfl, nofun, fun _ => ⟨_, rfl, rfl, rfl, rfl⟩⟩⟩
    | bl c => exact ⟨_, rfl, nofun, fun _ => ⟨_, rfl, nofun, fun _ => ⟨_, cmp_same nofun nofun hv hc, rfl, rfl, rfl⟩⟩⟩
    | int c => exact ⟨_, rfl, nofun, fun _ => ⟨_, rfl, nofun, fun _ => ⟨_, cmp_same nofun nofun hv hc, rfl, rfl, rfl⟩⟩⟩
    | str c => exact ⟨_, rfl, nofun, fun _ => ⟨_, rfl, nofun, fun _ => ⟨_, cmp_same nofun nofun hv hc, rfl, rfl, rfl⟩⟩⟩
--@ _law_is
theorem sp_law_is {n : Nat} {c : Bool} {w : Wd} (hn : 1 ≤ n) : gg n ix_law_is [.bl c, .bl c] w = some (false, .bl true, w) := by
  obtain ⟨n, rfl, hm⟩ := lvl hn
  refine gfn_ir en_law_is ?_
  cases c <;> rfl
--@ _law_int
theorem sp_law_int {n b d : Nat} {v : D} {lo hi : Int} {w : Wd} (hn : 2 ≤ n) (hv : Vd b d v) : gg n ix_law_int [v, .int lo, .int hi] w = some (false, .bl (num v lo hi), w) := by
  obtain ⟨n, rfl, hm⟩ := lvl hn
  refine gfn_ir en_law_int (pure_ok rfl ?_)
  refine ⟨_, _, _, sp_law_kind hm hv, ?_⟩
  cases v with
  | int i => 
    refine ⟨_, rfl, fun _ => ?_, nofun⟩
    refine pu_chn (x := (.val, .int lo)) (y := (.val, .int i)) (z := (.val, .int hi)) ?_ ?_ ?_ rfl rfl _ ⟨rfl, rfl, rfl⟩ <;> exact fun Q q => q
  | _ => exact ⟨_, rfl, nofun, fun _ => ⟨rfl, rfl, rfl⟩⟩
end K
namespace K
open PySem PySem.Spec PyProof.Rows L2 Mp
def intsB (v : D) (lo hi : Int) : Bool := match v with
  | .tup ds => ds.all fun x => num x lo hi
  | _ => false
theorem all_false {α : Type} {p : α → Bool} {xs : List α} {x : α} (h : x ∈ xs) (e : p x = false) : xs.all p = false := by
  rw [List.all_eq_false]
  exact ⟨x, h, by rw [e]; simp⟩
theorem all_snoc {α : Type} {p : α → Bool} {xs : List α} {i : Nat} (hi : i < xs.length) (h : (xs.take i).all p = true) (e : p xs[i] = true) : (xs.take (i + 1)).all p = true := by
  rw [take_snoc hi, List.all_append, h, Bool.true_and, List.all_cons, List.all_nil, e]; rfl
theorem bi_all {ds : List D} {p : D → Bool} : bi .all [.lst ((ds.filterMap fun x => some (.bl (p x))))] = some (false, .bl (ds.all p)) := by
  show (asBools _).map _ = _
  rw [filterMap_some, asBools_map, Option.map_some, List.all_map]
  rfl
theorem vsz {b : Nat} {ds : List D} {f : D → D} (h : ds.length ≤ b) (hb : b ≤ sizeLine) : (ds.filterMap fun x => some (f x)).length ≤ sizeLine := by
  rw [filterMap_some, List.length_map]; omega
--@ is_word
theorem sp_is_word {n b d : Nat} {v : D} {L : Int} {w : Wd} (hn : 3 ≤ n) (hv : Vd b d v) (hb : b ≤ sizeLine) : gg n ix_is_word [.int L, v] w = some (false, .bl (intsB v 0 (L - 1)), w) := by
  obtain ⟨n, rfl, hm⟩ := lvl hn
  refine gfn_ir en_is_word (pure_ok rfl ?_)
  rcases tup_or (v := v) with ⟨ds, rfl⟩ | h
  case inr =>
    refine ⟨_, (h 0).2 b d hv, nofun, fun _ => ⟨rfl, ?_, rfl⟩⟩
    have e := (h 0).2 b d hv
    cases v <;> first | rfl | cases e
  obtain ⟨e, rfl, hl, hx⟩ := hv.tup
  refine ⟨_, rfl, fun _ => ?_, nofun⟩
  refine ⟨rfl, ds, rfl, lc_pure (fun x => some (.bl (num x 0 (L - 1)))) (fun i x hi hd => ?_) fun s' hs => ⟨vsz hl hb, _, bi_all, ?_⟩⟩
  · refine ⟨_, rfl, fun _ => ?_, nofun⟩
    exact ⟨_, rfl, _, _, _, sp_is_number hm (hx x (by rw [hd]; exact List.getElem_mem hi)), _, rfl, rfl, rfl⟩
  · rw [hs]
    exact ⟨rfl, rfl, rfl⟩
--@ _law_ints
theorem sp_law_ints {n b d : Nat} {v : D} {lo hi : Int} {w : Wd} (hn : 3 ≤ n) (hv : Vd b d v) : gg n ix_law_ints [v, .int lo, .int hi] w = some (false, .bl (intsB v lo hi), w) := by
  obtain ⟨n, rfl, hm⟩ := lvl hn
  refine gfn_ir en_law_ints (pure_ok rfl ?_)
  rcases tup_or (v := v) with ⟨ds, rfl⟩ | h
  case inr =>
    refine ⟨_, (h 0).2 b d hv, fun _ => ⟨rfl, ?_, rfl⟩, nofun⟩
    have e := (h 0).2 b d hv
    cases v <;> first | rfl | cases e
  obtain ⟨e, rfl, hl, hx⟩ := hv.tup
  refine ⟨_, rfl, nofun, fun _ => ?_⟩
  refine ⟨_, rfl, for_rule (fun i s => (ds.take i).all (fun x => num x lo hi) = true ∧ ∃ y, s = ⟨[some (false, .tup ds), some (false, .int lo), some (false, .int hi), y], w⟩) ⟨rfl, none, rfl⟩ (fun i r s hi' hr hI => ?_) (fun s hI => ?_)⟩
  · obtain ⟨hall, y, rfl⟩ := hI
    subst hr
    refine ⟨_, rfl, _, _, _, sp_law_int hm (hx _ (List.getElem_mem hi')), fun h => ⟨rfl, ?_, rfl⟩, fun h => ⟨all_snoc hi' hall (by simpa using h), _, rfl⟩⟩
    show D.bl false = D.bl (ds.all fun x => num x lo hi)
    rw [all_false (List.getElem_mem hi') (by simpa using h)]
  · obtain ⟨hall, y, rfl⟩ := hI
    rw [List.take_length] at hall
    refine ⟨rfl, ?_, rfl⟩
    show D.bl true = D.bl (ds.all fun x => num x lo hi)
    rw [hall]
--@ _law_is_word
theorem sp_law_is_word {n b d : Nat} {v : D} {L : Int} {w : Wd} (hn : 4 ≤ n) (hv : Vd b d v) : gg n ix_law_is_word [.int L, v] w = some (false, .bl (intsB v 0 (L - 1)), w) := by
  obtain ⟨n, rfl, hm⟩ := lvl hn
  exact gfn_ir en_law_is_word (pure_ok rfl ⟨_, rfl, _, _, _, sp_law_ints hm hv, rfl, rfl, rfl⟩)
--@ _law_is_machine
theorem isStep_two (a c : D) (k : Int) : isStep (.tup [a, c]) k = (num a 0 2 && num c 0 (k - 1)) := rfl
theorem sp_law_is_machine {n b d : Nat} {v : D} {w : Wd} (hn : 4 ≤ n) (hv : Vd b d v) (hb : b ≤ sizeLine) : gg n ix_law_is_machine [v] w = some (false, .bl (isM v), w) := by
  obtain ⟨n, rfl, hm⟩ := lvl hn
  refine gfn_ir en_law_is_machine (pure_ok rfl ?_)
  rcases tup_or (v := v) with ⟨ds, rfl⟩ | h
  case inr =>
    refine ⟨_, (h 0).2 b d hv, fun _ => ⟨fun _ => ⟨rfl, ?_, rfl⟩, nofun⟩, nofun⟩
    have e := (h 0).2 b d hv
    cases v <;> first | rfl | cases e
  obtain ⟨e, rfl, hl, hx⟩ := hv.tup
  have c1 : Pu (gg n) (.chn .LtE .LtE (.k (.int 1)) (.bi .len [(.b 0)]) (.k (.int 6))) ⟨[some (false, .tup ds), none, none], w⟩ (.val, .bl (btw ds.length 1 6)) := by
    rw [← btw_int]
    exact pu_chn (fun Q q => q) (fun Q q => ⟨_, rfl, q⟩) (fun Q q => q) rfl rfl
  cases hb1 : btw ds.length 1 6 with
  | false =>
    rw [hb1] at c1
    refine ifs_pu (k := true) (pu_or (k1 := false) (k2 := true) (pu_nt (k := true) fun Q q => ⟨_, rfl, q⟩) fun _ => pu_or (k1 := true) (k2 := false) (pu_nt c1) nofun) (fun _ => ⟨rfl, ?_, rfl⟩) nofun
    show D.bl false = D.bl (btw ds.length 1 6 && isM2 ds)
    rw [hb1]; rfl
  | true =>
  rw [hb1] at c1
  have eM : isM (.tup ds) = isM2 ds := by
    show (btw ds.length 1 6 && isM2 ds) = _
    rw [hb1]; rfl
  rw [eM]
  obtain ⟨r, rs, rfl⟩ : ∃ r rs, ds = r :: rs := by
    cases ds with
    | nil => cases hb1
    | cons r rs => exact ⟨r, rs, rfl⟩
  have hr := hx r (by simp)
  have i0 : ix (.tup (r :: rs)) (.int 0) = some r := ix_tup (i := 0) rfl
  rcases tup_or (v := r) with ⟨cs, rfl⟩ | h
  case inr =>
    refine ifs_pu (k := true) (pu_or (k1 := false) (k2 := true) (pu_nt (k := true) fun Q q => ⟨_, rfl, q⟩) fun _ => pu_or (k1 := false) (k2 := true) (pu_nt c1) fun _ => pu_or (k1 := true) (k2 := false) (pu_nt (k := false) fun Q q => ⟨_, i0, _, (h 0).2 _ _ hr, q⟩) nofun) (fun _ => ⟨rfl, ?_, rfl⟩) nofun
    have e := (h 0).2 _ _ hr
    cases r <;> first | rfl | cases e
  have c2 : Pu (gg n) (.chn .LtE .LtE (.k (.int 1)) (.bi .len [(.ix (.b 0) (.k (.int 0)))]) (.k (.int 3))) ⟨[some (false, .tup (.tup cs :: rs)), none, none], w⟩ (.val, .bl (btw cs.length 1 3)) := by
    rw [← btw_int]
    exact pu_chn (fun Q q => q) (fun Q q => ⟨_, i0, _, rfl, q⟩) (fun Q q => q) rfl rfl
  cases hb2 : btw cs.length 1 3 with
  | false =>
    rw [hb2] at c2
    refine ifs_pu (k := true) (pu_or (k1 := false) (k2 := true) (pu_nt (k := true) fun Q q => ⟨_, rfl, q⟩) fun _ => pu_or (k1 := false) (k2 := true) (pu_nt c1) fun _ => pu_or (k1 := false) (k2 := true) (pu_nt (k := true) fun Q q => ⟨_, i0, _, rfl, q⟩) fun _ => pu_nt c2) (fun _ => ⟨rfl, ?_, rfl⟩) nofun
    show D.bl false = D.bl (btw cs.length 1 3 && _)
    rw [hb2]; rfl
  | true =>
  rw [hb2] at c2
  refine ifs_pu (k := false) (pu_or (k1 := false) (k2 := false) (pu_nt (k := true) fun Q q => ⟨_, rfl, q⟩) fun _ => pu_or (k1 := false) (k2 := false) (pu_nt c1) fun _ => pu_or (k1 := false) (k2 := false) (pu_nt (k := true) fun Q q => ⟨_, i0, _, rfl, q⟩) fun _ => pu_nt c2) nofun fun _ => ?_
  have eM : isM2 (.tup cs :: rs) = (D.tup cs :: rs).all (isRow cs.length (D.tup cs :: rs).length) := by
    show (btw cs.length 1 3 && _) = _
    rw [hb2]; rfl
  rw [eM]
  clear c1 c2 eM
  generalize hds : D.tup cs :: rs = ds at *
  refine ⟨_, rfl, for_rule (fun i s => (ds.take i).all (isRow cs.length ds.length) = true ∧ ∃ y z, s = ⟨[some (false, .tup ds), y, z], w⟩) ⟨rfl, none, none, rfl⟩ (fun i r s hi hr hI => ?_) (fun s hI => ?_)⟩
  · obtain ⟨hall, y, z, rfl⟩ := hI
    subst hr
    have hr' := hx _ (List.getElem_mem hi)
    have neg : isRow cs.length ds.length ds[i] = false → D.bl false = D.bl (ds.all (isRow cs.length ds.length)) := fun h => by
      rw [all_false (List.getElem_mem hi) h]
    have pos := fun h => all_snoc hi hall (p := isRow cs.length ds.length) h
    generalize ds[i] = r at *
    rcases tup_or (v := r) with ⟨xs, rfl⟩ | h
    case inr =>
      refine ⟨_, rfl, _, (h 0).2 _ _ hr', fun _ => ⟨fun _ => ⟨rfl, neg ?_, rfl⟩, nofun⟩, nofun⟩
      simp only [isRow, (h _).1, Bool.false_and]
    obtain ⟨e', rfl, hl', hx'⟩ := hr'.tup
    refine ⟨_, rfl, _, rfl, nofun, fun _ => ⟨_, rfl, _, i0, _, rfl, _, rfl, fun h => ⟨rfl, neg ?_, rfl⟩, fun h => ?_⟩⟩
    · have h : (xs.length == cs.length) = false := by
        have h : (!decide ((xs.length : Int) = (cs.length : Int))) = true := h
        simp at h ⊢
        omega
      simp only [isRow, isTup]
      simp at h ⊢
      omega
    · have h : (!decide ((xs.length : Int) = (cs.length : Int))) = false := h
      have hT : isTup (.tup xs) cs.length = true := by simpa [isTup] using h
      have eR : isRow cs.length ds.length (.tup xs) = xs.all fun x => isStep x ds.length := by
        simp only [isRow, hT, Bool.true_and]
      refine ⟨_, rfl, for_rule (fun j s => (xs.take j).all (fun x => isStep x ds.length) = true ∧ ∃ z, s = ⟨[some (false, .tup ds), some (false, .tup xs), z], w⟩) ⟨rfl, z, rfl⟩ (fun j x s hj hd hI => ?_) (fun s hI => ?_)⟩
      · obtain ⟨hall2, z, rfl⟩ := hI
        subst hd
        have hs' := hx' _ (List.getElem_mem hj)
        have neg2 : isStep xs[j] ds.length = false → D.bl false = D.bl (ds.all (isRow cs.length ds.length)) := fun h => neg (by
          rw [eR]
          exact all_false (p := fun x => isStep x (ds.length : Nat)) (List.getElem_mem hj) h)
        have pos2 := fun h => all_snoc hj hall2 (p := fun x => isStep x (ds.length : Nat)) h
        generalize xs[j] = x at *
        rcases tup_or (v := x) with ⟨as, rfl⟩ | h
        case inr =>
          exact ⟨_, rfl, _, (h 0).2 _ _ hs', fun _ => ⟨fun _ => ⟨rfl, neg2 (isStep_not (h _).1), rfl⟩, nofun⟩, nofun⟩
        obtain ⟨e', rfl, hl', hx'⟩ := hs'.tup
        refine ⟨_, rfl, _, rfl, nofun, fun _ => ⟨_, rfl, _, rfl, fun h => ⟨fun _ => ⟨rfl, neg2 (isStep_not ?_), rfl⟩, nofun⟩, fun h => ?_⟩⟩
        · have h : (!decide ((as.length : Int) = 2)) = true := h
          show decide ((as.length : Int) = 2) = false
          simpa using h
        · have h : (!decide ((as.length : Int) = 2)) = false := h
          have h : isTup (.tup as) 2 = true := by
            show decide ((as.length : Int) = 2) = true
            simpa using h
          obtain ⟨a, c, e⟩ := isTup_two h
          cases e
          have ha := hx' a (by simp)
          have hc := hx' c (by simp)
          refine ⟨_, rfl, _, _, _, sp_law_int (by omega) ha, fun h => ⟨fun _ => ⟨rfl, neg2 ?_, rfl⟩, nofun⟩, fun h => ?_⟩
          · rw [isStep_two, show num a 0 2 = false by simpa using h]; rfl
          · have h1 : num a 0 2 = true := by simpa using h
            refine ⟨_, rfl, _, rfl, _, rfl, _, _, _, sp_law_int (by omega) hc, fun h => ⟨rfl, neg2 ?_, rfl⟩, fun h => ⟨pos2 ?_, _, rfl⟩⟩
            · rw [isStep_two, show num c 0 (_ - 1) = false by simpa using h, Bool.and_false]
            · rw [isStep_two, show num c 0 (_ - 1) = true by simpa using h, h1]; rfl
      · obtain ⟨hall2, z, rfl⟩ := hI
        rw [List.take_length] at hall2
        exact ⟨pos (by rw [eR]; exact hall2), _, _, rfl⟩
  · obtain ⟨hall, y, z, rfl⟩ := hI
    rw [List.take_length] at hall
    exact ⟨rfl, by rw [hall], rfl⟩
end K
namespace K
open PySem PySem.Spec PyProof.Rows L2 Mp
/-- a table: so many rows, so long, answers and goals below -/
structure Tb (N L A S : Nat) (m : Mach) : Prop where
  n : m.length = N
  len : ∀ r ∈ m, r.length = L
  ans : ∀ r ∈ m, ∀ p ∈ r, p.1 < A
  goal : ∀ r ∈ m, ∀ p ∈ r, p.2 < S
theorem Tb.nil {L A S : Nat} : Tb 0 L A S [] := ⟨rfl, nofun, nofun, nofun⟩
theorem Tb.snoc {N L A S : Nat} {m : Mach} (h : Tb N L A S m) {r : List (Nat × Nat)} (h1 : r.length = L) (h2 : ∀ p ∈ r, p.1 < A ∧ p.2 < S) : Tb (N + 1) L A S (m ++ [r]) := by
  refine ⟨by rw [List.length_append, h.n]; rfl, fun q hq => ?_, fun q hq p hp => ?_, fun q hq p hp => ?_⟩ <;> rcases List.mem_append.mp hq with hq | hq
  · exact h.len q hq
  · rw [List.mem_singleton.mp hq]; exact h1
  · exact h.ans q hq p hp
  · rw [List.mem_singleton.mp hq] at hp; exact (h2 p hp).1
  · exact h.goal q hq p hp
  · rw [List.mem_singleton.mp hq] at hp; exact (h2 p hp).2
theorem Tb.ok {N L A : Nat} {m : Mach} (h : Tb N L A N m) (hN : 1 ≤ N) (hL : 1 ≤ L) (hL3 : L ≤ 3) (hA : A ≤ 3) {S : Nat} (hS : N ≤ S) : MOk L S m :=
  ⟨by rw [h.n]; exact hN, by rw [h.n]; exact hS, hL, hL3, h.len, fun r hr p hp => by have := h.ans r hr p hp; omega, fun r hr p hp => by rw [h.n]; exact h.goal r hr p hp⟩
theorem mD_snoc (m : Mach) (r : List (Nat × Nat)) : D.tup (m.map rwD ++ [rwD r]) = mD (m ++ [r]) := by
  unfold mD
  rw [List.map_append]; rfl
theorem rwD_snoc (r : List (Nat × Nat)) (p : Nat × Nat) : D.tup (r.map stD ++ [stD p]) = rwD (r ++ [p]) := by
  unfold rwD
  rw [List.map_append]; rfl
theorem wD_snoc (r : List Nat) (p : Nat) : D.tup (r.map nD ++ [nD p]) = wD (r ++ [p]) := by
  unfold wD
  rw [List.map_append]; rfl
theorem add1 {xs : List D} {x : D} (h : xs.length ≤ 100000) : bin .Add (.tup xs) (.tup [x]) = some (false, .tup (xs ++ [x])) := if_pos (by
  have := sizeLine_big
  show _ + 1 ≤ _
  omega)
/-- one row of drawn steps -/
theorem all_app {α : Type} {P : α → Prop} {xs : List α} {x : α} (h : ∀ y ∈ xs, P y) (hx : P x) : ∀ y ∈ xs ++ [x], P y := fun y hy => by
  rcases List.mem_append.mp hy with hy | hy
  · exact h y hy
  · rw [List.mem_singleton.mp hy]; exact hx
--@ _law_table
theorem sp_law_table {n B L N A : Nat} {w : Wd} (hn : 2 ≤ n) (g : G B w) (hB : B < 2 ^ 50) (hL : L ≤ 3) (hN : 1 ≤ N) (hN6 : N ≤ 100) (hA : 1 ≤ A) :
    ∃ m w', gg n ix_law_table [.pool, nD L, nD N, nD A] w = some (false, mD m, w') ∧ Tb N L A N m ∧ G (B + 6 * N) w' := by
  obtain ⟨n, rfl, hm⟩ := lvl hn
  obtain ⟨fl, d, w', e, rfl, m, rfl, hT, hG⟩ := run_ok (gf := gg n) (F := FF) (f := f_law_table) (as := [.pool, nD L, nD N, nD A]) (w := w) (Q := fun fl d w' => fl = false ∧ ∃ m, d = mD m ∧ Tb N L A N m ∧ G (B + 6 * N) w') rfl (by
    refine ⟨_, items_rng (by omega), for_rule (fun i t => ∃ m y z u w', t = ⟨[some (false, .pool), some (false, nD L), some (false, nD N), some (false, nD A), some (false, mD m), y, z, u], w'⟩ ∧ Tb i L A N m ∧ G (B + 6 * i) w') ⟨[], _, _, _, _, rfl, .nil, g⟩ (fun i d t hi hd hI => ?_) (fun t hI => ?_)⟩
    · obtain ⟨m, y, z, u, w', rfl, hT, hG⟩ := hI
      rw [List.length_map, List.length_range] at hi
      rw [List.getElem_map, List.getElem_range] at hd
      subst hd
      refine ⟨_, rfl, _, items_rng (by omega), for_rule (fun j t => ∃ r u w', t = ⟨[some (false, .pool), some (false, nD L), some (false, nD N), some (false, nD A), some (false, mD m), some (false, nD i), some (false, rwD r), u], w'⟩ ∧ r.length = j ∧ (∀ p ∈ r, p.1 < A ∧ p.2 < N) ∧ G (B + 6 * i + 2 * j) w') ⟨[], _, _, rfl, rfl, nofun, hG⟩ (fun j d t hj hd hI => ?_) (fun t hI => ?_)⟩
      · obtain ⟨r, u, w1, rfl, hr, hp, hG⟩ := hI
        rw [List.length_map, List.length_range] at hj
        rw [List.getElem_map, List.getElem_range] at hd
        subst hd
        obtain ⟨a, w2, ha, g2, e2⟩ := sp_law_draw (n := n) (m := (A : Nat)) (by omega) hG (by omega) (by omega)
        obtain ⟨c, w3, hc, g3, e3⟩ := sp_law_draw (n := n) (m := (N : Nat)) (by omega) g2 (by omega) (by omega)
        refine ⟨_, rfl, _, _, _, e2, _, _, _, e3, _, add1 ?_, ?_⟩
        · rw [List.length_map]; omega
        refine ⟨r ++ [(a, c)], some (false, nD j), w3, ?_, by rw [List.length_append, hr]; rfl, all_app hp ⟨by show a < A; omega, by show c < N; omega⟩, g3.mono (by omega)⟩
        rw [← rwD_snoc]; rfl
      · obtain ⟨r, u, w1, rfl, hr, hp, hG⟩ := hI
        rw [List.length_map, List.length_range] at hr hG
        refine ⟨_, add1 ?_, m ++ [r], some (false, nD i), some (false, rwD r), u, w1, ?_, hT.snoc hr hp, hG.mono (by omega)⟩
        · rw [List.length_map, hT.n]; omega
        · rw [← mD_snoc]; rfl
    · obtain ⟨m, y, z, u, w', rfl, hT, hG⟩ := hI
      rw [List.length_map, List.length_range] at hT hG
      exact ⟨rfl, m, rfl, hT, hG⟩)
  exact ⟨m, w', gfn_ir en_law_table e, hT, hG⟩
--@ _law_word
theorem sp_law_word {n B L k : Nat} {w : Wd} (hn : 2 ≤ n) (g : G B w) (hB : B < 2 ^ 50) (hL : 1 ≤ L) (hk : k ≤ 1000) :
    ∃ ws w', gg n ix_law_word [.pool, nD L, nD k] w = some (false, wD ws, w') ∧ ws.length ≤ k ∧ (∀ l ∈ ws, l < L) ∧ G (B + 1 + k) w' := by
  obtain ⟨n, rfl, hm⟩ := lvl hn
  obtain ⟨fl, d, w', e, rfl, ws, rfl, h1, h2, hG⟩ := run_ok (gf := gg n) (F := FF) (f := f_law_word) (as := [.pool, nD L, nD k]) (w := w) (Q := fun fl d w' => fl = false ∧ ∃ ws, d = wD ws ∧ ws.length ≤ k ∧ (∀ l ∈ ws, l < L) ∧ G (B + 1 + k) w') rfl (by
    obtain ⟨c, w1, hc, g1, e1⟩ := sp_law_draw (n := n) (m := (k : Nat) + 1) (by omega) g (by omega) (by omega)
    refine ⟨_, rfl, _, _, _, e1, _, items_rng (by omega), for_rule (fun i t => ∃ ws y w', t = ⟨[some (false, .pool), some (false, nD L), some (false, nD k), some (false, wD ws), y], w'⟩ ∧ ws.length = i ∧ (∀ l ∈ ws, l < L) ∧ G (B + 1 + i) w') ⟨[], _, _, rfl, rfl, nofun, g1⟩ (fun i d t hi hd hI => ?_) (fun t hI => ?_)⟩
    · obtain ⟨ws, y, w2, rfl, hl, hp, hG⟩ := hI
      rw [List.length_map, List.length_range] at hi
      obtain ⟨a, w3, ha, g3, e3⟩ := sp_law_draw (n := n) (m := (L : Nat)) (by omega) hG (by omega) (by omega)
      refine ⟨_, rfl, _, _, _, e3, _, add1 ?_, ws ++ [a], some (false, d), w3, ?_, by rw [List.length_append, hl]; rfl, all_app hp (by omega), g3.mono (by omega)⟩
      · rw [List.length_map]; omega
      · rw [← wD_snoc]; rfl
    · obtain ⟨ws, y, w2, rfl, hl, hp, hG⟩ := hI
      rw [List.length_map, List.length_range] at hl hG
      exact ⟨rfl, ws, rfl, by omega, hp, hG.mono (by omega)⟩)
  exact ⟨ws, w', gfn_ir en_law_word e, h1, h2, hG⟩
end K
namespace K
open PySem PySem.Spec PyProof.Rows L2 Mp
theorem Tb.step {N L A S : Nat} {m : Mach} (h : Tb N L A S m) {s l : Nat} (hs : s < N) (hl : l < L) : ∃ r, m[s]? = some r ∧ r[l]? = some (stp m s l) ∧ (stp m s l).1 < A ∧ (stp m s l).2 < S := by
  have hs' : s < m.length := by rw [h.n]; exact hs
  have hr := List.getElem_mem hs'
  have hl' : l < (m[s]).length := by rw [h.len _ hr]; exact hl
  have e2 : stp m s l = (m[s])[l] := by
    unfold stp
    rw [List.getElem?_eq_getElem hs', Option.getD_some, List.getElem?_eq_getElem hl', Option.getD_some]
  refine ⟨m[s], List.getElem?_eq_getElem hs', by rw [e2, List.getElem?_eq_getElem hl'], ?_, ?_⟩
  · rw [e2]; exact h.ans _ hr _ (List.getElem_mem hl')
  · rw [e2]; exact h.goal _ hr _ (List.getElem_mem hl')
def gridOf (N L : Nat) (f : Nat → Nat → Nat × Nat) : Mach := (List.range N).map fun s => (List.range L).map fun l => f s l
theorem gridOf_tb {N L A S : Nat} {f : Nat → Nat → Nat × Nat} (h : ∀ s l, s < N → l < L → (f s l).1 < A ∧ (f s l).2 < S) : Tb N L A S (gridOf N L f) := by
  refine ⟨by simp [gridOf], fun r hr => ?_, fun r hr p hp => ?_, fun r hr p hp => ?_⟩ <;> unfold gridOf at hr <;> simp only [List.mem_map, List.mem_range] at hr <;> obtain ⟨s, hs, rfl⟩ := hr
  · simp
  · simp only [List.mem_map, List.mem_range] at hp
    obtain ⟨l, hl, rfl⟩ := hp
    exact (h s l hs hl).1
  · simp only [List.mem_map, List.mem_range] at hp
    obtain ⟨l, hl, rfl⟩ := hp
    exact (h s l hs hl).2
/-- a comprehension over a range that draws nothing -/
theorem lc_range {gf : Gf} {bt : D → Sta → Option Sta} {elt : Ex} {vs : List Nat} {N : Nat} {s : Sta} {Q : List D → Sta → Prop} (f : Nat → D)
    (step : ∀ i, i < N → ∃ s', bt (nD i) (wipeS vs s) = some s' ∧ wE gf elt s' fun x s2 => ∃ y, toD x = some y ∧ f i = y ∧ wipeS vs s2 = wipeS vs s)
    (fin : ∀ s', backS vs s s' = s → Q ((List.range N).map f) s') : (lcGo bt (fun s => evI gf none s) (fun s => (evE gf elt s).bind fun x s => R.opt s (toD x)) (wipeS vs) ((List.range N).map nD) s).W Q := by
  refine lc_pure (fun d => match d with
    | .int i => some (f i.toNat)
    | _ => none) (fun i d hi hd => ?_) fun s' hs => ?_
  · rw [List.length_map, List.length_range] at hi
    rw [List.getElem_map, List.getElem_range] at hd
    subst hd
    obtain ⟨s', e, h⟩ := step i hi
    refine ⟨s', e, fun _ => ?_, nofun⟩
    have : (some (f ((i : Nat) : Int).toNat) : Option D) = some (f i) := by rw [Int.toNat_natCast]
    show wE gf elt s' fun x s2 => ∃ y, toD x = some y ∧ some (f ((i : Nat) : Int).toNat) = some y ∧ wipeS vs s2 = wipeS vs s
    rw [this]
    have ee : (fun x s2 => ∃ y, toD x = some y ∧ some (f i) = some y ∧ wipeS vs s2 = wipeS vs s) = (fun (x : Kd × D) (s2 : Sta) => ∃ y, toD x = some y ∧ f i = y ∧ wipeS vs s2 = wipeS vs s) := by
      funext x s2
      simp only [Option.some.injEq]
    rw [ee]
    exact h
  · have e : ((List.range N).map nD).filterMap (fun d => match d with
      | .int i => some (f i.toNat)
      | _ => none) = (List.range N).map f := by
      rw [List.filterMap_map]
      have : ((fun d => match d with
      | .int i => some (f i.toNat)
      | _ => none) ∘ nD) = fun i => some (f i) := by
        funext i
        show some (f ((i : Nat) : Int).toNat) = _
        rw [Int.toNat_natCast]
      rw [this, filterMap_some]
    rw [e]
    exact fin s' hs
theorem grid {gf : Gf} {w : Wd} {a0 a2 a3 a5 a6 a7 : Option (Bool × D)} {L N : Nat} {elt : Ex} (f : Nat → Nat → Nat × Nat) (hL : L ≤ 1000) (hN : N ≤ 1000)
    (h : ∀ s l, s < N → l < L → Pu gf elt ⟨[a0, some (false, nD L), a2, a3, some (false, nD N), a5, a6, a7, some (false, nD l), some (false, nD s)], w⟩ (.val, stD (f s l))) :
    Pu gf (.bi .tuple [.lc (.bi .tuple [.lc elt (.nm 8) .rng1 [.b 1] none [("letter", 8)]]) (.nm 9) .rng1 [.b 4] none [("state", 9)]]) ⟨[a0, some (false, nD L), a2, a3, some (false, nD N), a5, a6, a7, none, none], w⟩ (.val, mD (gridOf N L f)) := by
  intro Q q
  have big := sizeLine_big
  refine ⟨rfl, _, items_rng (by omega), lc_range (fun s => rwD ((List.range L).map fun l => f s l)) (fun s hs => ?_) fun s' hs' => ?_⟩
  · refine ⟨_, rfl, rfl, _, items_rng (by omega), lc_range (fun l => stD (f s l)) (fun l hl => ?_) fun s' hs' => ?_⟩
    · exact ⟨_, rfl, h s l hs hl _ ⟨_, rfl, rfl, rfl⟩⟩
    · refine ⟨by rw [List.length_map, List.length_range]; omega, _, rfl, ?_⟩
      rw [hs']
      refine ⟨_, rfl, ?_, rfl⟩
      unfold rwD
      rw [List.map_map]; rfl
  · refine ⟨by rw [List.length_map, List.length_range]; omega, _, rfl, ?_⟩
    rw [hs']
    have e : mD (gridOf N L f) = .tup ((List.range N).map fun s => rwD ((List.range L).map fun l => f s l)) := by
      unfold mD gridOf
      rw [List.map_map]; rfl
    rw [e] at q
    exact q
theorem ix_m {m : Mach} {N L A S s : Nat} (h : Tb N L A S m) (hs : s < N) : ∃ r, ix (mD m) (.int (s : Nat)) = some (rwD r) ∧ ∀ l, l < L → ix (rwD r) (.int (l : Nat)) = some (stD (stp m s l)) := by
  have hs' : s < m.length := by rw [h.n]; exact hs
  refine ⟨m[s], ix_mD (List.getElem?_eq_getElem hs'), fun l hl => ?_⟩
  obtain ⟨r, e1, e2, _⟩ := h.step hs hl
  rw [List.getElem?_eq_getElem hs'] at e1
  cases e1
  exact ix_rwD e2
theorem bin_mod {i j : Nat} (h : 0 < j) : bin .Mod (.int (i : Nat)) (.int (j : Nat)) = some (false, nD (i % j)) := if_pos (by omega)
theorem bin_fdiv {i j : Int} (h : 0 < j) (h2 : j < 1073741824) : bin .FloorDiv (.int i) (.int j) = some (false, .int (i / j)) := if_pos ⟨h, h2⟩
theorem ite_dec {c : Bool} {A B : Prop} (h1 : c = true → A) (h2 : c = false → B) : (c = true → A) ∧ (c = false → B) := ⟨h1, h2⟩
--@ _law_doubled
theorem sp_law_doubled {n B L N : Nat} {w : Wd} (hn : 3 ≤ n) (g : G B w) (hB : B < 2 ^ 50) (hL : L ≤ 3) (hN : 1 ≤ N) (hN6 : N ≤ 100) :
    ∃ m w', gg n ix_law_doubled [.pool, nD L, nD N] w = some (false, mD m, w') ∧ Tb N L 2 N m ∧ G (B + 12 * N) w' := by
  obtain ⟨n, rfl, hm⟩ := lvl hn
  obtain ⟨H, hH, h1, h2⟩ : ∃ H : Nat, (if ((N : Nat) : Int) / 2 > 1 then ((N : Nat) : Int) / 2 else 1) = (H : Int) ∧ 1 ≤ H ∧ H ≤ N := by
    refine ⟨if N / 2 > 1 then N / 2 else 1, ?_, ?_, ?_⟩ <;> (repeat' split) <;> omega
  have eH : bi .max2 [.int 1, .int (((N : Nat) : Int) / 2)] = some (false, nD H) := by
    show some (false, D.int (if ((N : Nat) : Int) / 2 > 1 then ((N : Nat) : Int) / 2 else 1)) = _
    rw [hH]
  obtain ⟨base, w1, e1, hT0, g1⟩ := sp_law_table (n := n) (A := 2) hm g hB hL h1 (by omega) (by omega)
  obtain ⟨fl, d, w', e, rfl, m, rfl, hT, hG⟩ := run_ok (gf := gg n) (F := FF) (f := f_law_doubled) (as := [.pool, nD L, nD N]) (w := w) (Q := fun fl d w' => fl = false ∧ ∃ m, d = mD m ∧ Tb N L 2 N m ∧ G (B + 12 * N) w') rfl (by
    refine ⟨_, bin_fdiv (by decide) (by decide), _, eH, _, _, _, e1, _, items_rng (by omega), for_rule (fun i t => ∃ m y z u v x w', t = ⟨[some (false, .pool), some (false, nD L), some (false, nD N), some (false, nD H), some (false, mD base), some (false, mD m), y, z, u, v, x], w'⟩ ∧ Tb i L 2 N m ∧ G (B + 6 * N + 6 * i) w') ⟨[], _, _, _, _, _, _, rfl, .nil, g1.mono (by omega)⟩ (fun i d t hi hd hI => ?_) (fun t hI => ?_)⟩
    · obtain ⟨m, y, z, u, v, x, w', rfl, hT, hG⟩ := hI
      rw [List.length_map, List.length_range] at hi
      rw [List.getElem_map, List.getElem_range] at hd
      subst hd
      have hlt : i % H < H := Nat.mod_lt _ (by omega)
      obtain ⟨r, hr1, hr2⟩ : ∃ r, base[i % H]? = some r ∧ r ∈ base := ⟨base[i % H]'(by rw [hT0.n]; exact hlt), List.getElem?_eq_getElem _, List.getElem_mem _⟩
      refine ⟨_, rfl, _, rfl, _, bin_mod (by omega), _, ix_mD hr1, _, rfl, for_rule (fun j t => ∃ q u v x w', t = ⟨[some (false, .pool), some (false, nD L), some (false, nD N), some (false, nD H), some (false, mD base), some (false, mD m), some (false, nD i), some (false, rwD q), u, v, x], w'⟩ ∧ q.length = j ∧ (∀ p ∈ q, p.1 < 2 ∧ p.2 < N) ∧ G (B + 6 * N + 6 * i + j) w') ⟨[], _, _, _, _, rfl, rfl, nofun, hG⟩ (fun j d t hj hd hI => ?_) (fun t hI => ?_)⟩
      · obtain ⟨q, u, v, x, w1, rfl, hq, hp, hG⟩ := hI
        rw [List.length_map] at hj
        rw [List.getElem_map] at hd
        subst hd
        have hmem := List.getElem_mem hj
        have ha := hT0.ans r hr2 _ hmem
        have hg := hT0.goal r hr2 _ hmem
        have hrl := hT0.len r hr2
        generalize r[j] = p at *
        obtain ⟨a, c⟩ := p
        have ad : ∀ c', D.tup (q.map stD ++ [.tup [nD a, nD c']]) = rwD (q ++ [(a, c')]) := fun c' => by rw [← rwD_snoc]; rfl
        have hql : (q.map stD).length ≤ 100000 := by rw [List.length_map]; omega
        refine ⟨_, rfl, _, rfl, _, rfl, fun hc => ?_, fun hc => ⟨nofun, fun _ => ⟨_, add1 hql, q ++ [(a, c)], _, _, _, w1, by rw [← ad]; rfl, by rw [List.length_append, hq]; rfl, all_app hp ⟨ha, by show c < N; omega⟩, hG.mono (by omega)⟩⟩⟩
        have hc : ((c : Nat) : Int) + (H : Nat) < (N : Nat) := of_decide_eq_true hc
        obtain ⟨k, w2, hk, g2, e2⟩ := sp_law_draw (n := n) (m := 2) (by omega) hG (by omega) (by omega)
        refine ⟨_, _, _, e2, _, cmp_int_eq _ _, fun _ => ⟨_, rfl, _, add1 hql, q ++ [(a, c + H)], some (false, nD a), some (false, nD c), some (false, nD (c + H)), w2, ?_, by rw [List.length_append, hq]; rfl, all_app hp ⟨ha, by show c + H < N; omega⟩, g2.mono (by omega)⟩, fun _ => ⟨_, add1 hql, q ++ [(a, c)], _, _, _, w2, by rw [← ad]; rfl, by rw [List.length_append, hq]; rfl, all_app hp ⟨ha, by show c < N; omega⟩, g2.mono (by omega)⟩⟩
        rw [← ad]; rfl
      · obtain ⟨q, u, v, x, w1, rfl, hq, hp, hG⟩ := hI
        rw [List.length_map, hT0.len r hr2] at hq hG
        refine ⟨_, add1 ?_, m ++ [q], some (false, nD i), some (false, rwD q), u, v, x, w1, ?_, hT.snoc hq hp, hG.mono (by omega)⟩
        · rw [List.length_map, hT.n]; omega
        · rw [← mD_snoc]; rfl
    · obtain ⟨m, y, z, u, v, x, w', rfl, hT, hG⟩ := hI
      rw [List.length_map, List.length_range] at hT hG
      exact ⟨rfl, m, rfl, hT, hG.mono (by omega)⟩)
  exact ⟨m, w', gfn_ir en_law_doubled e, hT, hG⟩
end K
namespace K
open PySem PySem.Spec PyProof.Rows L2 Mp
--@ _law_machine
theorem grid_asg {gf : Gf} {F : Nat} {w : Wd} {a0 a2 a3 a5 a6 a7 : Option (Bool × D)} {L N : Nat} {elt : Ex} {Q : Wf} (f : Nat → Nat → Nat × Nat) (hL : L ≤ 1000) (hN : N ≤ 1000)
    (h : ∀ s l, s < N → l < L → Pu gf elt ⟨[a0, some (false, nD L), a2, a3, some (false, nD N), a5, a6, a7, some (false, nD l), some (false, nD s)], w⟩ (.val, stD (f s l)))
    (q : Q .nx ⟨[a0, some (false, nD L), a2, a3, some (false, nD N), some (false, mD (gridOf N L f)), a6, a7, none, none], w⟩) :
    wSs gf F [.asg (.nm 5) (.bi .tuple [.lc (.bi .tuple [.lc elt (.nm 8) .rng1 [.b 1] none [("letter", 8)]]) (.nm 9) .rng1 [.b 4] none [("state", 9)]])] ⟨[a0, some (false, nD L), a2, a3, some (false, nD N), a5, a6, a7, none, none], w⟩ Q :=
  asg_pu (grid (a0 := a0) (a2 := a2) (a3 := a3) (a5 := a5) (a6 := a6) (a7 := a7) f hL hN h) q
def Jm (L S N wy B : Nat) (t : Sta) : Prop := ∃ m y z w', t = ⟨[some (false, .pool), some (false, nD L), some (false, nD S), some (false, nD wy), some (false, nD N), some (false, mD m), y, z, none, none], w'⟩ ∧ Tb N L 3 N m ∧ G B w'
theorem toNat_lt {a : Nat} {i : Int} (h : i = (a : Int)) : D.int i = nD a := by rw [h]
/-- a list of drawn numbers -/
theorem lc_draws {n B L N c : Nat} {w : Wd} {Q : List D → Sta → Prop} (hn : 1 ≤ n) (g : G B w) (hB : B + L < 2 ^ 51) (hN : 1 ≤ N) (s0 : Option (Bool × D) → Wd → Sta)
    (hwp : ∀ y w, wipeS [c] (s0 y w) = s0 none w) (hbt : ∀ d w, bindT (.nm c) d (s0 none w) = some (s0 (some (false, d)) w))
    (hcall : ∀ y w (Q : Wx), (∃ fl d w', gg n ix_law_draw [.pool, nD N] w = some (fl, d, w') ∧ Q (kd fl, d) (s0 y w')) → wE (gg n) (.call ix_law_draw [(.v 0), (.v 4)]) (s0 y w) Q)
    (fin : ∀ (ks : List Nat) y w', ks.length = L → (∀ k ∈ ks, k < N) → G (B + L) w' → Q (ks.map nD) (s0 y w')) :
    (lcGo (bindT (.nm c)) (fun s => evI (gg n) none s) (fun s => (evE (gg n) (.call ix_law_draw [(.v 0), (.v 4)]) s).bind fun x s => R.opt s (toD x)) (wipeS [c]) ((List.range L).map nD) (s0 none w)).W Q := by
  refine lc_rule (fun i xs t => ∃ (ks : List Nat) (y : Option (Bool × D)) (w' : Wd), xs = ks.map nD ∧ ks.length = i ∧ (∀ k ∈ ks, k < N) ∧ G (B + i) w' ∧ t = s0 y w') ⟨[], none, w, rfl, rfl, nofun, g, rfl⟩ (fun i d xs t hi hd hI => ?_) (fun xs t hI => ?_)
  · obtain ⟨ks, y, w', rfl, hl, hp, hG, rfl⟩ := hI
    rw [List.length_map, List.length_range] at hi
    rw [hwp]
    refine ⟨_, hbt d w', fun _ => ?_, nofun⟩
    obtain ⟨a, w3, ha, g3, e3⟩ := sp_law_draw (n := n) (m := (N : Nat)) (by omega) hG (by omega) (by omega)
    refine hcall _ _ _ ⟨_, _, _, e3, _, rfl, ks ++ [a], _, w3, ?_, by rw [List.length_append, hl]; rfl, all_app hp (by omega), g3.mono (by omega), rfl⟩
    rw [List.map_append]; rfl
  · obtain ⟨ks, y, w', rfl, hl, hp, hG, rfl⟩ := hI
    rw [List.length_map, List.length_range] at hl hG
    exact fin ks y w' hl hp hG
theorem ix_ks {ks : List Nat} {l : Nat} (h : l < ks.length) : ix (.lst (ks.map nD)) (.int (l : Nat)) = some (nD (ks[l]!)) := ix_lst (by
  rw [List.getElem?_map, List.getElem?_eq_getElem h]
  simp [h])
theorem bang_mem {ks : List Nat} {l : Nat} (h : l < ks.length) : ks[l]! ∈ ks := by
  have : ks[l]! = ks[l] := by simp [h]
  rw [this]
  exact List.getElem_mem h
theorem sp_law_machine {n B L S : Nat} {w : Wd} (hn : 4 ≤ n) (g : G B w) (hB : B < 2 ^ 49) (hL1 : 1 ≤ L) (hL : L ≤ 3) (hS : 1 ≤ S) (hS6 : S ≤ 100) :
    ∃ N m w', gg n ix_law_machine [.pool, nD L, nD S] w = some (false, mD m, w') ∧ 1 ≤ N ∧ N ≤ S ∧ Tb N L 3 N m ∧ G (B + 2000) w' := by
  obtain ⟨n, rfl, hm⟩ := lvl hn
  obtain ⟨fl, d, w', e, rfl, N, m, rfl, h1, h2, hT, hG⟩ := run_ok (gf := gg n) (F := FF) (f := f_law_machine) (as := [.pool, nD L, nD S]) (w := w) (Q := fun fl d w' => fl = false ∧ ∃ N m, d = mD m ∧ 1 ≤ N ∧ N ≤ S ∧ Tb N L 3 N m ∧ G (B + 2000) w') rfl (by
    obtain ⟨wy, w1, hwy, g1, e1⟩ := sp_law_draw (n := n) (m := 9) (by omega) g (by omega) (by omega)
    obtain ⟨k2, w2, hk2, g2, e2⟩ := sp_law_draw (n := n) (m := (S : Nat)) (by omega) g1 (by omega) (by omega)
    obtain ⟨k3, w3, hk3, g3, e3⟩ := sp_law_draw (n := n) (m := 3) (by omega) g2 (by omega) (by omega)
    have tail : ∀ N, 1 ≤ N → N ≤ S → wSs (gg n) FF (f_law_machine.body.drop 3) ⟨[some (false, .pool), some (false, nD L), some (false, nD S), some (false, nD wy), some (false, nD N), none, none, none, none, none], w3⟩ (fun x s => match x with
        | .rt fl d => fl = false ∧ ∃ N m, d = mD m ∧ 1 ≤ N ∧ N ≤ S ∧ Tb N L 3 N m ∧ G (B + 2000) s.w
        | .nx => false = false ∧ ∃ N m, D.non = mD m ∧ 1 ≤ N ∧ N ≤ S ∧ Tb N L 3 N m ∧ G (B + 2000) s.w
        | _ => False) := by
      intro N hN1 hNS
      obtain ⟨k4, w4, hk4, g4, e4⟩ := sp_law_draw (n := n) (m := 3) (by omega) g3 (by omega) (by omega)
      obtain ⟨m, w5, e5, hT, g5⟩ := sp_law_table (n := n) (A := 1 + k4) (by omega) g4 (by omega) hL hN1 (by omega) (by omega)
      have hT : Tb N L 3 N m := ⟨hT.n, hT.len, fun r hr p hp => by have := hT.ans r hr p hp; omega, hT.goal⟩
      have a4 : D.int (1 + (k4 : Int)) = nD (1 + k4) := rfl
      refine wSs_first (Jm L S N wy (B + 4 + 6 * N)) ⟨_, _, _, e4, _, rfl, _, _, _, e5, rfl, m, none, none, w5, rfl, hT, g5.mono (by omega)⟩ fun t h => ?_
      -- way 0
      refine wSs_first (Jm L S N wy (B + 4 + 6 * N + L)) (ife_pu (k := decide ((wy : Int) = 0)) ?_ (fun _ => ?_) fun _ => ?_) (fun t h => ?_)
      · obtain ⟨m, y, z, w', rfl, hT, hG⟩ := h
        exact pu_cmp (x := (.val, nD wy)) (y := (.val, .int 0)) (fun Q q => q) (fun Q q => q) rfl
      · obtain ⟨m, y, z, w', rfl, hT, hG⟩ := h
        refine ⟨rfl, _, items_rng (by omega), lc_draws (c := 8) (N := N) (by omega) hG (by omega) hN1 (fun u w => ⟨[some (false, .pool), some (false, nD L), some (false, nD S), some (false, nD wy), some (false, nD N), some (false, mD m), y, z, u, none], w⟩) (fun _ _ => rfl) (fun _ _ => rfl) (fun _ _ _ h => h) fun ks u w2 hl hp hG => ⟨?_, ?_⟩⟩
        · have := sizeLine_big
          rw [List.length_map]; omega
        refine grid_asg (gf := gg n) (F := FF) (w := w2) (L := L) (N := N) (fun s l => ((stp m s l).1, (s + ks[l]!) % N)) (by omega) (by omega) (fun s l hs hl' Q q => ?_) ⟨rfl, _, some (true, .lst (ks.map nD)), z, w2, rfl, gridOf_tb fun s l hs hl => ⟨?_, ?_⟩, hG⟩
        · obtain ⟨r, i1, i2⟩ := ix_m hT hs
          exact ⟨_, i1, _, i2 l hl', _, rfl, _, ix_ks (by omega), _, rfl, _, rfl, _, bin_mod (by omega), q⟩
        · obtain ⟨_, _, _, h, _⟩ := hT.step hs hl; exact h
        · exact Nat.mod_lt _ (by omega)
      · obtain ⟨m, y, z, w', rfl, hT, hG⟩ := h
        exact ⟨rfl, m, y, z, w', rfl, hT, hG.mono (by omega)⟩
      -- way 1
      refine wSs_first (Jm L S N wy (B + 4 + 18 * N + L)) (ife_pu (k := decide ((wy : Int) = 1)) ?_ (fun _ => ?_) fun _ => ?_) (fun t h => ?_)
      · obtain ⟨m, y, z, w', rfl, hT, hG⟩ := h
        exact pu_cmp (x := (.val, nD wy)) (y := (.val, .int 1)) (fun Q q => q) (fun Q q => q) rfl
      · obtain ⟨m, y, z, w', rfl, hT, hG⟩ := h
        obtain ⟨m2, w2, e2, hT2, g2⟩ := sp_law_doubled (n := n) hm hG (by omega) hL hN1 (by omega)
        exact ⟨_, _, _, e2, rfl, m2, y, z, w2, rfl, ⟨hT2.n, hT2.len, fun r hr p hp => by have := hT2.ans r hr p hp; omega, hT2.goal⟩, g2.mono (by omega)⟩
      · obtain ⟨m, y, z, w', rfl, hT, hG⟩ := h
        exact ⟨rfl, m, y, z, w', rfl, hT, hG.mono (by omega)⟩
      -- way 2
      refine wSs_first (Jm L S N wy (B + 4 + 18 * N + L + L)) (ife_pu (k := decide ((wy : Int) = 2)) ?_ (fun _ => ?_) fun _ => ?_) (fun t h => ?_)
      · obtain ⟨m, y, z, w', rfl, hT, hG⟩ := h
        exact pu_cmp (x := (.val, nD wy)) (y := (.val, .int 2)) (fun Q q => q) (fun Q q => q) rfl
      · obtain ⟨m, y, z, w', rfl, hT, hG⟩ := h
        refine ⟨rfl, _, items_rng (by omega), lc_draws (c := 8) (N := N) (by omega) hG (by omega) hN1 (fun u w => ⟨[some (false, .pool), some (false, nD L), some (false, nD S), some (false, nD wy), some (false, nD N), some (false, mD m), y, z, u, none], w⟩) (fun _ _ => rfl) (fun _ _ => rfl) (fun _ _ _ h => h) fun ks u w2 hl hp hG => ⟨?_, ?_⟩⟩
        · have := sizeLine_big
          rw [List.length_map]; omega
        refine grid_asg (gf := gg n) (F := FF) (w := w2) (L := L) (N := N) (fun s l => ((stp m s l).1, ks[l]!)) (by omega) (by omega) (fun s l hs hl' Q q => ?_) ⟨rfl, _, y, some (true, .lst (ks.map nD)), w2, rfl, gridOf_tb fun s l hs hl => ⟨?_, ?_⟩, hG⟩
        · obtain ⟨r, i1, i2⟩ := ix_m hT hs
          exact ⟨_, i1, _, i2 l hl', _, rfl, _, ix_ks (by omega), q⟩
        · obtain ⟨_, _, _, h, _⟩ := hT.step hs hl; exact h
        · exact hp _ (bang_mem (by omega))
      · obtain ⟨m, y, z, w', rfl, hT, hG⟩ := h
        exact ⟨rfl, m, y, z, w', rfl, hT, hG.mono (by omega)⟩
      -- way 3
      refine wSs_first (Jm L S N wy (B + 4 + 18 * N + L + L)) (ife_pu (k := decide ((wy : Int) = 3)) ?_ (fun _ => ?_) fun _ => ?_) (fun t h => ?_)
      · obtain ⟨m, y, z, w', rfl, hT, hG⟩ := h
        exact pu_cmp (x := (.val, nD wy)) (y := (.val, .int 3)) (fun Q q => q) (fun Q q => q) rfl
      · obtain ⟨m, y, z, w', rfl, hT, hG⟩ := h
        refine grid_asg (gf := gg n) (F := FF) (w := w') (L := L) (N := N) (fun s l => (((stp m s 0).1 + l) % 3, (stp m s l).2)) (by omega) (by omega) (fun s l hs hl' Q q => ?_) ⟨rfl, _, y, z, w', rfl, gridOf_tb fun s l hs hl => ⟨?_, ?_⟩, hG⟩
        · obtain ⟨r, i1, i2⟩ := ix_m hT hs
          exact ⟨_, i1, _, i2 0 (by omega), _, rfl, _, rfl, _, rfl, _, bin_mod (j := 3) (by omega), _, i1, _, i2 l hl', _, rfl, q⟩
        · exact Nat.mod_lt _ (by omega)
        · obtain ⟨_, _, _, _, h⟩ := hT.step hs hl; exact h
      · obtain ⟨m, y, z, w', rfl, hT, hG⟩ := h
        exact ⟨rfl, m, y, z, w', rfl, hT, hG.mono (by omega)⟩
      -- way 4
      refine wSs_first (Jm L S N wy (B + 4 + 18 * N + L + L)) (ife_pu (k := decide ((wy : Int) = 4)) ?_ (fun _ => ?_) fun _ => ?_) (fun t h => ?_)
      · obtain ⟨m, y, z, w', rfl, hT, hG⟩ := h
        exact pu_cmp (x := (.val, nD wy)) (y := (.val, .int 4)) (fun Q q => q) (fun Q q => q) rfl
      · obtain ⟨m, y, z, w', rfl, hT, hG⟩ := h
        refine grid_asg (gf := gg n) (F := FF) (w := w') (L := L) (N := N) (fun s l => ((s + l) % 3, s - l)) (by omega) (by omega) (fun s l hs hl' Q q => ?_) ⟨rfl, _, y, z, w', rfl, gridOf_tb fun s l hs hl => ⟨?_, ?_⟩, hG⟩
        · refine ⟨_, rfl, _, rfl, _, bin_mod (j := 3) (by omega), _, rfl, _, rfl, ?_⟩
          have e : (if ((s : Int) - (l : Int)) > 0 then ((s : Int) - (l : Int)) else 0) = ((s - l : Nat) : Int) := by split <;> omega
          show Q (.val, .tup [_, .int (if ((s : Int) - (l : Int)) > 0 then ((s : Int) - (l : Int)) else 0)]) _
          rw [e]
          exact q
        · exact Nat.mod_lt _ (by omega)
        · show s - l < N; omega
      · obtain ⟨m, y, z, w', rfl, hT, hG⟩ := h
        exact ⟨rfl, m, y, z, w', rfl, hT, hG.mono (by omega)⟩
      obtain ⟨m, y, z, w', rfl, hT, hG⟩ := h
      exact ⟨rfl, N, m, rfl, hN1, hNS, hT, hG.mono (by omega)⟩
    refine ⟨_, _, _, e1, _, _, _, e2, _, rfl, _, _, _, e3, _, rfl, fun _ => tail S hS (Nat.le_refl S), fun _ => tail (1 + k2) (by omega) (by omega)⟩)
  exact ⟨N, m, w', gfn_ir en_law_machine e, h1, h2, hT, hG⟩
end K
namespace K
open PySem PySem.Spec PyProof.Rows L2 Mp
theorem cutD_mem {ds : List D} {lo hi : Option Int} {x : D} (h : x ∈ Mp.cutD ds lo hi) : x ∈ ds := List.mem_of_mem_drop (List.mem_of_mem_take h)
theorem cutD_len {ds : List D} {lo hi : Option Int} : (Mp.cutD ds lo hi).length ≤ ds.length := by
  unfold Mp.cutD
  rw [List.length_take, List.length_drop]
  omega
theorem add_tup {xs ys : List D} (h : xs.length + ys.length ≤ 100000) : bin .Add (.tup xs) (.tup ys) = some (false, .tup (xs ++ ys)) := if_pos (by
  have := sizeLine_big
  omega)
theorem pick {xs : List D} {k : Nat} (h : k < xs.length) : ∃ x, x ∈ xs ∧ ix (.lst xs) (.int (k : Nat)) = some x := ⟨xs[k], List.getElem_mem h, ix_lst (List.getElem?_eq_getElem h)⟩
theorem pickT {xs : List D} {k : Nat} (h : k < xs.length) : ∃ x, x ∈ xs ∧ ix (.tup xs) (.int (k : Nat)) = some x := ⟨xs[k], List.getElem_mem h, ix_tup (List.getElem?_eq_getElem h)⟩
theorem vd_tup {b d : Nat} {xs : List D} (h1 : xs.length ≤ b) (h2 : ∀ x ∈ xs, Vd b d x) : Vd b (d + 1) (.tup xs) := ⟨h1, h2⟩
theorem vd_int {b d : Nat} {i : Int} (h : i.natAbs ≤ b) : Vd b d (.int i) := by cases d <;> exact h
theorem vd_str {b d : Nat} {x : Str} (h : x.length ≤ b) : Vd b d (.str x) := by cases d <;> exact h
theorem vd_non {b d : Nat} : Vd b d .non := by cases d <;> trivial
theorem vd_bl {b d : Nat} {c : Bool} : Vd b d (.bl c) := by cases d <;> trivial
theorem vd_nil {b d : Nat} : Vd b (d + 1) (.tup []) := ⟨Nat.zero_le _, nofun⟩
/-- lists of values, one after the other -/
theorem all_cat {P : D → Prop} {xs ys : List D} (h1 : ∀ x ∈ xs, P x) (h2 : ∀ x ∈ ys, P x) : ∀ x ∈ xs ++ ys, P x := fun x hx => (List.mem_append.mp hx).elim (h1 x) (h2 x)
theorem all_cut {P : D → Prop} {xs : List D} {lo hi : Option Int} (h1 : ∀ x ∈ xs, P x) : ∀ x ∈ Mp.cutD xs lo hi, P x := fun x hx => h1 x (cutD_mem hx)
theorem all_one {P : D → Prop} {x : D} (h1 : P x) : ∀ y ∈ [x], P y := fun y hy => by rw [List.mem_singleton.mp hy]; exact h1
theorem app_len2 {xs ys : List D} {a b : Nat} (h1 : xs.length ≤ a) (h2 : ys.length ≤ b) : (xs ++ ys).length ≤ a + b := by rw [List.length_append]; omega
--@ _law_bent
def bentB (b : Nat) : Nat := 3 * b + 40
theorem bent_atom {n b d B : Nat} {v : D} {w : Wd} (hb : b ≤ 10000) (hn : 1 ≤ n) (hv : Vd b d v) (g : G B w) (hB : B < 2 ^ 49) (ht : ∀ xs, v ≠ .tup xs) :
    wSs (gg n) FF f_law_bent.body ⟨[some (false, .pool), some (false, v), none, none, none, none, none], w⟩ fun x s => match x with
      | .rt _ v' => Vd (bentB b) (d + 1) v' ∧ G (B + 1) s.w
      | .nx => Vd (bentB b) (d + 1) .non ∧ G (B + 1) s.w
      | _ => False := by
  have last : ∀ {k : Nat} {w : Wd} {x : D}, x ∈ [D.int 0, .tup [], .bl false, .str "x"] → Vd (bentB b) (d + 1) x := fun {k w x} hx => by
    simp only [List.mem_cons, List.not_mem_nil, or_false] at hx
    rcases hx with rfl | rfl | rfl | rfl
    · exact vd_int (by simp)
    · exact vd_nil
    · exact vd_bl
    · exact vd_str (Nat.le_trans (by decide : _ ≤ 1) (by unfold bentB; omega))
  cases v with
  | pool => cases d <;> exact hv.elim
  | dct => cases d <;> exact hv.elim
  | tup xs => exact absurd rfl (ht xs)
  | str x =>
    have hx : x.length ≤ b := by cases d <;> exact hv
    obtain ⟨k, w2, hk, g2, e2⟩ := sp_law_draw (n := n) (m := 5) (by omega) g (by omega) (by omega)
    have e3 : bin .Add (.str x) (.str "x") = some (false, .str (x ++ "x")) := if_pos (by
      have := sizeLine_big
      show x.length + 1 ≤ _
      omega)
    have e4 : mt .upper (.str x) [] = some (false, .str (Txt.upper x)) := if_pos (by omega)
    obtain ⟨y, hy1, hy2⟩ := pick (xs := [.str (x ++ "x"), .str "", .str (Txt.upper x), .non, .int 0]) (k := k) (by simp; omega)
    refine ⟨_, rfl, nofun, fun _ => ⟨_, rfl, fun _ => ⟨_, e3, _, e4, _, _, _, e2, _, hy2, ?_, g2⟩, nofun⟩⟩
    simp only [List.mem_cons, List.not_mem_nil, or_false] at hy1
    rcases hy1 with rfl | rfl | rfl | rfl | rfl
    · refine vd_str ?_
      show (x.cps ++ _).size ≤ _
      rw [Array.size_append]
      show x.length + 1 ≤ _
      unfold bentB; omega
    · exact vd_str (Nat.le_trans (by decide : _ ≤ 1) (by unfold bentB; omega))
    · exact vd_str (by have := len_upper x; unfold bentB; omega)
    · exact vd_non
    · exact vd_int (by simp)
  | int i =>
    have hx : i.natAbs ≤ b := by cases d <;> exact hv
    obtain ⟨k, w2, hk, g2, e2⟩ := sp_law_draw (n := n) (m := 10) (by omega) g (by omega) (by omega)
    have e4 : bi .str [.int i] = some (false, .str (PySem.Str.ofString (toString i))) := if_pos (by
      by_cases h0 : i.natAbs = 0
      · rw [h0]; decide
      · rw [Nat.log2_lt h0]
        exact Nat.lt_of_le_of_lt (show i.natAbs ≤ 10000 by omega) (Nat.lt_of_lt_of_le (show 10000 < 2 ^ 14 by decide) (Nat.pow_le_pow_right (by decide) (by decide))))
    obtain ⟨y, hy1, hy2⟩ := pick (xs := [.int (i + 1), .int (i - 1), .int (i + 1), .int (i - 1), .int 0, .int (i + 16), .bl true, .non, .str (PySem.Str.ofString (toString i)), .tup [.int i]]) (k := k) (by simp; omega)
    refine ⟨_, rfl, nofun, fun _ => ⟨_, rfl, nofun, fun _ => ⟨_, _, _, sp_law_kind hn hv, _, rfl, fun _ => ⟨_, rfl, _, rfl, _, rfl, _, rfl, _, rfl, _, e4, _, _, _, e2, _, hy2, ?_, g2⟩, nofun⟩⟩⟩
    simp only [List.mem_cons, List.not_mem_nil, or_false] at hy1
    have big : ∀ j : Int, j.natAbs ≤ b + 16 → Vd (bentB b) (d + 1) (.int j) := fun j h => vd_int (by unfold bentB; omega)
    rcases hy1 with rfl | rfl | rfl | rfl | rfl | rfl | rfl | rfl | rfl | rfl
    · exact big _ (by omega)
    · exact big _ (by omega)
    · exact big _ (by omega)
    · exact big _ (by omega)
    · exact vd_int (by simp)
    · exact big _ (by omega)
    · exact vd_bl
    · exact vd_non
    · exact vd_str (by have := len_int i; unfold bentB; omega)
    · exact vd_tup (by simp [bentB]) (all_one (vd_int (by unfold bentB; omega)))
  | lst xs =>
    obtain ⟨k, w2, hk, g2, e2⟩ := sp_law_draw (n := n) (m := 4) (by omega) g (by omega) (by omega)
    obtain ⟨y, hy1, hy2⟩ := pick (xs := [.int 0, .tup [], .bl false, .str "x"]) (k := k) (by simp; omega)
    exact ⟨_, rfl, nofun, fun _ => ⟨_, rfl, nofun, fun _ => ⟨_, _, _, sp_law_kind hn hv, _, rfl, nofun, fun _ => ⟨_, _, _, e2, _, hy2, last (k := 0) (w := w) hy1, g2⟩⟩⟩⟩
  | non =>
    obtain ⟨k, w2, hk, g2, e2⟩ := sp_law_draw (n := n) (m := 4) (by omega) g (by omega) (by omega)
    obtain ⟨y, hy1, hy2⟩ := pick (xs := [.int 0, .tup [], .bl false, .str "x"]) (k := k) (by simp; omega)
    exact ⟨_, rfl, nofun, fun _ => ⟨_, rfl, nofun, fun _ => ⟨_, _, _, sp_law_kind hn hv, _, rfl, nofun, fun _ => ⟨_, _, _, e2, _, hy2, last (k := 0) (w := w) hy1, g2⟩⟩⟩⟩
  | bl c =>
    obtain ⟨k, w2, hk, g2, e2⟩ := sp_law_draw (n := n) (m := 4) (by omega) g (by omega) (by omega)
    obtain ⟨y, hy1, hy2⟩ := pick (xs := [.int 0, .tup [], .bl false, .str "x"]) (k := k) (by simp; omega)
    exact ⟨_, rfl, nofun, fun _ => ⟨_, rfl, nofun, fun _ => ⟨_, _, _, sp_law_kind hn hv, _, rfl, nofun, fun _ => ⟨_, _, _, e2, _, hy2, last (k := 0) (w := w) hy1, g2⟩⟩⟩⟩
theorem sp_law_bent {b : Nat} (hb : b ≤ 10000) : ∀ {d n B : Nat} {v : D} {w : Wd}, d + 3 ≤ n → Vd b d v → G B w → B + 4 * d < 2 ^ 48 → d ≤ 100 →
    ∃ fl v' w', gg n ix_law_bent [.pool, v] w = some (fl, v', w') ∧ Vd (bentB b) (d + 1) v' ∧ G (B + 4 + 4 * d) w' := by
  intro d
  induction d with
  | zero =>
    intro n B v w hn hv g hB hd
    obtain ⟨n, rfl, hm⟩ := lvl hn
    obtain ⟨fl, v', w', e, h1, hG⟩ := run_ok (gf := gg n) (F := FF) (f := f_law_bent) (as := [.pool, v]) (w := w) (Q := fun fl v' w' => Vd (bentB b) (0 + 1) v' ∧ G (B + 1) w') rfl (bent_atom hb (by omega) hv g (by omega) fun xs e => by subst e; exact hv.elim)
    exact ⟨fl, v', w', gfn_ir en_law_bent e, h1, hG.mono (by omega)⟩
  | succ d ih =>
    intro n B v w hn hv g hB hd
    obtain ⟨n, rfl, hm⟩ := lvl hn
    by_cases ht : ∃ xs, v = .tup xs
    case neg =>
      obtain ⟨fl, v', w', e, h1, hG⟩ := run_ok (gf := gg n) (F := FF) (f := f_law_bent) (as := [.pool, v]) (w := w) (Q := fun fl v' w' => Vd (bentB b) (d + 1 + 1) v' ∧ G (B + 1) w') rfl (bent_atom hb (by omega) hv g (by omega) fun xs e => ht ⟨xs, e⟩)
      exact ⟨fl, v', w', gfn_ir en_law_bent e, h1, hG.mono (by omega)⟩
    obtain ⟨ds, rfl⟩ := ht
    obtain ⟨fl, v', w', e, h1, hG⟩ := run_ok (gf := gg n) (F := FF) (f := f_law_bent) (as := [.pool, .tup ds]) (w := w) (Q := fun fl v' w' => Vd (bentB b) (d + 1 + 1) v' ∧ G (B + 4 + 4 * (d + 1)) w') rfl (by
        obtain ⟨hl, hx⟩ := hv
        have hx' : ∀ x ∈ ds, Vd (bentB b) (d + 1) x := fun x h => Vd.mono (by unfold bentB; omega) x (by omega) (hx x h)
        obtain ⟨wy, w1, hwy, g1, e1⟩ := sp_law_draw (n := n) (m := 10) (by omega) g (by omega) (by omega)
        refine ⟨_, rfl, fun _ => ⟨_, _, _, e1, ?_⟩, nofun⟩
        refine ifs_pu (k := decide ((ds.length : Int) = 0) || decide ((wy : Int) = 0)) (pu_or (fun Q q => ⟨_, rfl, _, rfl, q⟩) fun _ => fun Q q => ⟨_, rfl, q⟩) (fun _ => ?_) fun h0 => ?_
        · obtain ⟨k, w2, hk, g2, e2⟩ := sp_law_draw (n := n) (m := 4) (by omega) g1 (by omega) (by omega)
          obtain ⟨x, hx1, hx2⟩ := pick (xs := [.int 0, .int 1, .tup [], .tup [.int 0, .int 0]]) (k := k) (by simp; omega)
          refine ⟨_, _, _, e2, _, hx2, _, add_tup (by simp; omega), vd_tup (by simp [bentB]; omega) (all_cat hx' (all_one ?_)), g2.mono (by omega)⟩
          simp only [List.mem_cons, List.not_mem_nil, or_false] at hx1
          rcases hx1 with rfl | rfl | rfl | rfl
          · exact vd_int (by simp)
          · exact vd_int (by simp [bentB])
          · exact vd_nil
          · exact vd_tup (by simp [bentB]) (by intro x hx; simp at hx; subst hx; exact vd_int (by simp))
        have h0 : ¬ ds.length = 0 ∧ ¬ wy = 0 := by
          simp at h0
          refine ⟨fun h => h0.1 (List.eq_nil_of_length_eq_zero h), fun h => h0.2 (by omega)⟩
        obtain ⟨at_, w2, hat, g2, e2⟩ := sp_law_draw (n := n) (m := (ds.length : Nat)) (by omega) g1 (by omega) (by omega)
        refine ⟨_, rfl, _, _, _, e2, ?_⟩
        have lb : ∀ lo hi, (Mp.cutD ds lo hi).length ≤ b := fun lo hi => Nat.le_trans cutD_len hl
        refine ifs_pu (k := decide ((wy : Int) = 1)) (fun Q q => ⟨_, rfl, q⟩) (fun _ => ?_) fun _ => ?_
        · refine ⟨_, rfl, _, rfl, _, rfl, _, add_tup (by have := lb none (some at_); have := lb (some (at_ + 1)) none; omega), vd_tup ?_ (all_cat (all_cut hx') (all_cut hx')), g2.mono (by omega)⟩
          exact Nat.le_trans (app_len2 (lb _ _) (lb _ _)) (by simp [bentB]; omega)
        obtain ⟨x, hx1, hx2⟩ := pickT (xs := ds) (k := at_) (by omega)
        -- what comes behind the third way
        have rest : ∀ w2, G (B + 1 + 1 + 1) w2 → wSs (gg n) FF [.ife (.cmp .Eq (.b 2) (.k (.int 3))) [.ret (.bin .Add (.bin .Add (.sl (.b 1) none (some (.b 3))) (.tup [(.ix (.b 1) (.b 3))])) (.sl (.b 1) (some (.b 3)) none))] [], .ife (.and (.cmp .Eq (.b 2) (.k (.int 4))) (.cmp .Gt (.bi .len [(.b 1)]) (.k (.int 1)))) [.asg (.nm 4) (.bin .Mod (.bin .Add (.b 3) (.k (.int 1))) (.bi .len [(.b 1)])), .asg (.nm 5) (.bi .min2 [(.b 3), (.b 4)]), .asg (.nm 6) (.bi .max2 [(.b 3), (.b 4)]), .ret (.bin .Add (.bin .Add (.bin .Add (.bin .Add (.sl (.b 1) none (some (.b 5))) (.tup [(.ix (.b 1) (.b 6))])) (.sl (.b 1) (some (.bin .Add (.b 5) (.k (.int 1)))) (some (.b 6)))) (.tup [(.ix (.b 1) (.b 5))])) (.sl (.b 1) (some (.bin .Add (.b 6) (.k (.int 1)))) none))] [], .ret (.bin .Add (.bin .Add (.sl (.b 1) none (some (.b 3))) (.tup [(.call ix_law_bent [(.v 0), (.ix (.b 1) (.b 3))])])) (.sl (.b 1) (some (.bin .Add (.b 3) (.k (.int 1)))) none))] ⟨[some (false, .pool), some (false, .tup ds), some (false, nD wy), some (false, nD at_), none, none, none], w2⟩ fun f s => match f with
          | .rt _ v' => Vd (bentB b) (d + 1 + 1) v' ∧ G (B + 4 + 4 * (d + 1)) s.w
          | _ => False := fun w2 g2 => by
          refine ifs_pu (k := decide ((wy : Int) = 3)) (fun Q q => ⟨_, rfl, q⟩) (fun _ => ?_) fun _ => ?_
          · refine ⟨_, rfl, _, hx2, _, add_tup (by have := lb none (some at_); simp; omega), _, rfl, _, add_tup (by have := lb none (some at_); have := lb (some at_) none; simp; omega), vd_tup ?_ (all_cat (all_cat (all_cut hx') (all_one (hx' x hx1))) (all_cut hx')), g2.mono (by omega)⟩
            exact Nat.le_trans (app_len2 (app_len2 (lb _ _) (Nat.le_refl 1)) (lb _ _)) (by simp [bentB]; omega)
          refine ifs_pu (k := decide ((wy : Int) = 4) && decide ((1 : Int) < (ds.length : Nat))) (pu_and (fun Q q => ⟨_, rfl, q⟩) fun _ => fun Q q => ⟨_, rfl, _, rfl, q⟩) (fun _ => ?_) fun _ => ?_
          · have hmd : (at_ + 1) % ds.length < ds.length := Nat.mod_lt _ (by omega)
            generalize ho : (at_ + 1) % ds.length = ot at hmd
            obtain ⟨lo, elo, hlo⟩ : ∃ lo : Nat, bi .min2 [nD at_, nD ot] = some (false, nD lo) ∧ lo < ds.length := by
              refine ⟨if ot < at_ then ot else at_, ?_, by split <;> omega⟩
              show some (false, D.int (if ((ot : Nat) : Int) < (at_ : Nat) then ((ot : Nat) : Int) else (at_ : Nat))) = _
              by_cases h : ot < at_
              · rw [if_pos (by omega), if_pos h]
              · rw [if_neg (by omega), if_neg h]
            obtain ⟨hi, ehi, hhi⟩ : ∃ hi : Nat, bi .max2 [nD at_, nD ot] = some (false, nD hi) ∧ hi < ds.length := by
              refine ⟨if ot > at_ then ot else at_, ?_, by split <;> omega⟩
              show some (false, D.int (if ((ot : Nat) : Int) > (at_ : Nat) then ((ot : Nat) : Int) else (at_ : Nat))) = _
              by_cases h : ot > at_
              · rw [if_pos (by omega), if_pos h]
              · rw [if_neg (by omega), if_neg h]
            obtain ⟨y1, hy1, hy2⟩ := pickT (xs := ds) (k := hi) hhi
            obtain ⟨y3, hy3, hy4⟩ := pickT (xs := ds) (k := lo) hlo
            have em : bin .Mod (.int (((at_ : Nat) : Int) + 1)) (.int (ds.length : Nat)) = some (false, nD ot) := by
              rw [← ho]
              exact bin_mod (i := at_ + 1) (by omega)
            have l1 := lb none (some lo)
            have l2 := lb (some (lo + 1)) (some hi)
            have l3 := lb (some (hi + 1)) none
            refine ⟨_, rfl, _, rfl, _, em, _, elo, _, ehi, _, rfl, _, hy2, _, add_tup (by simp; omega), _, rfl, _, rfl, _, add_tup (by simp; omega), _, hy4, _, add_tup (by simp; omega), _, rfl, _, rfl, _, add_tup (by simp; omega), vd_tup ?_ (all_cat (all_cat (all_cat (all_cat (all_cut hx') (all_one (hx' y1 hy1))) (all_cut hx')) (all_one (hx' y3 hy3))) (all_cut hx')), g2.mono (by omega)⟩
            exact Nat.le_trans (app_len2 (app_len2 (app_len2 (app_len2 (lb _ _) (Nat.le_refl 1)) (lb _ _)) (Nat.le_refl 1)) (lb _ _)) (by simp [bentB]; omega)
          · obtain ⟨fl, v', w3, e3, hv3, g3⟩ := ih (n := n) (by omega) (hx x hx1) g2 (by omega) (by omega)
            have l1 := lb none (some at_)
            have l2 := lb (some (at_ + 1)) none
            cases fl
            all_goals
              refine ⟨_, rfl, _, hx2, _, _, _, e3, _, add_tup (by simp; omega), _, rfl, _, rfl, _, add_tup (by simp; omega), vd_tup ?_ (all_cat (all_cat (all_cut hx') (all_one hv3)) (all_cut hx')), g3.mono (by omega)⟩
              exact Nat.le_trans (app_len2 (app_len2 (lb _ _) (Nat.le_refl 1)) (lb _ _)) (by simp [bentB]; omega)
        refine ⟨_, rfl, fun h2 => ?_, fun h2 => ⟨nofun, fun _ => wSs_nil (wSs_mono (rest w2 (g2.mono (by omega))) fun f s q => by cases f <;> first | exact q | exact q.elim)⟩⟩
        obtain ⟨k3, w3, hk3, g3, e3⟩ := sp_law_draw (n := n) (m := 3) (by omega) g2 (by omega) (by omega)
        exact ⟨_, _, _, e3, _, rfl, fun _ => ⟨_, rfl, vd_tup (by unfold bentB; omega) hx', g3.mono (by omega)⟩, fun _ => wSs_nil (wSs_mono (rest w3 g3) fun f s q => by cases f <;> first | exact q | exact q.elim)⟩)
    exact ⟨fl, v', w', gfn_ir en_law_bent e, h1, hG⟩
--@ _law_bends
theorem sp_law_bends {b d n B k : Nat} {v : D} {w : Wd} (hb : b ≤ 1000) (hn : d + 5 ≤ n) (hv : Vd b d v) (g : G B w) (hB : B < 2 ^ 40) (hd : d ≤ 50) (hk : k ≤ 1000) :
    ∃ vs w', gg n ix_law_bends [.pool, v, nD k] w = some (true, .lst vs, w') ∧ (∀ x ∈ vs, Vd 10000 (d + 2) x) ∧ vs.length ≤ k + 11 ∧ G (B + 1000 * k) w' := by
  obtain ⟨n, rfl, hm⟩ := lvl hn
  obtain ⟨fl, v', w', e, rfl, vs, rfl, h1, h2, hG⟩ := run_ok (gf := gg n) (F := FF) (f := f_law_bends) (as := [.pool, v, nD k]) (w := w) (Q := fun fl v' w' => fl = true ∧ ∃ vs, v' = .lst vs ∧ (∀ x ∈ vs, Vd 10000 (d + 2) x) ∧ vs.length ≤ k + 11 ∧ G (B + 1000 * k) w') rfl (by
    have hv' : Vd 10000 (d + 2) v := Vd.mono (by omega) v (by omega) hv
    refine ⟨_, items_rng (by omega), for_rule (fun i t => ∃ vs y z w', t = ⟨[some (false, .pool), some (false, v), some (false, nD k), some (true, .lst vs), y, z], w'⟩ ∧ (∀ x ∈ vs, Vd 10000 (d + 2) x) ∧ vs.length = i + 1 ∧ G (B + 1000 * i) w') ⟨[v], _, _, _, rfl, all_one hv', rfl, g⟩ (fun i x t hi hd' hI => ?_) (fun t hI => ?_)⟩
    · obtain ⟨vs, y, z, w', rfl, h1, h2, hG⟩ := hI
      rw [List.length_map, List.length_range] at hi
      obtain ⟨fl, v1, w1, e1, hv1, g1⟩ := sp_law_bent (b := b) (by omega) (n := n) (by omega) hv hG (by omega) (by omega)
      obtain ⟨k2, w2, hk2, g2, e2⟩ := sp_law_draw (n := n) (m := 5) (by omega) g1 (by omega) (by omega)
      have big := sizeLine_big
      have hv1' : Vd 10000 (d + 2) v1 := Vd.mono (by unfold bentB; omega) v1 (by omega) hv1
      have hl : vs.length < sizeLine := by omega
      refine ⟨_, rfl, _, _, _, e1, ?_⟩
      cases fl
      all_goals
        refine ⟨_, _, _, e2, _, rfl, fun _ => ?_, fun _ => ⟨hl, vs ++ [v1], _, _, w2, rfl, all_cat h1 (all_one hv1'), by rw [List.length_append, h2]; rfl, g2.mono (by omega)⟩⟩
        obtain ⟨fl2, v2, w3, e3, hv2, g3⟩ := sp_law_bent (b := bentB b) (by unfold bentB; omega) (n := n) (by omega) hv1 g2 (by omega) (by omega)
        have hv2' : Vd 10000 (d + 2) v2 := Vd.mono (by unfold bentB; omega) v2 (by omega) hv2
        refine ⟨_, _, _, e3, ?_⟩
        cases fl2
        all_goals exact ⟨hl, vs ++ [v2], _, _, w3, rfl, all_cat h1 (all_one hv2'), by rw [List.length_append, h2]; rfl, g3.mono (by omega)⟩
    · obtain ⟨vs, y, z, w', rfl, h1, h2, hG⟩ := hI
      rw [List.length_map, List.length_range] at h2 hG
      have big := sizeLine_big
      refine ⟨_, if_pos (by show vs.length + 10 ≤ _; omega), rfl, _, rfl, all_cat h1 ?_, ?_, hG⟩
      · intro x hx
        simp only [List.mem_cons, List.not_mem_nil, or_false] at hx
        rcases hx with rfl | rfl | rfl | rfl | rfl | rfl | rfl | rfl | rfl | rfl
        · exact vd_non
        · exact vd_int (by simp)
        · exact vd_bl
        · exact vd_str (by decide)
        · exact vd_nil
        · exact ⟨Nat.zero_le _, nofun⟩
        · exact vd_str (by decide)
        · exact vd_tup (by simp) (all_one (vd_int (by simp)))
        · refine vd_tup (by simp) (fun y hy => ?_)
          simp only [List.mem_cons, List.not_mem_nil, or_false] at hy
          rcases hy with rfl | rfl
          · exact vd_str (by decide)
          · exact vd_int (by simp)
        · exact hv'
      · rw [List.length_append, h2]; show k + 1 + 10 ≤ _; omega)
  exact ⟨vs, w', gfn_ir en_law_bends e, h1, h2, hG⟩
end K
namespace K
open PySem PySem.Spec PyProof.Rows L2 Mp
def vdB (b : Nat) : Nat → D → Bool
  | _, .non => true
  | _, .bl _ => true
  | _, .int i => decide (i.natAbs ≤ b)
  | _, .str x => decide (x.length ≤ b)
  | d + 1, .tup ds => decide (ds.length ≤ b) && ds.all (vdB b d)
  | d + 1, .lst ds => decide (ds.length ≤ b) && ds.all (vdB b d)
  | _, _ => false
theorem vdB_ok {b : Nat} : ∀ {d : Nat} {v : D}, vdB b d v = true → Vd b d v := by
  intro d
  induction d with
  | zero =>
    intro v h
    cases v with
    | non => exact vd_non
    | bl c => exact vd_bl
    | int i => exact vd_int (of_decide_eq_true h)
    | str x => exact vd_str (of_decide_eq_true h)
    | _ => cases h
  | succ d ih =>
    intro v h
    cases v with
    | non => exact vd_non
    | bl c => exact vd_bl
    | int i => exact vd_int (of_decide_eq_true h)
    | str x => exact vd_str (of_decide_eq_true h)
    | tup ds =>
      have h : (decide (ds.length ≤ b) && ds.all (vdB b d)) = true := h
      rw [Bool.and_eq_true] at h
      exact ⟨of_decide_eq_true h.1, fun x hx => ih (List.all_eq_true.mp h.2 x hx)⟩
    | lst ds =>
      have h : (decide (ds.length ≤ b) && ds.all (vdB b d)) = true := h
      rw [Bool.and_eq_true] at h
      exact ⟨of_decide_eq_true h.1, fun x hx => ih (List.all_eq_true.mp h.2 x hx)⟩
    | _ => cases h
theorem vdB_all {b d : Nat} {vs : List D} (h : vs.all (vdB b d) = true) : ∀ x ∈ vs, Vd b d x := fun x hx => vdB_ok (List.all_eq_true.mp h x hx)
theorem vd_nD {b d k : Nat} (h : k ≤ b) : Vd b d (nD k) := vd_int (by simpa using h)
theorem vd_wD {b d : Nat} {ws : List Nat} (h1 : ws.length ≤ b) (h2 : ∀ l ∈ ws, l ≤ b) : Vd b (d + 1) (wD ws) := vd_tup (by rw [List.length_map]; exact h1) fun x hx => by
  obtain ⟨l, hl, rfl⟩ := List.mem_map.mp hx
  exact vd_nD (h2 l hl)
theorem vd_mD {b d N L A S : Nat} {m : Mach} (h : Tb N L A S m) (h1 : N ≤ b) (h2 : L ≤ b) (h3 : A ≤ b) (h4 : S ≤ b) (h5 : 2 ≤ b) : Vd b (d + 3) (mD m) := vd_tup (by rw [List.length_map, h.n]; exact h1) fun x hx => by
  obtain ⟨r, hr, rfl⟩ := List.mem_map.mp hx
  refine vd_tup (by rw [List.length_map, h.len r hr]; exact h2) fun y hy => ?_
  obtain ⟨p, hp, rfl⟩ := List.mem_map.mp hy
  have a1 := h.ans r hr p hp
  have a2 := h.goal r hr p hp
  refine vd_tup h5 fun z hz => ?_
  simp only [List.mem_cons, List.not_mem_nil, or_false] at hz
  rcases hz with rfl | rfl
  · exact vd_nD (by omega)
  · exact vd_nD (by omega)
theorem vd_lwD {b d : Nat} {wss : List (List Nat)} (h : wss.length ≤ b) (h2 : ∀ ws ∈ wss, ws.length ≤ b ∧ ∀ l ∈ ws, l ≤ b) : Vd b (d + 2) (lwD wss) := ⟨by rw [List.length_map]; exact h, fun x hx => by
  obtain ⟨ws, hw, rfl⟩ := List.mem_map.mp hx
  exact vd_wD (h2 ws hw).1 (h2 ws hw).2⟩
theorem cl_nD (k : Nat) : (toPy (nD k)).canLay0 = true := rfl
theorem cl_wD (ws : List Nat) : (toPy (wD ws)).canLay0 = true := canL_of fun x hx => by
  obtain ⟨l, hl, rfl⟩ := List.mem_map.mp hx
  rfl
theorem cl_lwD (wss : List (List Nat)) : (toPy (lwD wss)).canLay0 = true := canL_of fun x hx => by
  obtain ⟨l, hl, rfl⟩ := List.mem_map.mp hx
  exact cl_wD l
theorem allW_lt {L : Nat} : ∀ {k : Nat} {ws : List Nat}, ws ∈ allW L k → ∀ l ∈ ws, l < L
  | 0, ws, h => by
    have h : ws ∈ [[]] := h
    simp at h
    rw [h]; exact nofun
  | k + 1, ws, h => by
    have h : ws ∈ (allW L k).flatMap fun ws => (List.range L).map fun l => ws ++ [l] := h
    simp only [List.mem_flatMap, List.mem_map, List.mem_range] at h
    obtain ⟨vs, h1, l, hl, rfl⟩ := h
    exact all_app (allW_lt h1) hl
theorem add_lst {xs ys : List D} (h : xs.length + ys.length ≤ 100000) : bin .Add (.lst xs) (.lst ys) = some (true, .lst (xs ++ ys)) := if_pos (by
  have := sizeLine_big
  omega)
theorem runA_le {L S : Nat} {m : Mach} (h : MOk L S m) : ∀ {ws : List Nat} {s : Nat}, s < m.length → (∀ l ∈ ws, l < L) → ∀ a ∈ runA m s ws, a ≤ 2
  | [], _, _, _ => nofun
  | x :: ws, s, hs, hw => by
    obtain ⟨_, _, _, h3, h4⟩ := h.step hs (hw x (by simp))
    intro a ha
    have ha : a ∈ (stp m s x).1 :: runA m (stp m s x).2 ws := ha
    rcases List.mem_cons.mp ha with rfl | ha
    · exact h3
    · exact runA_le h h4 (fun l hl => hw l (by simp [hl])) a ha
abbrev law_lvl : Nat := 20
abbrev Fin : Wf := fun f _ => match f with
  | .rt _ d => d = .bl true
  | _ => False
def mostD : D := .tup (List.replicate 6 (.tup (List.replicate 3 (.tup [.int 2, .int 5]))))
def mostL : List D := List.replicate 6 (.tup (List.replicate 3 (.tup [.int 2, .int 5])))
def othersL : List D := [.tup [], .tup [.tup []], .tup [.tup [.tup [.int 0, .int 0]]], .tup [.tup [.tup [.int 0, .int 1]]], .tup [.tup [.tup [.int 3, .int 0]]], .tup [.tup [.tup [.int 0, .int 0]], .tup []], .tup [.tup [.tup [.int 0, .int 0]], .tup [.tup [.int 0, .int 0], .tup [.int 0, .int 1]]], mostD, .tup (mostL ++ Mp.cutD mostL none (some 1)),
  .tup [.tup (List.replicate 4 (.tup [.int 0, .int 0]))], .tup [.tup [.tup [.int 0, .int 0], .tup [.int 0, .int 0, .int 0]]], .lst [.tup [.tup [.int 0, .int 0]]]]
theorem law_ok1 {rows : List Int} (h24 : 24 ≤ rows.length) (h144 : rows.length ≤ 144) : wSs (gg law_lvl) FF lawBody ⟨none :: some (false, .pool) :: List.replicate (lawN.length - 2) none, ⟨rows, 0⟩⟩ Fin := by
  have g0 : G 0 ⟨rows, 0⟩ := ⟨Nat.le_refl 0, h24, h144⟩
  -- letters
  refine wSs_first (fun t => ∃ L w, 1 ≤ L ∧ L ≤ 3 ∧ G 1 w ∧ t = ⟨[none, some (false, .pool), some (false, nD L), none, none, none, none, none, none, none, none], w⟩) ?_ fun t h => ?_
  · obtain ⟨k1, w1, hk1, g1, e1⟩ := sp_law_draw (n := law_lvl) (m := 3) (by decide) g0 (by omega) (by omega)
    exact ⟨_, _, _, e1, _, rfl, rfl, 1 + k1, w1, by omega, by omega, g1, rfl⟩
  obtain ⟨L, w1, hL1, hL, g1, rfl⟩ := h
  -- the machine
  obtain ⟨N, m, w2, e2, hN1, hN, hT, g2⟩ := sp_law_machine (n := law_lvl) (S := 6) (by decide) g1 (by omega) hL1 hL (by omega) (by omega)
  have hM : MOk L 6 m := hT.ok hN1 hL1 hL (by omega) hN
  have hV : Vd 1000 3 (mD m) := vd_mD (d := 0) hT (by omega) (by omega) (by omega) (by omega) (by omega)
  refine ⟨_, _, _, e2, ?_⟩
  -- the others
  refine wSs_first (fun t => t = ⟨[none, some (false, .pool), some (false, nD L), some (false, mD m), some (false, mostD), none, none, none, none, none, none], w2⟩) ⟨_, rfl, _, rfl, rfl, rfl⟩ fun t h => ?_
  subst h
  refine wSs_first (fun t => t = ⟨[none, some (false, .pool), some (false, nD L), some (false, mD m), some (false, mostD), some (true, .lst othersL), none, none, none, none, none], w2⟩) ⟨_, rfl, _, rfl, _, rfl, rfl, rfl⟩ fun t h => ?_
  subst h
  have hO : ∀ x ∈ othersL, Vd 10000 5 x := vdB_all (by decide +kernel)
  -- values near to the machine
  obtain ⟨vs, w3, e3, h3, l3, g3⟩ := sp_law_bends (k := 30) (n := law_lvl) (b := 1000) (by omega) (by decide) hV g2 (by omega) (by omega) (by omega)
  have hA : ∀ x ∈ vs ++ othersL, Vd 10000 5 x := all_cat h3 hO
  refine wSs_first (fun t => ∃ y, t = ⟨[none, some (false, .pool), some (false, nD L), some (false, mD m), some (false, mostD), some (true, .lst othersL), y, none, none, none, none], w3⟩) ⟨_, _, _, e3, _, add_lst (by show _ + 12 ≤ _; omega), _, rfl, for_rule (fun i t => ∃ y, t = ⟨[none, some (false, .pool), some (false, nD L), some (false, mD m), some (false, mostD), some (true, .lst othersL), y, none, none, none, none], w3⟩) ⟨_, rfl⟩ (fun i v t hi hd hI => ?_) (fun t hI => ⟨rfl, hI⟩)⟩ fun t h => ?_
  · obtain ⟨y, rfl⟩ := hI
    have hv := hA v (by rw [hd]; exact List.getElem_mem hi)
    exact ⟨_, rfl, _, _, _, sp_is_machine (n := law_lvl) (by decide) hv (by decide), _, _, _, sp_law_is_machine (n := law_lvl) (by decide) hv (by decide), _, _, _, sp_law_is (n := law_lvl) (by decide), nofun, fun _ => ⟨_, rfl⟩⟩
  obtain ⟨y, rfl⟩ := h
  -- how many letters
  refine wSs_first (fun t => ∃ y, t = ⟨[none, some (false, .pool), some (false, nD L), some (false, mD m), some (false, mostD), some (true, .lst othersL), y, none, none, none, none], w3⟩) ⟨_, _, _, sp_letters_of (n := law_lvl) (by decide) hM, _, _, _, sp_law_equal (n := law_lvl) (b := 10) (d := 0) (by omega) (by decide) (vd_nD (by omega)) (cl_nD L), nofun, fun _ => ⟨rfl, _, rfl⟩⟩ fun t h => ?_
  obtain ⟨y, rfl⟩ := h
  -- words
  refine wSs_first (fun t => ∃ y k a b w, G (100000 + 10000 * 8) w ∧ t = ⟨[none, some (false, .pool), some (false, nD L), some (false, mD m), some (false, mostD), some (true, .lst othersL), y, k, none, a, b], w⟩) ⟨_, items_rng (n := 8) (by omega), for_rule (fun i t => ∃ y k a b w, G (100000 + 10000 * i) w ∧ t = ⟨[none, some (false, .pool), some (false, nD L), some (false, mD m), some (false, mostD), some (true, .lst othersL), y, k, none, a, b], w⟩) ⟨_, _, _, _, _, g3.mono (by omega), rfl⟩ (fun i v t hi hd hI => ?_) (fun t hI => ⟨rfl, hI⟩)⟩ fun t h => ?_
  · obtain ⟨y, k, a, b, w4, g4, rfl⟩ := hI
    rw [List.length_map, List.length_range] at hi
    obtain ⟨ws, w5, e5, hl, hw, g5⟩ := sp_law_word (n := law_lvl) (L := L) (k := 9) (by decide) g4 (by omega) hL1 (by omega)
    obtain ⟨s, w6, hs, g6, e6⟩ := sp_law_draw (n := law_lvl) (m := ((m.map rwD).length : Nat)) (by decide) g5 (by omega) (by rw [List.length_map, hT.n]; omega)
    have hs : s < m.length := by rw [List.length_map] at hs; omega
    have eqW : ∀ {us : List Nat} {w : Wd}, us.length ≤ 9 → (∀ l ∈ us, l ≤ 1000) → gg law_lvl ix_law_equal [wD us, wD us] w = some (false, .bl true, w) := fun h1 h2 => sp_law_equal (n := law_lvl) (b := 1000) (d := 1) (by omega) (by decide) (vd_wD (by omega) h2) (cl_wD _)
    have ansW : ∀ {q : Nat}, q < m.length → ∀ l ∈ runA m q ws, l ≤ 1000 := fun hq l hl => by have := runA_le hM hq hw l hl; omega
    have goG := runG_lt hM hs hw
    have mN := hT.n
    refine ⟨_, rfl, _, _, _, e5, _, rfl, _, _, _, e6, ?_⟩
    refine wSs_first (fun t => ∃ y, t = ⟨[none, some (false, .pool), some (false, nD L), some (false, mD m), some (false, mostD), some (true, .lst othersL), y, some (false, v), none, some (false, wD ws), some (false, nD s)], w6⟩) ⟨_, _, _, sp_answers_of (n := law_lvl) (by decide) hM hs hw (by omega), _, _, _, sp_law_answers (n := law_lvl) (by decide) hM hs hw (by omega), _, _, _, eqW (by rw [runA_length]; exact hl) (ansW hs), nofun, fun _ =>
      ⟨_, _, _, sp_goal_of (n := law_lvl) (by decide) hM hs hw, _, _, _, sp_law_goal (n := law_lvl) (by decide) hM hs hw, _, _, _, sp_law_equal (n := law_lvl) (b := 10) (d := 0) (by omega) (by decide) (vd_nD (by omega)) (cl_nD _), nofun, fun _ => ⟨rfl, _, rfl⟩⟩⟩ fun t h => ?_
    obtain ⟨y, rfl⟩ := h
    refine wSs_first (fun t => ∃ y, t = ⟨[none, some (false, .pool), some (false, nD L), some (false, mD m), some (false, mostD), some (true, .lst othersL), y, some (false, v), none, some (false, wD ws), some (false, nD s)], w6⟩) ⟨_, _, _, sp_trial (n := law_lvl) (by decide) hM hw (by omega), _, _, _, sp_law_answers (n := law_lvl) (s := 0) (by decide) hM hM.pos hw (by omega), _, _, _, eqW (by rw [runA_length]; exact hl) (ansW hM.pos), nofun, fun _ => ⟨rfl, _, rfl⟩⟩ fun t h => ?_
    obtain ⟨y, rfl⟩ := h
    have hVw : Vd 1000 1 (wD ws) := vd_wD (by omega) fun l h => by have := hw l h; omega
    obtain ⟨us, w7, e7, h7, l7, g7⟩ := sp_law_bends (k := 4) (n := law_lvl) (b := 1000) (by omega) (by decide) hVw g6 (by omega) (by omega) (by omega)
    have hO2 : ∀ x ∈ [D.tup [nD L], .tup [.int ((L : Int) - 1)], .tup [.int (-1)], .tup [.int 0, nD L]], Vd 10000 3 x := by
      intro x hx
      simp only [List.mem_cons, List.not_mem_nil, or_false] at hx
      rcases hx with rfl | rfl | rfl | rfl
      · exact vd_tup (by simp) (all_one (vd_nD (by omega)))
      · exact vd_tup (by simp) (all_one (vd_int (by omega)))
      · exact vd_tup (by decide) (all_one (vd_int (by decide)))
      · refine vd_tup (by simp) (fun z hz => ?_)
        simp only [List.mem_cons, List.not_mem_nil, or_false] at hz
        rcases hz with rfl | rfl
        · exact vd_int (by decide)
        · exact vd_nD (by omega)
    have hA2 := all_cat h7 hO2
    refine ⟨_, _, _, e7, _, rfl, _, add_lst (by show _ + 4 ≤ _; omega), _, rfl, for_rule (fun j t => ∃ y, t = ⟨[none, some (false, .pool), some (false, nD L), some (false, mD m), some (false, mostD), some (true, .lst othersL), y, some (false, v), none, some (false, wD ws), some (false, nD s)], w7⟩) ⟨_, rfl⟩ (fun j v t hj hd hI => ?_) (fun t hI => ?_)⟩
    · obtain ⟨y, rfl⟩ := hI
      have hv := hA2 v (by rw [hd]; exact List.getElem_mem hj)
      exact ⟨_, rfl, _, _, _, sp_is_word (n := law_lvl) (by decide) hv (by decide), _, _, _, sp_law_is_word (n := law_lvl) (by decide) hv, _, _, _, sp_law_is (n := law_lvl) (by decide), nofun, fun _ => ⟨_, rfl⟩⟩
    · obtain ⟨y, rfl⟩ := hI
      exact ⟨_, _, _, _, _, g7.mono (by omega), rfl⟩
  obtain ⟨y, k, a, b, w4, g4, rfl⟩ := h
  -- all words of a length
  obtain ⟨q, w5, hq, g5, e5⟩ := sp_law_draw (n := law_lvl) (m := 5) (by decide) g4 (by omega) (by omega)
  have hp : L ^ q ≤ 81 := Nat.le_trans (Nat.pow_le_pow_left hL q) (Nat.le_trans (Nat.pow_le_pow_right (by decide) (show q ≤ 4 by omega)) (by decide))
  obtain ⟨fl, e6⟩ := sp_law_all_words (n := law_lvl) (L := L) (k := q) (w := w5) (by decide) hL1 (by omega) (by omega) (by omega)
  have e7 : gg law_lvl ix_law_equal [lwD (allW L q), lwD (allW L q)] w5 = some (false, .bl true, w5) := sp_law_equal (n := law_lvl) (b := 1000) (d := 2) (by omega) (by decide) (vd_lwD (d := 0) (by rw [allW_length]; omega) fun ws h => ⟨by rw [allW_len h]; omega, fun l hl => by have := allW_lt h l hl; omega⟩) (cl_lwD _)
  refine ⟨_, _, _, e5, _, _, _, sp_words_of (n := law_lvl) (by decide) hL1 (by omega) (by omega) (by omega), _, _, _, e6, ?_⟩
  cases fl <;> exact ⟨_, _, _, e7, rfl⟩
theorem law_true : LawTrue FF es law_lvl lawN lawBody := fun rows h24 h144 => by
  obtain ⟨f, s, e, q⟩ := wSs_ok _ _ _ _ _ (law_ok1 h24 h144)
  cases f with
  | rt fl d =>
    have q : d = .bl true := q
    subst q
    exact ⟨fl, s, e⟩
  | _ => exact q.elim
end K
namespace K
open PySem PySem.Spec PyProof.Rows L2 Mp
/-! ### the pool's defs, as they stand in the text -/
section
variable {P : Program} {w : World} {K : PySem.W.Frag} {mg : Str → Option Value} {base : Heap}
abbrev sCell : Stmt := topS 17
abbrev sNumbers : Stmt := topS 18
abbrev sPool : Stmt := topS 19
abbrev sDraw : Stmt := topS 20
theorem sc_cell : FnScope ["script", "k"] ["script", "k"] (defScope sCell) := scope_ok (by decide +kernel)
theorem sc_numbers : FnScope ["cell", "many", "rows", "left", "k", "mixed"] ["cell", "many"] (defScope sNumbers) := scope_ok (by decide +kernel)
theorem sc_pool : FnScope ["script", "rows", "k"] ["script"] (defScope sPool) := scope_ok (by decide +kernel)
theorem sc_draw : FnScope ["pool", "many", "at", "turn"] ["pool", "many"] (defScope sDraw) := scope_ok (by decide +kernel)
theorem ok_cell {f : Addr} {fd : FuncData} (F : FnP K "_law_cell" sCell f fd) (ml : mg "len" = none) : FnOk P w K mg base CX0 1 f fd ["script", "k"] (spCell K) := by
  refine F.ok sc_cell (fun vs H Q E h => ?_) (fun cdv A outer s H vs Q E hr h => ?_)
  · obtain ⟨a, ns, k, rfl, _⟩ := h
    rfl
  · obtain ⟨a, ns, k, rfl, hS, q⟩ := h
    refine ⟨_, PSs.nox (pss_cons (ps_if (pt_cmpR op_lt (pv 1) (pe_callB call_len_seq (by rfl) ml PySem.boot_len (pa_cons (pv 0) pa_nil)) (nomark _)) (pss_one (ps_ret (pe_ix ix_list (pv 0) (pv 1) (fun _ _ => rfl)))) pss_nil) (pss_one (ps_ret pe_int))), ?_⟩
    refine ⟨_, rfl, _, rfl, a, _, rfl, .inl hS, _, _, rfl, rfl, _, rfl, ite2 (fun e => ?_) (fun _ => q 0)⟩
    have hk : k < ns.length := by
      have e1 := of_decide_eq_true e
      rw [List.length_map] at e1
      exact Int.ofNat_lt.mp e1
    refine ⟨_, rfl, _, rfl, a, _, _, .int ns[k], rfl, rfl, hS, atI_nat ?_, q _⟩
    rw [List.getElem?_map, List.getElem?_eq_getElem hk]
    rfl
theorem ok_numbers {f : Addr} {fd : FuncData} (F : FnP K "_law_numbers" sNumbers f fd) (mr : mg "range" = none) (mi : mg "int" = none) : FnOk P w K mg base CX0 1 f fd ["cell", "many"] spNumbers := by
  refine F.ok sc_numbers (fun vs H Q E h => ?_) (fun cdv A outer s H vs Q E hr h => ?_)
  · obtain ⟨c, m, rfl, _⟩ := h
    rfl
  · obtain ⟨cell, many, rfl, hm, q⟩ := h
    refine ⟨_, PSs.nox (pss_cons (ps_set (i := 2) sc_numbers.nd rfl (.inl rfl) (pe_lst pa_nil)) (pss_cons (ps_set (i := 3) sc_numbers.nd rfl (.inl rfl) (pv 0))
      (pss_cons (ps_for PassesOwn.never rfl (pi_range1 (by rfl) mr (pa_cons (pv 1) pa_nil)) (pg_name (i := 4) sc_numbers.nd rfl (.inl rfl))
        (pss_one (ps_if (PW.pt (pw_and (pt_cmpR op_ge (pv 0) (pe_op op_pow pe_int pe_int) (nomark _)) (pw_and1 (pt_cmpR op_gt (pv 3) pe_int (nomark _)))))
          (pss_cons (ps_expr (pe_bm PySem.F.plainAttrs_list PySem.F.slot_list_append PySem.F.type_list_append mt_append (pv 2) (pa_cons (pe_op op_mod (pe_callTy call_int1 (by rfl) mi boot_int (pa_cons (pv 3) pa_nil)) pe_int) pa_nil)))
            (pss_one (ps_set (i := 3) sc_numbers.nd rfl (.inl rfl) (pe_op op_fdiv (pv 3) pe_int))))
          (pss_cons (ps_set (i := 5) sc_numbers.nd rfl (.inl rfl) (pe_op op_mod (pe_callTy call_int1 (by rfl) mi boot_int (pa_cons (pe_op op_add (pe_op op_mul (pv 0) pe_int) (pe_op op_mul (pe_op op_add (pv 4) pe_int) pe_int)) pa_nil)) pe_int))
          (pss_cons (ps_set (i := 5) sc_numbers.nd rfl (.inl rfl) (pe_op op_mod (pe_callTy call_int1 (by rfl) mi boot_int (pa_cons (pe_op op_add (pe_op op_add (pe_op op_mul (pv 5) (pv 5)) (pe_op op_mul (pv 5) pe_int)) (pe_op op_mul (pv 4) pe_int)) pa_nil)) pe_int))
          (pss_cons (ps_set (i := 5) sc_numbers.nd rfl (.inl rfl) (pe_op op_mod (pe_callTy call_int1 (by rfl) mi boot_int (pa_cons (pe_op op_add (pe_op op_add (pe_op op_mul (pv 5) (pv 5)) (pv 0)) (pe_op op_mul pe_int (pv 4))) pa_nil)) pe_int))
          (pss_one (ps_expr (pe_bm PySem.F.plainAttrs_list PySem.F.slot_list_append PySem.F.type_list_append mt_append (pv 2) (pa_cons (pe_op op_mod (pe_op op_fdiv (pv 5) pe_int) pe_int) pa_nil))))))))))
      (pss_one (ps_ret (pv 2)))))), ?_⟩
    refine ⟨Nat.zero_le _, fun o no => ?_⟩
    refine ⟨_, rfl, _, rfl, _, rfl, by omega, by omega, for_range (lo := 0) (n := ((many : Nat) : Int).toNat) (fun i σ H' => ∃ (left : Int) (y z : Option V) (ns : List Int), σ = [some (.int cell), some (.int (many : Nat)), some (.ref o), some (.int left), y, z] ∧ Same H H' ∧ H' o = some (.lst (ns.map V.int)) ∧ ns.length = i)
      ⟨cell, none, none, [], rfl, same_new no, upd_same, rfl⟩ ?_ ?_⟩
    · rintro i σ H' hi ⟨left, y, z, ns, rfl, sm, ho, hn⟩
      have him : i < many := by simpa using hi
      have app : ∀ {x : Int} {H2 : Hp} {l : Int} {y z : Option V}, Same H H' → H' o = some (.lst (ns.map V.int)) → ∃ (left : Int) (y' z' : Option V) (ns' : List Int), [some (V.int cell), some (.int (many : Nat)), some (.ref o), some (.int l), y, z] = [some (V.int cell), some (.int (many : Nat)), some (.ref o), some (.int left), y', z'] ∧ Same H (upd H' o (.lst (ns.map V.int ++ [.int x]))) ∧ (upd H' o (.lst (ns.map V.int ++ [.int x]))) o = some (.lst (ns'.map V.int)) ∧ ns'.length = i + 1 :=
        fun {x H2 l y z} sm ho => ⟨l, y, z, ns ++ [x], rfl, fun b u e => by
          rw [upd_ne (ne_of_none e no)]
          exact sm b u e, by rw [upd_same, List.map_append]; rfl, by rw [List.length_append, hn]; rfl⟩
      have hz : (ns.map V.int).length < sizeLine := by
        rw [List.length_map, hn]
        exact Nat.lt_of_lt_of_le (show i < 1001 by omega) (by decide)
      refine ⟨_, rfl, _, _, rfl, rfl, ⟨by decide, by decide, by decide⟩, _, _, rfl, rfl, _, rfl, ite2 (fun _ => ⟨_, rfl, _, _, rfl, rfl, _, rfl, ite2 (fun _ => ?_) (fun _ => ?_)⟩) (fun _ => ?_)⟩
      · refine ⟨_, rfl, .inl ⟨rfl, _, sqL_of ho⟩, ⟨_, rfl, .inl ⟨_, rfl, _, _, rfl, rfl, (by show (0 : Int) < _; decide), o, _, _, rfl, rfl, ho, hz, ?_⟩⟩⟩
        exact ⟨_, rfl, _, _, rfl, rfl, ⟨by decide, by decide⟩, app (H2 := H') sm ho⟩
      all_goals
        refine ⟨_, rfl, _, _, rfl, rfl, .inr ⟨by decide, by decide⟩, _, rfl, _, _, rfl, rfl, _, _, rfl, rfl, .inr ⟨by decide, by decide⟩, _, _, rfl, rfl, .inl ⟨_, rfl, _, _, rfl, rfl, (by show (0 : Int) < _; decide), ?_⟩⟩
        generalize hm1 : (cell * 69621 + (0 + (i : Int) + 1) * 48271) % 2147483647 = m1
        have b1 : 0 ≤ m1 ∧ m1 < 2147483647 := by
          rw [← hm1]
          exact ⟨Int.emod_nonneg _ (by decide), Int.emod_lt_of_pos _ (by decide)⟩
        refine ⟨_, rfl, _, rfl, _, _, rfl, rfl, .inl ⟨by omega, by omega⟩, _, rfl, _, _, rfl, rfl, .inr ⟨by decide, by decide⟩, _, _, rfl, rfl, _, rfl, _, _, rfl, rfl, .inr ⟨by decide, by decide⟩, _, _, rfl, rfl, .inl ⟨_, rfl, _, _, rfl, rfl, (by show (0 : Int) < _; decide), ?_⟩⟩
        generalize hm2 : (m1 * m1 + m1 * 16807 + (0 + (i : Int)) * 7919) % 2147483629 = m2
        have b2 : 0 ≤ m2 ∧ m2 < 2147483629 := by
          rw [← hm2]
          exact ⟨Int.emod_nonneg _ (by decide), Int.emod_lt_of_pos _ (by decide)⟩
        refine ⟨_, rfl, _, rfl, _, _, rfl, rfl, .inl ⟨by omega, by omega⟩, _, rfl, _, _, rfl, rfl, _, rfl, _, _, rfl, rfl, .inl ⟨by decide, by decide⟩, _, _, rfl, rfl, .inl ⟨_, rfl, _, _, rfl, rfl, (by show (0 : Int) < _; decide), ?_⟩⟩
        refine ⟨_, rfl, .inl ⟨rfl, _, sqL_of ho⟩, ⟨_, rfl, _, _, rfl, rfl, ⟨by decide, by decide⟩, _, _, rfl, rfl, (by show (0 : Int) < _; decide), o, _, _, rfl, rfl, ho, hz, ?_⟩⟩
        exact app (H2 := H') sm ho
    · rintro σ H' ⟨left, y, z, ns, rfl, sm, ho, hn⟩
      exact ⟨_, rfl, q H' o ns sm no ho (by simpa using hn)⟩
theorem ok_pool {f fc fn : Addr} {fd fdc fdn : FuncData} (F : FnP K "_law_pool" sPool f fd) (Fc : FnP K "_law_cell" sCell fc fdc) (Fn : FnP K "_law_numbers" sNumbers fn fdn) (bc : BindB "_law_cell" sCell ["script", "k"]) (bn : BindB "_law_numbers" sNumbers ["cell", "many"]) (gc : mg "_law_cell" = some (.ref fc)) (gn : mg "_law_numbers" = some (.ref fn))
    (ml : mg "len" = none) (mr : mg "range" = none) (mi : mg "int" = none) (mn : mg "min" = none) (mx : mg "max" = none) : FnOk P w K mg base CX0 2 f fd ["script"] (spPool K) := by
  have Gc : FnOk P w K mg base CX0 1 fc fdc ["script", "k"] (spCell K) := ok_cell Fc ml
  have Gn : FnOk P w K mg base CX0 1 fn fdn ["cell", "many"] spNumbers := ok_numbers Fn mr mi
  refine F.ok sc_pool (fun vs H Q E h => ?_) (fun cdv A outer s H vs Q E hr h => ?_)
  · obtain ⟨a, ns, rfl, _⟩ := h
    rfl
  · obtain ⟨a, ns, rfl, hS, q⟩ := h
    refine ⟨_, PSs.nox (pss_cons (ps_set (i := 1) sc_pool.nd rfl (.inl rfl) (pe_lst pa_nil))
      (pss_cons (ps_for PassesOwn.never rfl (pi_range1 (by rfl) mr (pa_cons (pe_callB (call_min2 rfl) (by rfl) mn (by decide +kernel) (pa_cons pe_int (pa_cons (pe_callB (call_max2 rfl) (by rfl) mx (by decide +kernel) (pa_cons pe_int (pa_cons (pe_callB call_len_seq (by rfl) ml PySem.boot_len (pa_cons (pv 0) pa_nil)) pa_nil))) pa_nil))) pa_nil)) (pg_name (i := 2) sc_pool.nd rfl (.inl rfl))
        (pss_one (ps_set (i := 1) sc_pool.nd rfl (.inl rfl) (pe_op op_cat (pv 1) (pe_call (E := E0) Gn hr (by rfl) gn Fn.kp (FunD.bindsN Fn bn) .nil pass0 (pa_cons (pe_op op_add (pe_call (E := E0) Gc hr (by rfl) gc Fc.kp (FunD.bindsN Fc bc) .nil pass0 (pa_cons (pv 0) (pa_cons (pv 2) pa_nil))) (pe_op op_mul pe_int (pv 2))) (pa_cons pe_int pa_nil)))))))
      (pss_one (ps_ret (pe_lst (pa_cons (pv 1) (pa_cons (pe_lst (pa_cons pe_int pa_nil)) pa_nil))))))), ?_⟩
    refine ⟨Nat.zero_le _, fun o no => ?_⟩
    refine ⟨_, rfl, a, _, rfl, .inl ((Same.seq (same_new no) hS)), 1, _, rfl, 6, _, rfl, ?_⟩
    generalize hz : (if (if ((ns.map V.int).length : Int) > 1 then ((ns.map V.int).length : Int) else 1) < 6 then (if ((ns.map V.int).length : Int) > 1 then ((ns.map V.int).length : Int) else 1) else 6) = z
    have bz : 1 ≤ z ∧ z ≤ 6 := by
      rw [← hz]
      split <;> split at * <;> omega
    refine ⟨z, rfl, by omega, by omega, for_range (lo := 0) (n := z.toNat) (fun i σ H' => ∃ (y : Option V) (l : Addr) (rows : List Int), σ = [some (.ref a), some (.ref l), y] ∧ Same H H' ∧ H l = none ∧ H' l = some (.lst (rows.map V.int)) ∧ rows.length = 24 * i)
      ⟨none, o, [], rfl, same_new no, no, upd_same, rfl⟩ ?_ ?_⟩
    · rintro i σ H' hi ⟨y, l, rows, rfl, sm, nl, hl, hlen⟩
      have hi6 : i < 6 := by omega
      refine ⟨_, rfl, _, rfl, _, rfl, a, ns, i, by rw [Int.zero_add]; rfl, Same.seq sm hS, fun n => ?_⟩
      refine ⟨_, rfl, _, _, rfl, rfl, .inl ⟨by decide, by decide⟩, _, _, rfl, rfl, _, 24, rfl, by decide, fun H2 p ns2 sm2 np hp hn2 => ?_⟩
      refine ⟨l, p, rows.map V.int, ns2.map V.int, rfl, rfl, sm2 _ _ hl, hp, ?_, fun p2 np2 => ?_⟩
      · rw [List.length_map, List.length_map, hlen, hn2]
        exact Nat.le_trans (show 24 * i + 24 ≤ 1000 by omega) (by decide)
      · refine ⟨_, p2, rows ++ ns2, rfl, ((sm.trans sm2).trans (same_new np2)), (sm.trans sm2).free np2, by rw [upd_same, List.map_append], by rw [List.length_append, hlen, hn2]; omega⟩
    · rintro σ H' ⟨y, l, rows, rfl, sm, nl, hl, hlen⟩
      refine ⟨_, rfl, (by show 1 ≤ sizeLine; decide), fun c nc => ⟨(by show 2 ≤ sizeLine; decide), fun p np => ?_⟩⟩
      have s1 : Same H' (upd H' c (.lst [.int 0])) := same_new nc
      have s2 := same_new (o := .lst [.ref l, .ref c]) np
      have npc : c ≠ p := fun e => by rw [e, upd_same] at np; cases np
      refine q _ p l c rows ((sm.trans s1).trans s2) ((sm.trans s1).free np) nl (sm.free nc) upd_same (s2 _ _ (s1 _ _ hl)) ?_ (by omega) (by omega)
      rw [upd_ne npc, upd_same]
      rfl
theorem ok_draw {f : Addr} {fd : FuncData} (F : FnP K "_law_draw" sDraw f fd) (ml : mg "len" = none) (mi : mg "int" = none) : FnOk P w K mg base CX0 1 f fd ["pool", "many"] (spOf K 2 drawF) := by
  refine F.ok sc_draw (fun vs H Q E h => ?_) (fun cdv A outer s H vs Q E hr h => ?_)
  · obtain ⟨_, _, _, _, _, _, _, _, hl, _⟩ := h
    exact hl
  · obtain ⟨g, S, ds, w', fl, z, w2, hK, hl, sb, r, ev, q⟩ := h
    unfold drawF at ev
    split at ev
    · rename_i m
      split at ev
      · rename_i hc
        cases ev
        obtain ⟨c1, c2, c3, c4⟩ := hc
        obtain ⟨v0, _, rfl, h0, v1, _, rfl, h1, rfl⟩ := r
        have e0 : v0 = .ref g.p := h0
        have e1 : v1 = .int m := h1
        subst e0 e1
        obtain ⟨wp, wr, wc, nrc⟩ := sb.w
        have npc : g.p ≠ g.c := sb.w.pc
        refine ⟨_, PSs.nox (pss_cons (ps_set (i := 2) sc_draw.nd rfl (.inl rfl) (pe_ix ix_list (pe_ix ix_list (pv 0) pe_int (fun _ _ => rfl)) pe_int (fun _ _ => rfl)))
          (pss_cons (ps_asg (pe_op op_add (pv 2) pe_int) (pg_sub (pe_ix ix_list (pv 0) pe_int (fun _ _ => rfl)) pe_int set_list))
          (pss_cons (ps_set (i := 3) sc_draw.nd rfl (.inl rfl) (pe_op op_fdiv (pv 2) (pe_callB call_len_seq (by rfl) ml PySem.boot_len (pa_cons (pe_ix ix_list (pv 0) pe_int (fun _ _ => rfl)) pa_nil))))
          (pss_one (ps_ret (pe_op op_mod (pe_callTy call_int1 (by rfl) mi boot_int (pa_cons (pe_op op_add (pe_op op_add (pe_ix ix_list (pe_ix ix_list (pv 0) pe_int (fun _ _ => rfl)) (pe_op op_mod (pv 2) (pe_callB call_len_seq (by rfl) ml PySem.boot_len (pa_cons (pe_ix ix_list (pv 0) pe_int (fun _ _ => rfl)) pa_nil))) (fun _ _ => rfl)) (pe_op op_mul (pv 3) pe_int)) (pe_op op_mul (pe_op op_mul (pv 3) (pv 2)) pe_int)) pa_nil)) (pv 1))))))), ?_⟩
        refine ⟨_, rfl, g.p, _, 1, _, rfl, rfl, sqL_of wp, rfl, g.c, _, 0, _, rfl, rfl, sqL_of wc, rfl, ?_⟩
        refine ⟨_, rfl, _, _, rfl, rfl, _, rfl, g.p, _, 1, _, rfl, rfl, sqL_of wp, rfl, g.c, _, 0, 0, rfl, rfl, wc, rfl, ?_⟩
        have wp' : (upd H g.c (.lst [V.int (((w'.n : Nat) : Int) + 1)])) g.p = some (.lst [.ref g.r, .ref g.c]) := by rw [upd_ne npc]; exact wp
        have wr' : (upd H g.c (.lst [V.int (((w'.n : Nat) : Int) + 1)])) g.r = some (.lst (w'.rows.map V.int)) := by rw [upd_ne nrc]; exact wr
        have hlen : ((w'.rows.map V.int).length : Int) = ((w'.rows.length : Nat) : Int) := by rw [List.length_map]
        refine ⟨_, rfl, _, rfl, g.p, _, 0, _, rfl, rfl, sqL_of wp', rfl, g.r, _, rfl, .inl (sqL_of wr'), _, _, rfl, rfl, ⟨by rw [hlen]; omega, by rw [hlen]; omega⟩, ?_⟩
        have hmod : w'.n % w'.rows.length < w'.rows.length := Nat.mod_lt _ c3
        refine ⟨_, rfl, g.p, _, 0, _, rfl, rfl, sqL_of wp', rfl, _, rfl, _, rfl, g.p, _, 0, _, rfl, rfl, sqL_of wp', rfl, g.r, _, rfl, .inl (sqL_of wr'), _, _, rfl, rfl, by rw [hlen]; omega, g.r, _, _, .int w'.rows[w'.n % w'.rows.length], rfl, rfl, sqL_of wr', ?_, ?_⟩
        · rw [hlen, ← Int.natCast_emod]
          refine atI_nat ?_
          rw [List.getElem?_map, List.getElem?_eq_getElem hmod]
          rfl
        have hdiv : ((w'.n : Nat) : Int) / ((w'.rows.map V.int).length : Int) = ((w'.n / w'.rows.length : Nat) : Int) := by rw [hlen, Int.natCast_ediv]
        have hle : w'.n / w'.rows.length ≤ w'.n := Nat.div_le_self _ _
        have hb : -(2 ^ 64) < ((w'.n / w'.rows.length : Nat) : Int) ∧ ((w'.n / w'.rows.length : Nat) : Int) < 2 ^ 64 := by
          generalize w'.n / w'.rows.length = e at hle ⊢
          omega
        refine ⟨_, rfl, _, _, rfl, rfl, .inr ⟨by decide, by decide⟩, _, _, rfl, rfl, _, rfl, _, rfl, _, _, rfl, rfl, .inl (by rw [hdiv]; exact hb), _, _, rfl, rfl, .inr ⟨by decide, by decide⟩, _, _, rfl, rfl, .inl ⟨_, rfl, _, rfl, _, _, rfl, rfl, c1, ?_⟩⟩
        refine q _ _ (fun b o nb e => by rw [upd_ne nb]; exact e) ⟨wp', wr', upd_same, nrc⟩ ?_
        show V.int _ = V.int (drawn w'.rows w'.n m)
        unfold drawn
        rw [hdiv, List.getElem?_eq_getElem hmod]
        rfl
      · cases ev
    · cases ev
end
/-! ### the head and the join -/
abbrev defs : List (Str × Stmt) := ([("_law_cell", sCell), ("_law_numbers", sNumbers), ("_law_pool", sPool), ("law", sLaw)] : List (Str × Stmt)) ++ es.map fun e => (e.name, e.st)
theorem defs_ok : es.all (fun e => match e with
    | .ir d => defB gs (es.map Mp.Entry.name) d
    | .draw _ => true) = true := by decide +kernel
theorem sc_law : FnScope lawN ["script"] (defScope sLaw) := scope_ok (by decide +kernel)
theorem law_chk : chkSs ⟨lawN, defScope sLaw, fun _ => true, gs, es.map Mp.Entry.name⟩ lawBody (defBody sLaw).tail = true := by decide +kernel
abbrev fnH : List He.DefD := defs.map defD
abbrev faH : List He.Fa := faOf gs defs
abbrev RowH : PySem.W.OpenRow := PySem.W.OpenLaw.row PySem.Challenge.rw_toldbytrials_k01_machines_told
abbrev hk : PySem.W.Hook := He.hookD 4 faH fnH
def ob (s : PySem.W.SharedT) : He.AlD := He.obsDG 4 faH fnH (HandSHeadRun.getT s)
theorem ob_eq (s : PySem.W.SharedT) : ob s = hk.obs s.abs := He.obsDG_eq (HandSHeadRun.getT_eq s)
theorem run (w : World) : HandSHeadRun.RunEq RowH (PySem.W.view RowH.prog [lawAt]) hk ob 1200 loose w := by
  intro os
  kernel_rfl
theorem law_st : defBody sLaw = ((defBody sLaw).head (by decide +kernel)) :: (defBody sLaw).tail := (List.cons_head_tail _).symm
section
variable {P : Program} {w : World} {K : PySem.W.Frag} {h : Heap} {mg : Str → Option Value} {f : Addr}
theorem facts {F n : Nat} (hn : 2 ≤ n) (law : LawTrue F es n lawN lawBody) (X : K.In h) (G : h.Ns mainGlobals mg) (hfa : mg ("law" : Str) = some (.ref f)) (c : He.SaysD faH fnH K) :
    ∃ fd : FuncData, (∀ (s : Shared) (v : Value), BindsTo s fd ⟨[v], []⟩ [("script", v)]) ∧ ∀ base : Heap, K.In base → base.Ns mainGlobals mg → FnOk P w K mg base CX0 (n + 1) f fd ["script"] (spLaw K) := by
  obtain ⟨fl, fd, gl, D⟩ := said_def X G c (x := "law") (st := sLaw) (.tail _ (.tail _ (.tail _ (.head _))))
  obtain ⟨fc, fdc, gc, Dc⟩ := said_def X G c (x := "_law_cell") (st := sCell) (.head _)
  obtain ⟨fm, fdm, gm, Dm⟩ := said_def X G c (x := "_law_numbers") (st := sNumbers) (.tail _ (.head _))
  obtain ⟨fp, fdp, gp, Dp⟩ := said_def X G c (x := "_law_pool") (st := sPool) (.tail _ (.tail _ (.head _)))
  have free : ∀ x ∈ fbs, mg x = none := fun x hx => said_free X G c hx
  cases hfa.symm.trans gl
  refine ⟨fd, fun s v => FunD.bindsA (ps := ["script"]) D (fun _ _ _ _ _ _ us hl => match us, hl with | [_], _ => rfl) s [v] rfl, fun base _ _ => ?_⟩
  have T : Top P w K mg base gs es := top_of X G c (by decide +kernel) (fun e he => List.mem_append_right _ (List.mem_map.mpr ⟨e, he, rfl⟩)) binds (df_of defs_ok) (fun st f fd hm F => by
    have e : st = sDraw := drawSt st hm
    subst e
    exact ok_draw F (free _ (by decide +kernel)) (free _ (by decide +kernel)))
  refine law_ok T D law_st sc_law law_chk (by decide +kernel) (Nat.le_refl n |> fun _ => hn) (fun Z hN nd hs hc hK hm hP hw hb hf hr Fp => ?_)
    (ok_pool Dp Dc Dm bd_law_cell bd_law_numbers gc gm (free _ (by decide +kernel)) (free _ (by decide +kernel)) (free _ (by decide +kernel)) (free _ (by decide +kernel)) (free _ (by decide +kernel))) law
  subst hK hm hP hw hb
  have bp : BindB "_law_pool" sPool ["script"] := fun _ _ _ _ _ _ us hl => match us, hl with | [_], _ => rfl
  have l2 : L2.Loc Z.env.scope "pool" := by rw [hs]; unfold L2.Loc; decide +kernel
  have l3 : L2.Gl Z "_law_pool" := by unfold L2.Gl; show Z.env.scope.names.lookup _ = _; rw [hs]; decide +kernel
  have l4 : Vis Z.env.scope "script" := by rw [hs]; unfold Vis; decide +kernel
  have l0 : Z.N[0]? = some ("script" : Str) := by rw [hN]; decide +kernel
  have l1 : Z.N[1]? = some ("pool" : Str) := by rw [hN]; decide +kernel
  refine ps_set (i := 1) nd l1 l2 (pe_call (E := E0) Fp hr l3 gp Dp.kp (FunD.bindsN Dp bp) .nil pass0 (pa_cons (pe_var l0 l4) pa_nil)) ?_ (by rw [hf]; exact .inl rfl)
  rfl
end
end K
open PySem PySem.W PySem.Calls PyProof.Rows
theorem PySem.Challenge.cw_toldbytrials_k01_machines_told_holds : PySem.Challenge.rw_toldbytrials_k01_machines_told.Holds := by
  w_on; o_law
  refine HandSHeadRun.head_any (r := OpenLaw.row PySem.Challenge.rw_toldbytrials_k01_machines_told) (q := view (OpenLaw.row PySem.Challenge.rw_toldbytrials_k01_machines_told).prog [37]) (H := K.hk) (ob := K.ob) (M := 1200) (loose := K.loose) (d := HandSHeadRun.topDef (OpenLaw.row PySem.Challenge.rw_toldbytrials_k01_machines_told).prog 37) (kwd := []) K.ob_eq
    (by kernel_rfl) (fun s => by kernel_rfl) K.run (by kernel_rfl) (by kernel_rfl) (by kernel_rfl) (by rfl) (by first | assumption | decide +kernel) (by decide +kernel) ⟨rfl, rfl, rfl, rfl, rfl, by decide +kernel⟩ ?hw ?hc
  case hw => w_witness2
  case hc =>
    refine L2.walk_ofE (l := PySem.Challenge.rw_toldbytrials_k01_machines_told) (n := 63) (k := K.law_lvl + 1) (x := "script") (CX := L2.CX0) rfl (by decide) (by kernel_rfl) ⟨rfl, by decide, by decide⟩ ?F (fun _ _ _ _ z => z)
    intro w mg fa h Y G hmg0
    obtain ⟨K', KX, c⟩ := Y
    have hmg : mg ("law" : PySem.Str) = some (.ref fa) := by
      have e : (HandSHeadRun.topDef (OpenLaw.row PySem.Challenge.rw_toldbytrials_k01_machines_told).prog 37).name = ("law" : PySem.Str) := by kernel_rfl
      rw [← e]
      exact hmg0
    obtain ⟨fd, hb, hF⟩ := K.facts (P := (PySem.Challenge.rw_toldbytrials_k01_machines_told).prog) (w := w) (by decide) K.law_true KX G hmg c
    exact ⟨K', fd, Mp.spLaw K', KX, hb, fun H a ns hl _ hS => ⟨a, ns, rfl, hS, hl, fun _ => rfl⟩, hF⟩
