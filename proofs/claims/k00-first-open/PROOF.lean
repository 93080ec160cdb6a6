import PyProof.Rows.All
import Wide.All
import OpenK.AllK
import Wide.FinOn
import HandS.ForMost
import HandS.ForExc
import HandS.Deep
import HandS.SortInts
import HandS.Conv
import HandS.IsInst
import KE.SortData
import KE.Datum
import PySem.Challenge.RW_tiedrings_k00_first_open
set_option Elab.async false
set_option linter.all false
set_option maxRecDepth 100000
set_option maxHeartbeats 1000000
namespace UL
open PySem PySem.Spec PyProof.Rows L2

/-- values as plain data -/
inductive U where
  | non | bl (b : Bool) | int (i : Int) | str (x : Str) | lst (xs : List U) | tup (xs : List U) | scr (ns : List Int)
/-- an exception -/
structure Ex where
  cls : Nat
  arg : U
inductive Res (α : Type) where
  | ok (a : α) | exn (e : Ex) | bad
namespace Res
def bind {α β : Type} (m : Res α) (k : α → Res β) : Res β := match m with
  | .ok a => k a
  | .exn e => .exn e
  | .bad => .bad
instance : Monad Res where
  pure := Res.ok
  bind := Res.bind
/-- what is wanted of an outcome -/
def Len {α : Type} (m : Res α) (P : α → Prop) (X : Ex → Prop) : Prop := match m with
  | .ok a => P a
  | .exn e => X e
  | .bad => False
variable {α β : Type} {m : Res α} {k : α → Res β} {P : β → Prop} {X : Ex → Prop}
theorem len_bind : (m >>= k).Len P X = m.Len (fun a => (k a).Len P X) X := by cases m <;> rfl
@[simp] theorem ok_bind {a : α} {k : α → Res β} : (Res.ok a >>= k) = k a := (rfl)
@[simp] theorem exn_bind {e : Ex} {k : α → Res β} : ((Res.exn e : Res α) >>= k) = Res.exn e := (rfl)
@[simp] theorem bad_bind {k : α → Res β} : ((Res.bad : Res α) >>= k) = Res.bad := (rfl)
@[simp] theorem pure_eq {a : α} : (pure a : Res α) = Res.ok a := (rfl)
theorem Len.mono {P' : α → Prop} {P : α → Prop} {X : Ex → Prop} (h : m.Len P X) (hp : ∀ a, m = .ok a → P a → P' a) : m.Len P' X := by
  cases m with
  | ok a => exact hp a rfl h
  | exn e => exact h
  | bad => exact h
end Res

/-! ### values in a heap -/
mutual
inductive Rep (K : PySem.W.Frag) (F : Hp) : V → U → Prop
  | non : Rep K F .non .non
  | bl (b : Bool) : Rep K F (.bl b) (.bl b)
  | int (i : Int) : Rep K F (.int i) (.int i)
  | str (x : Str) : Rep K F (.str x) (.str x)
  | lst {a : Addr} {xs : List V} {us : List U} : F a = some (.lst xs) → RepL K F xs us → Rep K F (.ref a) (.lst us)
  | tup {a : Addr} {xs : List V} {us : List U} : SqT K F a xs → RepL K F xs us → Rep K F (.ref a) (.tup us)
  | scr {a : Addr} {ns : List Int} : SqL K F a (ns.map V.int) → Rep K F (.ref a) (.scr ns)
inductive RepL (K : PySem.W.Frag) (F : Hp) : List V → List U → Prop
  | nil : RepL K F [] []
  | cons {v : V} {u : U} {vs : List V} {us : List U} : Rep K F v u → RepL K F vs us → RepL K F (v :: vs) (u :: us)
end

def Sub (F F' : Hp) : Prop := ∀ a o, F a = some o → F' a = some o
theorem Sub.refl (F : Hp) : Sub F F := fun _ _ h => h
theorem Sub.trans {A B C : Hp} (x : Sub A B) (y : Sub B C) : Sub A C := fun a o h => y a o (x a o h)
theorem Sub.rd {F F' : Hp} (e : Sub F F') {a : Addr} {u : HO} (h : Rd F a u) : Rd F' a u := by
  rcases h with h | ⟨o, h⟩
  · exact .inl (e _ _ h)
  · exact .inr ⟨o, e _ _ h⟩
theorem Sub.sl {K : PySem.W.Frag} {F F' : Hp} (e : Sub F F') {a : Addr} {xs : List V} (h : SqL K F a xs) : SqL K F' a xs := by
  rcases h with h | h
  · exact .inl (e.rd h)
  · exact .inr h
theorem Sub.st {K : PySem.W.Frag} {F F' : Hp} (e : Sub F F') {a : Addr} {xs : List V} (h : SqT K F a xs) : SqT K F' a xs := by
  rcases h with h | h
  · exact .inl (e.rd h)
  · exact .inr h
section
variable {K : PySem.W.Frag} {F F' : Hp}
mutual
theorem Rep.mono (e : Sub F F') : ∀ {v : V} {u : U}, Rep K F v u → Rep K F' v u
  | _, _, .non => .non
  | _, _, .bl b => .bl b
  | _, _, .int i => .int i
  | _, _, .str x => .str x
  | _, _, .lst h r => .lst (e _ _ h) (RepL.mono e r)
  | _, _, .tup h r => .tup (e.st h) (RepL.mono e r)
  | _, _, .scr h => .scr (e.sl h)
theorem RepL.mono (e : Sub F F') : ∀ {vs : List V} {us : List U}, RepL K F vs us → RepL K F' vs us
  | _, _, .nil => .nil
  | _, _, .cons h r => .cons (Rep.mono e h) (RepL.mono e r)
end
theorem RepL.length : ∀ {vs : List V} {us : List U}, RepL K F vs us → vs.length = us.length
  | _, _, .nil => rfl
  | _, _, .cons _ r => by rw [List.length_cons, List.length_cons, RepL.length r]
theorem RepL.get : ∀ {vs : List V} {us : List U} {i : Nat} {u : U}, RepL K F vs us → us[i]? = some u → ∃ v, vs[i]? = some v ∧ Rep K F v u
  | _, _, _, _, .nil, h => by simp at h
  | _, _, 0, u, .cons r _, h => by simp at h; subst h; exact ⟨_, rfl, r⟩
  | _, _, i + 1, u, .cons _ t, h => by
    obtain ⟨v, h1, h2⟩ := RepL.get (i := i) (u := u) t (by simpa using h)
    exact ⟨v, by simpa using h1, h2⟩
theorem RepL.getV : ∀ {vs : List V} {us : List U} {i : Nat} {v : V}, RepL K F vs us → vs[i]? = some v → ∃ u, us[i]? = some u ∧ Rep K F v u
  | _, _, _, _, .nil, h => by simp at h
  | _, _, 0, u, .cons r _, h => by simp at h; subst h; exact ⟨_, rfl, r⟩
  | _, _, i + 1, u, .cons _ t, h => by
    obtain ⟨v, h1, h2⟩ := RepL.getV (i := i) (v := u) t (by simpa using h)
    exact ⟨v, by simpa using h1, h2⟩
theorem RepL.append : ∀ {vs ws : List V} {us xs : List U}, RepL K F vs us → RepL K F ws xs → RepL K F (vs ++ ws) (us ++ xs)
  | _, _, _, _, .nil, s => s
  | _, _, _, _, .cons r t, s => .cons r (RepL.append t s)
theorem RepL.take : ∀ {vs : List V} {us : List U} (n : Nat), RepL K F vs us → RepL K F (vs.take n) (us.take n)
  | _, _, 0, _ => by rw [List.take_zero, List.take_zero]; exact .nil
  | _, _, _ + 1, .nil => .nil
  | _, _, n + 1, .cons r t => .cons r (RepL.take n t)
theorem RepL.drop : ∀ {vs : List V} {us : List U} (n : Nat), RepL K F vs us → RepL K F (vs.drop n) (us.drop n)
  | _, _, 0, r => r
  | _, _, _ + 1, .nil => .nil
  | _, _, n + 1, .cons _ t => RepL.drop n t
theorem RepL.set {v : V} {u : U} (r : Rep K F v u) : ∀ {vs : List V} {us : List U} (i : Nat), RepL K F vs us → RepL K F (vs.set i v) (us.set i u)
  | _, _, _, .nil => .nil
  | _, _, 0, .cons _ t => .cons r t
  | _, _, i + 1, .cons q t => .cons q (RepL.set r i t)
theorem RepL.eraseIdx : ∀ {vs : List V} {us : List U} (i : Nat), RepL K F vs us → RepL K F (vs.eraseIdx i) (us.eraseIdx i)
  | _, _, _, .nil => .nil
  | _, _, 0, .cons _ t => t
  | _, _, i + 1, .cons q t => .cons q (RepL.eraseIdx i t)
theorem RepL.dropLast : ∀ {vs : List V} {us : List U}, RepL K F vs us → RepL K F vs.dropLast us.dropLast := fun {vs us} r => by
  rw [List.dropLast_eq_take, List.dropLast_eq_take, r.length]
  exact r.take _
theorem RepL.ints : ∀ {vs : List V} {ns : List Int}, RepL K F vs (ns.map U.int) → vs = ns.map V.int
  | _, [], .nil => rfl
  | _, n :: ns, .cons r t => by cases r; rw [List.map_cons, RepL.ints t]
theorem RepL.of_ints : ∀ (ns : List Int), RepL K F (ns.map V.int) (ns.map U.int)
  | [] => .nil
  | n :: ns => .cons (.int n) (RepL.of_ints ns)
theorem RepL.replicate {v : V} {u : U} (r : Rep K F v u) : ∀ n : Nat, RepL K F (List.replicate n v) (List.replicate n u)
  | 0 => .nil
  | n + 1 => .cons r (RepL.replicate r n)
theorem RepL.flatten_rep {xs : List V} {us : List U} (r : RepL K F xs us) : ∀ n : Nat, RepL K F (List.replicate n xs).flatten (List.replicate n us).flatten
  | 0 => .nil
  | n + 1 => by
    rw [List.replicate_succ, List.replicate_succ, List.flatten_cons, List.flatten_cons]
    exact r.append (RepL.flatten_rep r n)
end

/-! ### states -/
structure HS (F h H : Hp) : Prop where
  fr : Sub F H
  ow : Sub h H
  dj : ∀ a, h a ≠ none → F a = none
structure Ext (F h H F' h' H' : Hp) : Prop where
  sub : Sub F F'
  dom : ∀ a, H' a = none → H a = none
  fr : ∀ a o, H a = some o → h a = none → H' a = some o
  nf : ∀ a, F' a ≠ none → F a ≠ none ∨ H a = none ∨ h a ≠ none
  nh : ∀ a, h' a ≠ none → H a = none ∨ h a ≠ none
abbrev emp : Hp := fun _ => none
section
variable {F h H F1 h1 H1 F2 h2 H2 : Hp}
theorem Ext.refl : Ext F h H F h H := ⟨Sub.refl F, fun _ h => h, fun _ _ h _ => h, fun _ h => .inl h, fun _ h => .inr h⟩
theorem Ext.trans (x : Ext F h H F1 h1 H1) (y : Ext F1 h1 H1 F2 h2 H2) : Ext F h H F2 h2 H2 where
  sub := x.sub.trans y.sub
  dom := fun a e => x.dom a (y.dom a e)
  fr := fun a o e n => y.fr a o (x.fr a o e n) (by
    cases q : h1 a with
    | none => rfl
    | some u =>
      rcases x.nh a (by rw [q]; simp) with z | z
      · rw [e] at z; cases z
      · exact absurd n z)
  nf := fun a e => by
    rcases y.nf a e with z | z | z
    · exact x.nf a z
    · exact .inr (.inl (x.dom a z))
    · exact .inr (x.nh a z)
  nh := fun a e => by
    rcases y.nh a e with z | z
    · exact .inl (x.dom a z)
    · exact x.nh a z
/-- a new thing, frozen -/
theorem HS.fresh (s : HS F h H) {p : Addr} (hp : H p = none) : F p = none ∧ h p = none := by
  constructor
  · cases q : F p with
    | none => rfl
    | some o => rw [s.fr p o q] at hp; cases hp
  · cases q : h p with
    | none => rfl
    | some o => rw [s.ow p o q] at hp; cases hp
theorem Sub.new {F : Hp} {p : Addr} {o : HO} (hp : F p = none) : Sub F (upd F p o) := fun a u e => by
  rw [upd_ne (ne_of_none e hp)]; exact e
theorem Sub.upd {F H : Hp} (s : Sub F H) (p : Addr) (o : HO) : Sub (upd F p o) (upd H p o) := fun a u e => by
  by_cases hb : a = p
  · subst hb; rw [upd_same] at e ⊢; exact e
  · rw [upd_ne hb] at e ⊢; exact s a u e
theorem HS.alloc (s : HS F h H) {p : Addr} {o : HO} (hp : H p = none) : HS (upd F p o) h (upd H p o) := by
  obtain ⟨f0, h0⟩ := s.fresh hp
  refine ⟨s.fr.upd p o, s.ow.trans (Sub.new hp), fun a ha => ?_⟩
  rw [upd_ne (fun e => ha (by rw [e]; exact h0))]
  exact s.dj a ha
theorem HS.ext_alloc (s : HS F h H) {p : Addr} {o : HO} (hp : H p = none) : Ext F h H (upd F p o) h (upd H p o) where
  sub := Sub.new (s.fresh hp).1
  dom := fun a e => by
    by_cases hb : a = p
    · subst hb; exact hp
    · rw [upd_ne hb] at e; exact e
  fr := fun a u e _ => Sub.new hp a u e
  nf := fun a e => by
    by_cases hb : a = p
    · subst hb; exact .inr (.inl hp)
    · rw [upd_ne hb] at e; exact .inl e
  nh := fun a e => .inr e
end

/-- what may be read: a frozen value, or an owned list of frozen values -/
def RepX (K : PySem.W.Frag) (F h : Hp) (v : V) (u : U) : Prop :=
  Rep K F v u ∨ ∃ p xs us, v = .ref p ∧ u = .lst us ∧ h p = some (.lst xs) ∧ RepL K F xs us
section
variable {K : PySem.W.Frag} {F F' h H : Hp} {v : V} {u : U}
theorem RepX.mono (e : Sub F F') (r : RepX K F h v u) : RepX K F' h v u := by
  rcases r with r | ⟨p, xs, us, a, b, c, d⟩
  · exact .inl (r.mono e)
  · exact .inr ⟨p, xs, us, a, b, c, d.mono e⟩
theorem RepX.of (r : Rep K F v u) : RepX K F h v u := .inl r
theorem RepX.int {i : Int} (r : RepX K F h v (.int i)) : v = .int i := by
  rcases r with r | ⟨p, xs, us, a, b, c, d⟩
  · cases r; rfl
  · cases b
theorem RepX.bl {i : Bool} (r : RepX K F h v (.bl i)) : v = .bl i := by
  rcases r with r | ⟨p, xs, us, a, b, c, d⟩
  · cases r; rfl
  · cases b
theorem RepX.str {i : Str} (r : RepX K F h v (.str i)) : v = .str i := by
  rcases r with r | ⟨p, xs, us, a, b, c, d⟩
  · cases r; rfl
  · cases b
theorem RepX.non (r : RepX K F h v .non) : v = .non := by
  rcases r with r | ⟨p, xs, us, a, b, c, d⟩
  · cases r; rfl
  · cases b
theorem RepX.tup {us : List U} (r : RepX K F h v (.tup us)) : ∃ a xs, v = .ref a ∧ SqT K F a xs ∧ RepL K F xs us := by
  rcases r with r | ⟨p, xs, us, a, b, c, d⟩
  · cases r with
    | tup h1 h2 => exact ⟨_, _, rfl, h1, h2⟩
  · cases b
theorem RepX.scr {ns : List Int} (r : RepX K F h v (.scr ns)) : ∃ a, v = .ref a ∧ SqL K F a (ns.map V.int) := by
  rcases r with r | ⟨p, xs, us, a, b, c, d⟩
  · cases r with
    | scr h1 => exact ⟨_, rfl, h1⟩
  · cases b
theorem RepX.lst {us : List U} (s : HS F h H) (r : RepX K F h v (.lst us)) : ∃ a xs, v = .ref a ∧ H a = some (.lst xs) ∧ RepL K F xs us := by
  rcases r with r | ⟨p, xs, us, a, b, c, d⟩
  · cases r with
    | lst h1 h2 => exact ⟨_, _, rfl, s.fr _ _ h1, h2⟩
  · cases b
    exact ⟨p, xs, a, s.ow _ _ c, d⟩
end

/-! ### data -/
mutual
def U.toD : U → PyData
  | .non => .none
  | .bl b => .bool b
  | .int i => .int i
  | .str x => .str x
  | .lst xs => .list (U.toDs xs)
  | .tup xs => .tuple (U.toDs xs)
  | .scr ns => .list (ns.map PyData.int)
def U.toDs : List U → List PyData
  | [] => []
  | x :: xs => U.toD x :: U.toDs xs
end
theorem dp_ints {K : PySem.W.Frag} {H : Hp} : ∀ ns : List Int, DpAll K H (ns.map V.int) (ns.map PyData.int)
  | [] => .nil
  | n :: ns => .cons (.int n) (dp_ints ns)
mutual
theorem Rep.dp {K : PySem.W.Frag} {F : Hp} : ∀ {v : V} {u : U}, Rep K F v u → Dp K F v u.toD
  | _, _, .non => by unfold U.toD; exact .non
  | _, _, .bl b => by unfold U.toD; exact .bl b
  | _, _, .int i => by unfold U.toD; exact .int i
  | _, _, .str x => by unfold U.toD; exact .str x
  | _, _, .lst h r => by unfold U.toD; exact .lst (SqL.of h) (RepL.dp r)
  | _, _, .tup h r => by unfold U.toD; exact .tup h (RepL.dp r)
  | _, _, .scr h => by unfold U.toD; exact .lst h (dp_ints _)
theorem RepL.dp {K : PySem.W.Frag} {F : Hp} : ∀ {vs : List V} {us : List U}, RepL K F vs us → DpAll K F vs (U.toDs us)
  | _, _, .nil => by unfold U.toDs; exact .nil
  | _, _, .cons h r => by unfold U.toDs; exact .cons (Rep.dp h) (RepL.dp r)
end
mutual
theorem Dp.sub {K : PySem.W.Frag} {F F' : Hp} (e : Sub F F') : ∀ {v : V} {d : PyData}, Dp K F v d → Dp K F' v d
  | _, _, .non => .non
  | _, _, .bl b => .bl b
  | _, _, .int b => .int b
  | _, _, .str b => .str b
  | _, _, .lst h r => .lst (e.sl h) (DpAll.sub e r)
  | _, _, .tup h r => .tup (e.st h) (DpAll.sub e r)
theorem DpAll.sub {K : PySem.W.Frag} {F F' : Hp} (e : Sub F F') : ∀ {v : List V} {d : List PyData}, DpAll K F v d → DpAll K F' v d
  | _, _, .nil => .nil
  | _, _, .cons h r => .cons (Dp.sub e h) (DpAll.sub e r)
end
theorem RepX.dp {K : PySem.W.Frag} {F h H : Hp} {v : V} {u : U} (s : HS F h H) (r : RepX K F h v u) : Dp K H v u.toD := by
  rcases r with r | ⟨p, xs, us, rfl, rfl, c, d⟩
  · exact Dp.sub s.fr r.dp
  · unfold U.toD
    exact .lst (SqL.of (s.ow _ _ c)) (DpAll.sub s.fr d.dp)
abbrev line : Nat := 16777216
theorem line_eq : (sizeLine : Nat) = 16777216 := sizeLine_eq
end UL

set_option Elab.async false
set_option linter.all false
set_option maxRecDepth 100000
set_option maxHeartbeats 1000000
namespace UL
open PySem PySem.Spec PyProof.Rows L2

/-! ### operators on plain data -/
namespace U
def i2 (g : Int → Int → U) : U → U → Res U
  | .int a, .int b => .ok (g a b)
  | _, _ => .bad
def add : U → U → Res U
  | .int a, .int b => .ok (.int (a + b))
  | .lst a, .lst b => if a.length + b.length ≤ 16777216 then .ok (.lst (a ++ b)) else .bad
  | .str a, .str b => if a.length + b.length ≤ 16777216 then .ok (.str (a ++ b)) else .bad
  | _, _ => .bad
def sub : U → U → Res U := i2 fun a b => .int (a - b)
def mul : U → U → Res U
  | .int a, .int b => if (-(2 ^ 64) < a ∧ a < 2 ^ 64) ∨ (-(2 ^ 64) < b ∧ b < 2 ^ 64) then .ok (.int (a * b)) else .bad
  | .lst a, .int k => if -(2 ^ 63) ≤ k ∧ k < 2 ^ 63 ∧ a.length * k.toNat ≤ 16777216 then .ok (.lst (List.replicate k.toNat a).flatten) else .bad
  | _, _ => .bad
def fdiv : U → U → Res U
  | .int a, .int b => if 0 < b ∧ b < 1073741824 then .ok (.int (a / b)) else .bad
  | _, _ => .bad
def mod : U → U → Res U
  | .int a, .int b => if 0 < b then .ok (.int (a % b)) else .bad
  | _, _ => .bad
def pow : U → U → Res U
  | .int a, .int b => if 0 ≤ b ∧ b ≤ 1000000 ∧ a.natAbs < 2 ^ 64 then .ok (.int (a ^ b.toNat)) else .bad
  | _, _ => .bad
def shl : U → U → Res U
  | .int a, .int b => if 0 ≤ b ∧ b ≤ 1000000 ∧ a.natAbs < 2 ^ 64 then .ok (.int (a * 2 ^ b.toNat)) else .bad
  | _, _ => .bad
def shr : U → U → Res U
  | .int a, .int b => if 0 ≤ b then .ok (.int (a / 2 ^ b.toNat)) else .bad
  | _, _ => .bad
def band : U → U → Res U := i2 fun a b => .int (Builtin.bitAnd a b)
def lt : U → U → Res U := i2 fun a b => .bl (decide (a < b))
def le : U → U → Res U := i2 fun a b => .bl (decide (a ≤ b))
def gt : U → U → Res U := i2 fun a b => .bl (decide (b < a))
def ge : U → U → Res U := i2 fun a b => .bl (decide (b ≤ a))
def eqv (a b : U) : Bool := PyData.eqv a.toD b.toD
def shp (a : U) : Bool := SeqAt.shaped a.toD
def eq (a b : U) : Res U := if a.shp = true ∧ b.shp = true then .ok (.bl (a.eqv b)) else .bad
def ne (a b : U) : Res U := if a.shp = true ∧ b.shp = true then .ok (.bl (!a.eqv b)) else .bad
def flat : U → Bool
  | .non => true
  | .bl _ => true
  | .int _ => true
  | .str _ => true
  | _ => false
def mem (x : U) : U → Res Bool
  | .lst us => if x.shp = true ∧ (U.lst us).shp = true then .ok (us.any fun z => z.eqv x) else .bad
  | .tup us => if x.flat = true ∧ us.all flat = true then .ok (us.any fun z => z.eqv x) else .bad
  | _ => .bad
def isin (x y : U) : Res U := (mem x y).bind fun b => .ok (.bl b)
def notin (x y : U) : Res U := (mem x y).bind fun b => .ok (.bl (!b))
def isN : U → U → Res U
  | .non, .non => .ok (.bl true)
  | _, .non => .ok (.bl false)
  | _, _ => .bad
def notN : U → U → Res U
  | .non, .non => .ok (.bl false)
  | _, .non => .ok (.bl true)
  | _, _ => .bad
def ixOf (n : Nat) (i : Int) : Option Nat := if 0 ≤ i then (if i < n then some i.toNat else none) else if -(n : Int) ≤ i then some (i + n).toNat else none
def opt {α : Type} : Option α → Res α
  | some a => .ok a
  | none => .bad
def idx : U → U → Res U
  | .lst us, .int i => opt ((ixOf us.length i).bind fun j => us[j]?)
  | .tup us, .int i => opt ((ixOf us.length i).bind fun j => us[j]?)
  | .scr ns, .int i => opt ((ixOf ns.length i).bind fun j => ns[j]?.map U.int)
  | _, _ => .bad
def neg : U → Res U
  | .int a => .ok (.int (-a))
  | _ => .bad
def len : U → Res U
  | .lst us => .ok (.int us.length)
  | .tup us => .ok (.int us.length)
  | .scr ns => .ok (.int ns.length)
  | _ => .bad
def abs : U → Res U
  | .int i => .ok (.int (if i < 0 then -i else i))
  | _ => .bad
def toInt : U → Res U
  | .int i => .ok (.int i)
  | .bl k => .ok (.int (if k then 1 else 0))
  | _ => .bad
def list : U → Res U
  | .lst us => .ok (.lst us)
  | .tup us => .ok (.lst us)
  | _ => .bad
def bool? : U → Res Bool
  | .bl b => .ok b
  | _ => .bad
def lo (n : Nat) (o : Option Int) : Nat := HT.sIx n 0 o
def hi (n : Nat) (o : Option Int) : Nat := HT.sIx n n o
def cut (us : List U) (l h : Option Int) : List U := (us.drop (HT.sIx us.length 0 l)).take (HT.sIx us.length us.length h - HT.sIx us.length 0 l)
def part : Option U → Res (Option Int)
  | none => .ok none
  | some (.int i) => .ok (some i)
  | _ => .bad
def slice (x : U) (l h : Option Int) : Res U := match x with
  | .lst us => .ok (.lst (cut us l h))
  | .tup us => if ¬ (HT.sIx us.length 0 l = 0 ∧ HT.sIx us.length us.length h = us.length) then .ok (.tup (cut us l h)) else .bad
  | _ => .bad
/-- insertion into a sorted list of numbers -/
def ins (n : Int) : List Int → List Int
  | [] => [n]
  | m :: r => if n ≤ m then n :: m :: r else m :: ins n r
def isort : List Int → List Int
  | [] => []
  | n :: r => ins n (isort r)
def intsOf : List U → Option (List Int)
  | [] => some []
  | .int i :: r => (intsOf r).map (i :: ·)
  | _ :: _ => none
def sorted : U → Res U
  | .lst us => match intsOf us with
    | some ns => .ok (.lst ((isort ns).map .int))
    | none => .bad
  | _ => .bad
end U

theorem opt_ok {α : Type} {o : Option α} {a : α} (h : U.opt o = .ok a) : o = some a := by
  cases o with
  | none => cases h
  | some b => cases h; rfl

/-! ### what an operator asks: two values read, one given -/
def rU2 (K : PySem.W.Frag) (f : U → U → Res U) : R2 := fun x y H Q => ∃ F h a b z, HS F h H ∧ RepX K F h x a ∧ RepX K F h y b ∧ f a b = .ok z ∧
  ∀ v F' H', HS F' h H' → Ext F h H F' h H' → Rep K F' v z → Q v H'
/-- what an operation gives that makes a new list (if it is a list) -/
def PostN (K : PySem.W.Frag) (F h H : Hp) (z : U) (Q : VK) : Prop := match z with
  | .lst us => ∀ p xs, H p = none → RepL K F xs us → Q (.ref p) (upd H p (.lst xs))
  | z => ∀ v F' H', HS F' h H' → Ext F h H F' h H' → Rep K F' v z → Q v H'
def rN2 (K : PySem.W.Frag) (f : U → U → Res U) : R2 := fun x y H Q => ∃ F h a b z, HS F h H ∧ RepX K F h x a ∧ RepX K F h y b ∧ f a b = .ok z ∧ PostN K F h H z Q
def rN1 (K : PySem.W.Frag) (f : U → Res U) : V → Hp → VK → Prop := fun x H Q => ∃ F h a z, HS F h H ∧ RepX K F h x a ∧ f a = .ok z ∧ PostN K F h H z Q
def rNC (K : PySem.W.Frag) (f : U → Res U) : List V → Hp → VK → Prop := fun xs H Q => ∃ x, xs = [x] ∧ rN1 K f x H Q
def rU1 (K : PySem.W.Frag) (f : U → Res U) : V → Hp → VK → Prop := fun x H Q => ∃ F h a z, HS F h H ∧ RepX K F h x a ∧ f a = .ok z ∧
  ∀ v F' H', HS F' h H' → Ext F h H F' h H' → Rep K F' v z → Q v H'
def rUC (K : PySem.W.Frag) (f : U → Res U) : List V → Hp → VK → Prop := fun xs H Q => ∃ x, xs = [x] ∧ rU1 K f x H Q
def rUC2 (K : PySem.W.Frag) (f : U → U → Res U) : List V → Hp → VK → Prop := fun xs H Q => ∃ x y, xs = [x, y] ∧ rU2 K f x y H Q

section
variable {X : Cx}
theorem OpR.imp {f : Value → Value → Sem Value} {r r' : R2} (h : OpR X f r) (hi : ∀ x y H Q, r' x y H Q → r x y H Q) : OpR X f r' :=
  fun pins s σ H x y v u Q I rx ry q => h pins s σ H x y v u Q I rx ry (hi _ _ _ _ q)
theorem UnR.imp {f : Value → Sem Value} {r r' : V → Hp → VK → Prop} (h : UnR X f r) (hi : ∀ x H Q, r' x H Q → r x H Q) : UnR X f r' :=
  fun pins s σ H x v Q I rx q => h pins s σ H x v Q I rx (hi _ _ _ q)
theorem CallR.imp {f : Value} {r r' : List V → Hp → VK → Prop} (h : CallR X f r) (hi : ∀ x H Q, r' x H Q → r x H Q) : CallR X f r' :=
  fun pins s σ H xs us Q I rx q => h pins s σ H xs us Q I rx (hi _ _ _ q)
theorem IxR.imp {r r' : R2} (h : IxR X r) (hi : ∀ x y H Q, r' x y H Q → r x y H Q) : IxR X r' :=
  fun value slice pins s σ H x y v u Q I rx ry q => h value slice pins s σ H x y v u Q I rx ry (hi _ _ _ _ q)
theorem SlR.imp {r r' : V → Option Int → Option Int → Hp → VK → Prop} (h : SlR X r) (hi : ∀ x l u H Q, r' x l u H Q → r x l u H Q) : SlR X r' :=
  fun pins s σ H x v vl vu lo hi' sl Q I rx hs pl pu q => h pins s σ H x v vl vu lo hi' sl Q I rx hs pl pu (hi _ _ _ _ _ q)

/-- ints in, a scalar out -/
theorem op_i2 {f : Value → Value → Sem Value} {g : Int → Int → U} {gv : Int → Int → V} (h : OpR X f (rI0 gv)) (hg : ∀ i j K F, Rep K F (gv i j) (g i j)) : OpR X f (rU2 X.K (U.i2 g)) :=
  OpR.imp h fun x y H Q ⟨F, h, a, b, z, s, ra, rb, e, q⟩ => by
    cases a <;> cases b <;> first | (simp only [U.i2] at e; cases e; done) | skip
    simp only [U.i2] at e
    cases e
    exact ⟨_, _, ra.int, rb.int, q _ _ _ s Ext.refl (hg _ _ _ _)⟩
theorem u_sub : OpR X (binaryOp .Sub) (rU2 X.K U.sub) := op_i2 op_sub fun _ _ _ _ => .int _
theorem u_band : OpR X (binaryOp .BitAnd) (rU2 X.K U.band) := op_i2 op_and fun _ _ _ _ => .int _
theorem u_lt : OpR X (compareOp .Lt) (rU2 X.K U.lt) := op_i2 op_lt fun _ _ _ _ => .bl _
theorem u_le : OpR X (compareOp .LtE) (rU2 X.K U.le) := op_i2 op_le fun _ _ _ _ => .bl _
theorem u_gt : OpR X (compareOp .Gt) (rU2 X.K U.gt) := op_i2 op_gt fun _ _ _ _ => .bl _
theorem u_ge : OpR X (compareOp .GtE) (rU2 X.K U.ge) := op_i2 op_ge fun _ _ _ _ => .bl _
theorem u_add : OpR X (binaryOp .Add) (rN2 X.K U.add) :=
  OpR.imp (op_add.or (op_cat.or op_add_str)) fun x y H Q ⟨F, h, a, b, z, s, ra, rb, e, q⟩ => by
    cases a <;> cases b <;> first | (simp only [U.add] at e; cases e; done) | skip
    · simp only [U.add] at e
      cases e
      exact .inl ⟨_, _, ra.int, rb.int, q _ _ _ s Ext.refl (.int _)⟩
    · simp only [U.add] at e
      split at e
      · rename_i i j hl
        cases e
        cases ra.str
        cases rb.str
        exact .inr (.inr ⟨_, _, rfl, rfl, by rw [line_eq]; exact hl, q _ _ _ s Ext.refl (.str _)⟩)
      · cases e
    · simp only [U.add] at e
      split at e
      · rename_i i j hl
        cases e
        obtain ⟨a1, xs, rfl, h1, r1⟩ := ra.lst s
        obtain ⟨b1, ys, rfl, h2, r2⟩ := rb.lst s
        exact .inr (.inl ⟨_, _, _, _, rfl, rfl, h1, h2, by rw [line_eq, r1.length, r2.length]; exact hl, fun p hp => q p _ hp (r1.append r2)⟩)
      · cases e
theorem u_mul : OpR X (binaryOp .Mult) (rN2 X.K U.mul) :=
  OpR.imp (op_mul.or op_rep) fun x y H Q ⟨F, h, a, b, z, s, ra, rb, e, q⟩ => by
    cases a <;> cases b <;> first | (simp only [U.mul] at e; cases e; done) | skip
    · simp only [U.mul] at e
      split at e
      · rename_i i j hl
        cases e
        exact .inl ⟨_, _, ra.int, rb.int, hl, q _ _ _ s Ext.refl (.int _)⟩
      · cases e
    · simp only [U.mul] at e
      split at e
      · rename_i i j hl
        cases e
        obtain ⟨a1, xs, rfl, h1, r1⟩ := ra.lst s
        cases rb.int
        exact .inr ⟨_, _, _, rfl, rfl, h1, hl.1, hl.2.1, by rw [line_eq, r1.length]; exact hl.2.2, fun p hp => q p _ hp (r1.flatten_rep _)⟩
      · cases e
theorem op_c2 {f : Value → Value → Sem Value} {C : Int → Int → Prop} {g : Int → Int → U} {gv : Int → Int → V} {F : U → U → Res U} (h : OpR X f (rI C gv)) (hg : ∀ i j K F, Rep K F (gv i j) (g i j))
    (hF : ∀ a b z, F a b = .ok z → ∃ i j, a = .int i ∧ b = .int j ∧ C i j ∧ z = g i j) : OpR X f (rU2 X.K F) :=
  OpR.imp h fun x y H Q ⟨F, h, a, b, z, s, ra, rb, e, q⟩ => by
    obtain ⟨i, j, rfl, rfl, hc, rfl⟩ := hF _ _ _ e
    exact ⟨_, _, ra.int, rb.int, hc, q _ _ _ s Ext.refl (hg _ _ _ _)⟩
theorem u_fdiv : OpR X (binaryOp .FloorDiv) (rU2 X.K U.fdiv) := op_c2 (g := fun i j => .int (i / j)) op_fdiv (fun _ _ _ _ => .int _) fun a b z e => by
  cases a <;> cases b <;> first | (simp only [U.fdiv] at e; cases e; done) | skip
  simp only [U.fdiv] at e
  split at e
  · rename_i hl; cases e; exact ⟨_, _, rfl, rfl, hl, rfl⟩
  · cases e
theorem u_mod : OpR X (binaryOp .Mod) (rU2 X.K U.mod) := op_c2 (g := fun i j => .int (i % j)) op_mod (fun _ _ _ _ => .int _) fun a b z e => by
  cases a <;> cases b <;> first | (simp only [U.mod] at e; cases e; done) | skip
  simp only [U.mod] at e
  split at e
  · rename_i hl; cases e; exact ⟨_, _, rfl, rfl, hl, rfl⟩
  · cases e
theorem u_pow : OpR X (binaryOp .Pow) (rU2 X.K U.pow) := op_c2 (g := fun i j => .int (i ^ j.toNat)) op_pow (fun _ _ _ _ => .int _) fun a b z e => by
  cases a <;> cases b <;> first | (simp only [U.pow] at e; cases e; done) | skip
  simp only [U.pow] at e
  split at e
  · rename_i hl; cases e; exact ⟨_, _, rfl, rfl, hl, rfl⟩
  · cases e
theorem u_shl : OpR X (binaryOp .LShift) (rU2 X.K U.shl) := op_c2 (g := fun i j => .int (i * 2 ^ j.toNat)) op_shl (fun _ _ _ _ => .int _) fun a b z e => by
  cases a <;> cases b <;> first | (simp only [U.shl] at e; cases e; done) | skip
  simp only [U.shl] at e
  split at e
  · rename_i hl; cases e; exact ⟨_, _, rfl, rfl, hl, rfl⟩
  · cases e
theorem u_shr : OpR X (binaryOp .RShift) (rU2 X.K U.shr) := op_c2 (g := fun i j => .int (i / 2 ^ j.toNat)) op_shr (fun _ _ _ _ => .int _) fun a b z e => by
  cases a <;> cases b <;> first | (simp only [U.shr] at e; cases e; done) | skip
  simp only [U.shr] at e
  split at e
  · rename_i hl; cases e; exact ⟨_, _, rfl, rfl, hl, rfl⟩
  · cases e
theorem u_eq (hu : X.A.units + 64 < cLine) : OpR X (compareOp .Eq) (rU2 X.K U.eq) :=
  OpR.imp (op_eqD hu) fun x y H Q ⟨F, h, a, b, z, s, ra, rb, e, q⟩ => by
    unfold U.eq at e
    split at e
    · rename_i hl
      cases e
      exact ⟨_, _, ra.dp s, rb.dp s, hl.1, hl.2, q _ _ _ s Ext.refl (.bl _)⟩
    · cases e
theorem u_ne (hu : X.A.units + 64 < cLine) : OpR X (compareOp .NotEq) (rU2 X.K U.ne) :=
  OpR.imp (op_neD hu) fun x y H Q ⟨F, h, a, b, z, s, ra, rb, e, q⟩ => by
    unfold U.ne at e
    split at e
    · rename_i hl
      cases e
      exact ⟨_, _, ra.dp s, rb.dp s, hl.1, hl.2, q _ _ _ s Ext.refl (.bl _)⟩
    · cases e
theorem flat_rep {K : PySem.W.Frag} {F : Hp} {v : V} {u : U} (r : Rep K F v u) (f : u.flat = true) : flatV v = true := by
  cases r <;> first | rfl | (cases f; done)
theorem flatL_rep {K : PySem.W.Frag} {F : Hp} : ∀ {vs : List V} {us : List U}, RepL K F vs us → us.all U.flat = true → vs.all flatV = true
  | _, _, .nil, _ => rfl
  | _, _, .cons r t, f => by
    rw [List.all_cons, Bool.and_eq_true] at f ⊢
    exact ⟨flat_rep r f.1, flatL_rep t f.2⟩
theorem b2i_beq (a : Bool) (j : Int) : ((if a then (1 : Int) else 0) == j) = (PyData.eqv (.bool a) (.int j)) := by
  simp only [PyData.eqv]
  try rfl
theorem eqv_rep {K : PySem.W.Frag} {F : Hp} {v w : V} {u z : U} (r : Rep K F v u) (r' : Rep K F w z) (f : u.flat = true) (f' : z.flat = true) : eqV v w = u.eqv z := by
  cases r <;> first | (cases f; done) | skip
  all_goals (cases r' <;> first | (cases f'; done) | skip)
  all_goals (simp only [eqV, U.eqv, U.toD, PyData.eqv]; try rfl)
theorem inV_rep {K : PySem.W.Frag} {F : Hp} {v : V} {u : U} (r : Rep K F v u) (f : u.flat = true) : ∀ {vs : List V} {us : List U}, RepL K F vs us → us.all U.flat = true → inV v vs = us.any fun z => z.eqv u
  | _, _, .nil, _ => rfl
  | _, _, .cons q t, g => by
    rw [List.all_cons, Bool.and_eq_true] at g
    have ih := inV_rep r f t g.2
    unfold inV at ih ⊢
    rw [List.any_cons, List.any_cons, ih, eqv_rep q r g.1 f]
theorem toDs_any (us : List U) (d : PyData) : (U.toDs us).any (fun z => PyData.eqv z d) = us.any fun z => PyData.eqv z.toD d := by
  induction us with
  | nil => unfold U.toDs; rfl
  | cons a r ih => unfold U.toDs; rw [List.any_cons, List.any_cons, ih]
theorem RepX.flat {K : PySem.W.Frag} {F h : Hp} {v : V} {u : U} (r : RepX K F h v u) (f : u.flat = true) : Rep K F v u := by
  rcases r with r | ⟨p, xs, us, a, b, c, d⟩
  · exact r
  · rw [b] at f; cases f
theorem u_mem {neg : Bool} {f : Value → Value → Sem Value} {rr : R2} {g : U → U → Res U} (h1 : OpR X f (rIn X.K neg)) (h2 : OpR X f rr)
    (hr : ∀ x y H (Q : VK) d ds, Dp X.K H x d → Dp X.K H y (.list ds) → SeqAt.shaped d = true → SeqAt.shaped (.list ds) = true → Q (.bl (if neg then !(ds.any fun z => PyData.eqv z d) else ds.any fun z => PyData.eqv z d)) H → rr x y H Q)
    (hg : ∀ a b z, g a b = .ok z → ∃ k, U.mem a b = .ok k ∧ z = .bl (if neg then !k else k)) : OpR X f (rU2 X.K g) :=
  OpR.imp (h1.or h2) fun x y H Q ⟨F, h, a, b, z, s, ra, rb, e, q⟩ => by
    obtain ⟨k, e2, rfl⟩ := hg _ _ _ e
    clear hg e
    have e := e2
    clear e2
    cases b <;> first | (simp only [U.mem] at e; cases e; done) | skip
    · simp only [U.mem] at e
      split at e
      · rename_i us hl
        cases e
        refine .inr ?_
        have hd := rb.dp s
        have h2 := hl.2
        unfold U.shp at h2
        unfold U.toD at hd h2
        refine hr x y H Q _ _ (ra.dp s) hd hl.1 h2 ?_
        rw [toDs_any]
        exact q _ _ _ s Ext.refl (.bl _)
      · cases e
    · simp only [U.mem] at e
      split at e
      · rename_i us hl
        cases e
        refine .inl ?_
        obtain ⟨p, xs, rfl, h1, r1⟩ := rb.tup
        have rx := ra.flat hl.1
        refine ⟨p, xs, rfl, .inr (s.fr.st h1), flat_rep rx hl.1, flatL_rep r1 hl.2, ?_⟩
        rw [inV_rep rx hl.1 r1 hl.2]
        exact q _ _ _ s Ext.refl (.bl _)
      · cases e
theorem mem_in {a b z : U} (e : U.isin a b = .ok z) : ∃ k, U.mem a b = .ok k ∧ z = .bl (if false = true then !k else k) := by
  unfold U.isin Res.bind at e
  cases h : U.mem a b with
  | ok k => rw [h] at e; cases e; exact ⟨k, rfl, rfl⟩
  | exn x => rw [h] at e; cases e
  | bad => rw [h] at e; cases e
theorem mem_notin {a b z : U} (e : U.notin a b = .ok z) : ∃ k, U.mem a b = .ok k ∧ z = .bl (if true = true then !k else k) := by
  unfold U.notin Res.bind at e
  cases h : U.mem a b with
  | ok k => rw [h] at e; cases e; exact ⟨k, rfl, rfl⟩
  | exn x => rw [h] at e; cases e
  | bad => rw [h] at e; cases e
theorem u_in (hu : X.A.units + 65 < cLine) : OpR X (compareOp .In) (rU2 X.K U.isin) :=
  u_mem (neg := false) op_in_seq (op_inD hu) (fun x y H Q d ds a b c e q => ⟨d, ds, a, b, c, e, q⟩) fun _ _ _ => mem_in
theorem u_notin (hu : X.A.units + 65 < cLine) : OpR X (compareOp .NotIn) (rU2 X.K U.notin) :=
  u_mem (neg := true) op_notIn_seq (op_notInD hu) (fun x y H Q d ds a b c e q => ⟨d, ds, a, b, c, e, q⟩) fun _ _ _ => mem_notin
theorem repx_isN {K : PySem.W.Frag} {F h : Hp} {v : V} {u : U} (r : RepX K F h v u) : decide (v = .non) = (match u with | .non => true | _ => false) := by
  rcases r with r | ⟨p, xs, us, rfl, rfl, c, d⟩
  · cases r <;> simp
  · simp
theorem u_isN : OpR X (compareOp .Is) (rU2 X.K U.isN) := OpR.imp op_isN fun x y H Q ⟨F, h, a, b, z, s, ra, rb, e, q⟩ => by
  have hd := repx_isN ra
  cases b <;> first | (cases a <;> simp only [U.isN] at e <;> cases e; done) | skip
  refine ⟨rb.non, ?_⟩
  rw [hd]
  cases a <;> (simp only [U.isN] at e; cases e; exact q _ _ _ s Ext.refl (.bl _))
theorem u_notN : OpR X (compareOp .IsNot) (rU2 X.K U.notN) := OpR.imp op_notN fun x y H Q ⟨F, h, a, b, z, s, ra, rb, e, q⟩ => by
  have hd := repx_isN ra
  cases b <;> first | (cases a <;> simp only [U.notN] at e <;> cases e; done) | skip
  refine ⟨rb.non, ?_⟩
  rw [hd]
  cases a <;> (simp only [U.notN] at e; cases e; exact q _ _ _ s Ext.refl (.bl _))
theorem at_of {α β : Type} {xs : List α} {i : Int} {j : Nat} {x : α} (n : Nat) (hn : xs.length = n) (hj : U.ixOf n i = some j) (h : xs[j]? = some x) : atI xs i = some x := by
  unfold atI
  rw [hn]
  have e : ixN n i = some j := hj
  rw [e]
  exact h
theorem u_idx : IxR X (rU2 X.K U.idx) := IxR.imp (ix_list.or ix_tup) fun x y H Q ⟨F, h, a, b, z, s, ra, rb, e, q⟩ => by
  cases b <;> first | (cases a <;> simp only [U.idx] at e <;> cases e; done) | skip
  rename_i i
  cases rb.int
  cases a <;> first | (simp only [U.idx] at e; cases e; done) | skip
  · rename_i us
    simp only [U.idx] at e
    obtain ⟨j, h1, h2⟩ := Option.bind_eq_some_iff.mp (opt_ok e)
    obtain ⟨p, xs, rfl, hp, r⟩ := ra.lst s
    obtain ⟨v, h3, r3⟩ := r.get h2
    exact .inl ⟨p, xs, i, v, rfl, rfl, SqL.of hp, at_of (β := Unit) _ r.length h1 h3, q _ _ _ s Ext.refl r3⟩
  · rename_i us
    simp only [U.idx] at e
    obtain ⟨j, h1, h2⟩ := Option.bind_eq_some_iff.mp (opt_ok e)
    obtain ⟨p, xs, rfl, hp, r⟩ := ra.tup
    obtain ⟨v, h3, r3⟩ := r.get h2
    exact .inr ⟨p, xs, i, v, rfl, rfl, s.fr.st hp, at_of (β := Unit) _ r.length h1 h3, q _ _ _ s Ext.refl r3⟩
  · rename_i ns
    simp only [U.idx] at e
    obtain ⟨j, h1, h2⟩ := Option.bind_eq_some_iff.mp (opt_ok e)
    obtain ⟨p, rfl, hp⟩ := ra.scr
    obtain ⟨n, h3, rfl⟩ := Option.map_eq_some_iff.mp h2
    exact .inl ⟨p, _, i, .int n, rfl, rfl, s.fr.sl hp, at_of (β := Unit) _ (List.length_map _) h1 (by rw [List.getElem?_map, h3]; rfl), q _ _ _ s Ext.refl (.int _)⟩
theorem u_neg : UnR X (unaryOp .USub) (rU1 X.K U.neg) := UnR.imp un_neg fun x H Q ⟨F, h, a, z, s, ra, e, q⟩ => by
  cases a <;> first | (simp only [U.neg] at e; cases e; done) | skip
  simp only [U.neg] at e
  cases e
  exact ⟨_, ra.int, q _ _ _ s Ext.refl (.int _)⟩
theorem u_len : CallR X (.builtin "len") (rUC X.K U.len) := CallR.imp call_len_seq fun xs H Q ⟨x, ex, F, h, a, z, s, ra, e, q⟩ => by
  cases a <;> first | (simp only [U.len] at e; cases e; done) | skip
  · simp only [U.len] at e
    cases e
    obtain ⟨p, ys, rfl, hp, r⟩ := ra.lst s
    refine ⟨p, ys, ex, .inl (SqL.of hp), ?_⟩
    rw [r.length]
    exact q _ _ _ s Ext.refl (.int _)
  · simp only [U.len] at e
    cases e
    obtain ⟨p, ys, rfl, hp, r⟩ := ra.tup
    refine ⟨p, ys, ex, .inr (s.fr.st hp), ?_⟩
    rw [r.length]
    exact q _ _ _ s Ext.refl (.int _)
  · simp only [U.len] at e
    cases e
    obtain ⟨p, rfl, hp⟩ := ra.scr
    refine ⟨p, _, ex, .inl (s.fr.sl hp), ?_⟩
    rw [List.length_map]
    exact q _ _ _ s Ext.refl (.int _)
theorem u_abs : CallR X (.builtin "abs") (rUC X.K U.abs) := CallR.imp call_abs fun xs H Q ⟨x, ex, F, h, a, z, s, ra, e, q⟩ => by
  cases a <;> first | (simp only [U.abs] at e; cases e; done) | skip
  simp only [U.abs] at e
  cases e
  exact ⟨_, by rw [ex, ra.int], q _ _ _ s Ext.refl (.int _)⟩
theorem u_int : CallR X (.type "int") (rUC X.K U.toInt) := CallR.imp call_int1 fun xs H Q ⟨x, ex, F, h, a, z, s, ra, e, q⟩ => by
  cases a <;> first | (simp only [U.toInt] at e; cases e; done) | skip
  · simp only [U.toInt] at e
    cases e
    exact .inr ⟨_, by rw [ex, ra.bl], q _ _ _ s Ext.refl (.int _)⟩
  · simp only [U.toInt] at e
    cases e
    exact .inl ⟨_, by rw [ex, ra.int], q _ _ _ s Ext.refl (.int _)⟩
theorem u_list : CallR X (.type "list") (rNC X.K U.list) := CallR.imp call_list_of fun xs H Q ⟨x, ex, F, h, a, z, s, ra, e, q⟩ => by
  cases a <;> first | (simp only [U.list] at e; cases e; done) | skip
  · simp only [U.list] at e
    cases e
    obtain ⟨p, ys, rfl, hp, r⟩ := ra.lst s
    exact ⟨p, ys, ex, .inl (SqL.of hp), fun l hl => q l _ hl r⟩
  · simp only [U.list] at e
    cases e
    obtain ⟨p, ys, rfl, hp, r⟩ := ra.tup
    exact ⟨p, ys, ex, .inr (s.fr.st hp), fun l hl => q l _ hl r⟩
def _root_.UL.U.tuple : U → Res U
  | .lst us => .ok (.tup us)
  | .tup us => .ok (.tup us)
  | _ => .bad
theorem u_tuple : CallR X (.type "tuple") (rUC X.K U.tuple) := CallR.imp call_tuple_of fun xs H Q ⟨x, ex, F, h, a, z, s, ra, e, q⟩ => by
  cases a <;> first | (simp only [U.tuple] at e; cases e; done) | skip
  · simp only [U.tuple] at e
    cases e
    obtain ⟨p, ys, rfl, hp, r⟩ := ra.lst s
    exact ⟨p, ys, ex, .inl ⟨SqL.of hp, fun l hl => q _ _ _ (s.alloc hl) (s.ext_alloc hl) (.tup (SqT.of upd_same) (r.mono (Sub.new (s.fresh hl).1)))⟩⟩
  · simp only [U.tuple] at e
    cases e
    obtain ⟨p, ys, rfl, hp, r⟩ := ra.tup
    exact ⟨p, ys, ex, .inr ⟨s.fr.st hp, q _ _ _ s Ext.refl (.tup hp r)⟩⟩
theorem cut_rep {K : PySem.W.Frag} {F : Hp} {vs : List V} {us : List U} (r : RepL K F vs us) (l h : Option Int) : RepL K F (cutV vs l h) (U.cut us l h) := by
  unfold cutV U.cut
  rw [r.length]
  exact (r.drop _).take _
def rUS (K : PySem.W.Frag) : V → Option Int → Option Int → Hp → VK → Prop := fun x l u H Q => ∃ F h a z, HS F h H ∧ RepX K F h x a ∧ U.slice a l u = .ok z ∧ PostN K F h H z Q
theorem u_slice : SlR X (rUS X.K) := SlR.imp (SlR.or sl_list sl_tup) fun x l u H Q ⟨F, h, a, z, s, ra, e, q⟩ => by
  cases a <;> first | (simp only [U.slice] at e; cases e; done) | skip
  · simp only [U.slice] at e
    cases e
    obtain ⟨p, ys, rfl, hp, r⟩ := ra.lst s
    exact .inl ⟨p, ys, rfl, SqL.of hp, fun l hl => q l _ hl (cut_rep r _ _)⟩
  · simp only [U.slice] at e
    split at e
    · rename_i hc
      cases e
      obtain ⟨p, ys, rfl, hp, r⟩ := ra.tup
      exact .inr ⟨p, ys, rfl, s.fr.st hp, by rw [r.length]; exact hc, fun l hl => q _ _ _ (s.alloc hl) (s.ext_alloc hl) (.tup (SqT.of upd_same) ((cut_rep r _ _).mono (Sub.new (s.fresh hl).1)))⟩
    · cases e
theorem ints_of {us : List U} {ns : List Int} (h : U.intsOf us = some ns) : us = ns.map U.int := by
  induction us generalizing ns with
  | nil => cases h; rfl
  | cons a r ih =>
    cases a <;> first | (simp only [U.intsOf] at h; cases h; done) | skip
    simp only [U.intsOf] at h
    obtain ⟨m, h1, rfl⟩ := Option.map_eq_some_iff.mp h
    rw [ih h1]
    rfl
theorem ins_perm (n : Int) : ∀ l : List Int, (U.ins n l).Perm (n :: l)
  | [] => .refl _
  | m :: r => by
    unfold U.ins
    split
    · exact .refl _
    · exact ((ins_perm n r).cons m).trans (.swap n m r)
theorem isort_perm : ∀ l : List Int, (U.isort l).Perm l
  | [] => .refl _
  | n :: r => (ins_perm n _).trans ((isort_perm r).cons n)
theorem ins_sorted (n : Int) : ∀ l : List Int, l.Pairwise (· ≤ ·) → (U.ins n l).Pairwise (· ≤ ·)
  | [], _ => List.pairwise_singleton _ _
  | m :: r, h => by
    have h' := List.pairwise_cons.mp h
    unfold U.ins
    split
    · rename_i c
      refine List.pairwise_cons.mpr ⟨fun a ha => ?_, h⟩
      rcases List.mem_cons.mp ha with rfl | ha
      · exact c
      · exact Int.le_trans c (h'.1 a ha)
    · rename_i c
      refine List.pairwise_cons.mpr ⟨fun a ha => ?_, ins_sorted n r h'.2⟩
      have := (ins_perm n r).mem_iff.mp ha
      rcases List.mem_cons.mp this with rfl | ha
      · omega
      · exact h'.1 a ha
theorem isort_sorted : ∀ l : List Int, (U.isort l).Pairwise (· ≤ ·)
  | [] => .nil
  | n :: r => ins_sorted n _ (isort_sorted r)
theorem sorted_unique : ∀ {a b : List Int}, a.Perm b → a.Pairwise (· ≤ ·) → b.Pairwise (· ≤ ·) → a = b := fun {a b} p h1 h2 =>
  List.Perm.eq_of_pairwise (le := fun x y => x ≤ y) (fun x y _ _ h1 h2 => Int.le_antisymm h1 h2) h1 h2 p
theorem u_sorted : CallR X (.builtin "sorted") (rNC X.K U.sorted) := CallR.imp cr_sortedI fun xs H Q ⟨x, ex, F, h, a, z, s, ra, e, q⟩ => by
  cases a <;> first | (simp only [U.sorted] at e; cases e; done) | skip
  rename_i us
  simp only [U.sorted] at e
  split at e
  · rename_i ns hn
    cases e
    have := ints_of hn
    subst this
    obtain ⟨p, ys, rfl, hp, r⟩ := ra.lst s
    cases r.ints
    refine ⟨p, ns, ex, SqL.of hp, fun ns' l pm so hl => ?_⟩
    have e := sorted_unique (pm.trans (isort_perm ns).symm) so (isort_sorted ns)
    subst e
    exact q l _ hl (RepL.of_ints _)
  · cases e
end
end UL

set_option Elab.async false
set_option linter.all false
set_option maxRecDepth 100000
set_option maxHeartbeats 1000000
namespace UL
open PySem PySem.Spec PyProof.Rows L2

/-- how an exception stands: class, own dict, the frozen heap -/
abbrev XR := Ex → Value → Option Addr → Hp → Prop
/-- where one stands: the written part, the exceptions, what is wanted of one, the entry -/
structure Cz where
  K : PySem.W.Frag
  xr : XR
  E : XK
  F0 : Hp
  h0 : Hp
  H0 : Hp
structure CS (Γ : Cz) (F h H : Hp) : Prop where
  hs : HS F h H
  ex : Ext Γ.F0 Γ.h0 Γ.H0 F h H
/-- an exception may leave -/
def XO (Γ : Cz) (X : Ex → Prop) : Prop := ∀ e cls d F h H, X e → CS Γ F h H → Γ.xr e cls d F → Γ.E cls d H
section
variable {Γ : Cz} {F h H F1 h1 H1 : Hp}
theorem CS.go (c : CS Γ F h H) (s : HS F1 h1 H1) (x : Ext F h H F1 h1 H1) : CS Γ F1 h1 H1 := ⟨s, c.ex.trans x⟩
theorem CS.new (c : CS Γ F h H) {p : Addr} {o : HO} (hp : H p = none) : CS Γ (upd F p o) h (upd H p o) := c.go (c.hs.alloc hp) (c.hs.ext_alloc hp)
end

/-! ### expressions -/
def EvU (Γ : Cz) (te : TE) (σ : L2.St) (F h H : Hp) (r : Res U) : Prop := ∀ F1 H1, CS Γ F1 h H1 → Ext F h H F1 h H1 → ∀ (Q : VK) (X : Ex → Prop), XO Γ X →
  r.Len (fun u => ∀ v F2 H2, CS Γ F2 h H2 → Ext F1 h H1 F2 h H2 → RepX Γ.K F2 h v u → Q v H2) X → te σ H1 Q
def EvS (Γ : Cz) (te : TE) (σ : L2.St) (F h H : Hp) (r : Res U) : Prop := ∀ F1 H1, CS Γ F1 h H1 → Ext F h H F1 h H1 → ∀ (Q : VK) (X : Ex → Prop), XO Γ X →
  r.Len (fun u => ∀ v F2 H2, CS Γ F2 h H2 → Ext F1 h H1 F2 h H2 → Rep Γ.K F2 v u → Q v H2) X → te σ H1 Q
/-- a new list -/
def EvN (Γ : Cz) (te : TE) (σ : L2.St) (F h H : Hp) (r : Res U) : Prop := ∀ F1 H1, CS Γ F1 h H1 → Ext F h H F1 h H1 → ∀ (Q : VK) (X : Ex → Prop), XO Γ X →
  r.Len (fun u => ∃ us, u = .lst us ∧ ∀ p xs F2 H2, CS Γ F2 h H2 → Ext F1 h H1 F2 h H2 → H2 p = none → RepL Γ.K F2 xs us → Q (.ref p) (upd H2 p (.lst xs))) X → te σ H1 Q
def EvT (Γ : Cz) (tt : TT) (σ : L2.St) (F h H : Hp) (r : Res Bool) : Prop := ∀ F1 H1, CS Γ F1 h H1 → Ext F h H F1 h H1 → ∀ (Q : Bool → Hp → Prop) (X : Ex → Prop), XO Γ X →
  r.Len (fun u => ∀ F2 H2, CS Γ F2 h H2 → Ext F1 h H1 F2 h H2 → Q u H2) X → tt σ H1 Q
def EvO (Γ : Cz) (to : TO) (σ : L2.St) (F h H : Hp) (r : Res (Option Int)) : Prop := ∀ F1 H1, CS Γ F1 h H1 → Ext F h H F1 h H1 → ∀ (Q : Option Int → Hp → Prop) (X : Ex → Prop), XO Γ X →
  r.Len (fun u => ∀ F2 H2, CS Γ F2 h H2 → Ext F1 h H1 F2 h H2 → Q u H2) X → to σ H1 Q
/-- arguments: A hands the list on -/
def EvA (Γ : Cz) (ta : TA) (σ : L2.St) (F h H : Hp) (A : (α : Type) → (List U → Res α) → Res α) : Prop := ∀ F1 H1, CS Γ F1 h H1 → Ext F h H F1 h H1 → ∀ (Q : List V → Hp → Prop) (X : Ex → Prop) (α : Type) (k : List U → Res α) (P : α → Prop), XO Γ X →
  (A α k).Len P X → (∀ us vs F2 H2, CS Γ F2 h H2 → Ext F1 h H1 F2 h H2 → RepL Γ.K F2 vs us → (k us).Len P X → Q vs H2) → ta σ H1 Q

def NX2 (f : U → U → Res U) : Prop := ∀ a b e, f a b ≠ .exn e
def NX1 (f : U → Res U) : Prop := ∀ a e, f a ≠ .exn e
section
theorem nx_i2 {g : Int → Int → U} : NX2 (U.i2 g) := by intro a b e h; cases a <;> cases b <;> cases h
theorem nx_sub : NX2 U.sub := nx_i2
theorem nx_band : NX2 U.band := nx_i2
theorem nx_lt : NX2 U.lt := nx_i2
theorem nx_le : NX2 U.le := nx_i2
theorem nx_gt : NX2 U.gt := nx_i2
theorem nx_ge : NX2 U.ge := nx_i2
theorem nx_add : NX2 U.add := by intro a b e h; cases a <;> cases b <;> simp only [U.add] at h <;> first | (cases h; done) | (split at h <;> cases h)
theorem nx_mul : NX2 U.mul := by intro a b e h; cases a <;> cases b <;> simp only [U.mul] at h <;> first | (cases h; done) | (split at h <;> cases h)
theorem nx_fdiv : NX2 U.fdiv := by intro a b e h; cases a <;> cases b <;> simp only [U.fdiv] at h <;> first | (cases h; done) | (split at h <;> cases h)
theorem nx_mod : NX2 U.mod := by intro a b e h; cases a <;> cases b <;> simp only [U.mod] at h <;> first | (cases h; done) | (split at h <;> cases h)
theorem nx_pow : NX2 U.pow := by intro a b e h; cases a <;> cases b <;> simp only [U.pow] at h <;> first | (cases h; done) | (split at h <;> cases h)
theorem nx_shl : NX2 U.shl := by intro a b e h; cases a <;> cases b <;> simp only [U.shl] at h <;> first | (cases h; done) | (split at h <;> cases h)
theorem nx_shr : NX2 U.shr := by intro a b e h; cases a <;> cases b <;> simp only [U.shr] at h <;> first | (cases h; done) | (split at h <;> cases h)
theorem nx_eq : NX2 U.eq := by intro a b e h; unfold U.eq at h; split at h <;> cases h
theorem nx_ne : NX2 U.ne := by intro a b e h; unfold U.ne at h; split at h <;> cases h
theorem nx_mem (a b : U) (e : Ex) : U.mem a b ≠ .exn e := by intro h; cases b <;> simp only [U.mem] at h <;> first | (cases h; done) | (split at h <;> cases h)
theorem nx_in : NX2 U.isin := by
  intro a b e h; unfold U.isin Res.bind at h
  have := nx_mem a b
  cases q : U.mem a b with
  | ok k => rw [q] at h; cases h
  | bad => rw [q] at h; cases h
  | exn x => exact this x q
theorem nx_notin : NX2 U.notin := by
  intro a b e h; unfold U.notin Res.bind at h
  have := nx_mem a b
  cases q : U.mem a b with
  | ok k => rw [q] at h; cases h
  | bad => rw [q] at h; cases h
  | exn x => exact this x q
theorem nx_isN : NX2 U.isN := by intro a b e h; cases a <;> cases b <;> cases h
theorem nx_notN : NX2 U.notN := by intro a b e h; cases a <;> cases b <;> cases h
theorem nx_opt {α : Type} {o : Option α} {e : Ex} : U.opt o ≠ .exn e := by cases o <;> intro h <;> cases h
theorem nx_idx : NX2 U.idx := by
  intro a b e h
  cases b <;> first | (cases a <;> cases h; done) | skip
  cases a <;> first | (cases h; done) | exact nx_opt h
theorem nx_neg : NX1 U.neg := by intro a e h; cases a <;> cases h
theorem nx_len : NX1 U.len := by intro a e h; cases a <;> cases h
theorem nx_abs : NX1 U.abs := by intro a e h; cases a <;> cases h
theorem nx_int : NX1 U.toInt := by intro a e h; cases a <;> cases h
theorem nx_list : NX1 U.list := by intro a e h; cases a <;> cases h
theorem nx_tuple : NX1 U.tuple := by intro a e h; cases a <;> cases h
theorem nx_sorted : NX1 U.sorted := by intro a e h; cases a <;> simp only [U.sorted] at h <;> first | (cases h; done) | (split at h <;> cases h)
theorem nx_slice (a : U) (l u : Option Int) (e : Ex) : U.slice a l u ≠ .exn e := by intro h; cases a <;> simp only [U.slice] at h <;> first | (cases h; done) | (split at h <;> cases h)
end

section
variable {Γ : Cz} {σ : L2.St} {F h H : Hp} {ta tb tc te : TE} {ra rb rc r : Res U}
theorem EvS.u (x : EvS Γ te σ F h H r) : EvU Γ te σ F h H r := fun F1 H1 c e Q X hX hl => x F1 H1 c e Q X hX (hl.mono fun u _ q v F2 H2 c2 e2 rv => q v F2 H2 c2 e2 (.inl rv))
theorem ev_var {i : Nat} {v : V} {u : U} (hi : σ[i]? = some (some v)) (rv : Rep Γ.K F v u) : EvS Γ (tVar i) σ F h H (.ok u) := fun F1 H1 c e Q X hX hl =>
  ⟨v, hi, hl v F1 H1 c Ext.refl (rv.mono e.sub)⟩
theorem ev_own {i : Nat} {v : V} {u : U} (hi : σ[i]? = some (some v)) (rv : RepX Γ.K F h v u) : EvU Γ (tVar i) σ F h H (.ok u) := fun F1 H1 c e Q X hX hl =>
  ⟨v, hi, hl v F1 H1 c Ext.refl (rv.mono e.sub)⟩
theorem ev_c {v : V} {u : U} (rv : ∀ F, Rep Γ.K F v u) : EvS Γ (tC v) σ F h H (.ok u) := fun F1 H1 c e Q X hX hl => hl v F1 H1 c Ext.refl (rv _)
theorem ev_i {i : Int} : EvS Γ (tC (.int i)) σ F h H (.ok (.int i)) := ev_c fun _ => .int i
theorem ev_b {i : Bool} : EvS Γ (tC (.bl i)) σ F h H (.ok (.bl i)) := ev_c fun _ => .bl i
theorem ev_n : EvS Γ (tC .non) σ F h H (.ok .non) := ev_c fun _ => .non
theorem ev_s {x : Str} : EvS Γ (tC (.str x)) σ F h H (.ok (.str x)) := ev_c fun _ => .str x
theorem ev_un {f : U → Res U} (nx : NX1 f) (ha : EvU Γ ta σ F h H ra) : EvS Γ (tUn (rU1 Γ.K f) ta) σ F h H (ra >>= fun a => f a) := fun F1 H1 c e Q X hX hl => by
  rw [Res.len_bind] at hl
  refine ha F1 H1 c e _ X hX (hl.mono fun a _ hl v F2 H2 c2 e2 rv => ?_)
  cases q : f a with
  | ok z => rw [q] at hl; exact ⟨F2, h, a, z, c2.hs, rv, q, fun v F' H' s' x' rz => hl v F' H' (c2.go s' x') (e2.trans x') rz⟩
  | exn x => exact absurd q (nx a x)
  | bad => rw [q] at hl; exact hl.elim
theorem bin_go {f : U → U → Res U} {R : R2} (nx : NX2 f) (ha : EvU Γ ta σ F h H ra) (hb : EvU Γ tb σ F h H rb) {F1 H1 : Hp} (c : CS Γ F1 h H1) (e : Ext F h H F1 h H1) {Q : VK} {X : Ex → Prop} (hX : XO Γ X) {P : U → Hp → Hp → Prop}
    (hl : (ra >>= fun a => rb >>= fun b => f a b).Len (fun u => P u F1 H1) X) (hR : ∀ a b z v w F2 H2, CS Γ F2 h H2 → Ext F1 h H1 F2 h H2 → RepX Γ.K F2 h v a → RepX Γ.K F2 h w b → f a b = .ok z → P z F1 H1 → R v w H2 Q) : tOp R ta tb σ H1 Q := by
  rw [Res.len_bind] at hl
  refine ha F1 H1 c e _ X hX (hl.mono fun a _ hl v F2 H2 c2 e2 rv => ?_)
  rw [Res.len_bind] at hl
  refine hb F2 H2 c2 (e.trans e2) _ X hX (hl.mono fun b _ hl w F3 H3 c3 e3 rw' => ?_)
  cases q : f a b with
  | ok z => rw [q] at hl; exact hR a b z v w F3 H3 c3 (e2.trans e3) (rv.mono e3.sub) rw' q hl
  | exn x => exact absurd q (nx a b x)
  | bad => rw [q] at hl; exact hl.elim
theorem ev_op2 {f : U → U → Res U} (nx : NX2 f) (ha : EvU Γ ta σ F h H ra) (hb : EvU Γ tb σ F h H rb) : EvS Γ (tOp (rU2 Γ.K f) ta tb) σ F h H (ra >>= fun a => rb >>= fun b => f a b) := fun F1 H1 c e Q X hX hl =>
  bin_go nx ha hb c e hX (P := fun u F1 H1 => ∀ v F2 H2, CS Γ F2 h H2 → Ext F1 h H1 F2 h H2 → Rep Γ.K F2 v u → Q v H2) hl fun a b z v w F2 H2 c2 e2 rv rw' q p =>
    ⟨F2, h, a, b, z, c2.hs, rv, rw', q, fun v F' H' s' x' rz => p v F' H' (c2.go s' x') (e2.trans x') rz⟩
theorem postN_s {z : U} {Q : VK} {F2 H2 : Hp} (c : CS Γ F2 h H2) (p : ∀ v F3 H3, CS Γ F3 h H3 → Ext F2 h H2 F3 h H3 → Rep Γ.K F3 v z → Q v H3) : PostN Γ.K F2 h H2 z Q := by
  unfold PostN
  split
  · exact fun q xs hq rl => p _ _ _ (c.new hq) (c.hs.ext_alloc hq) (.lst upd_same (rl.mono (Sub.new (c.hs.fresh hq).1)))
  · exact fun v F' H' s' x' rz => p v F' H' (c.go s' x') x' rz
theorem postN_n {us : List U} {Q : VK} {F2 H2 : Hp} (c : CS Γ F2 h H2) (p : ∀ q xs F3 H3, CS Γ F3 h H3 → Ext F2 h H2 F3 h H3 → H3 q = none → RepL Γ.K F3 xs us → Q (.ref q) (upd H3 q (.lst xs))) : PostN Γ.K F2 h H2 (.lst us) Q :=
  fun q xs hq rl => p q xs F2 H2 c Ext.refl hq rl
/-- an operation that may make a list: the value frozen -/
theorem ev_on2 {f : U → U → Res U} (nx : NX2 f) (ha : EvU Γ ta σ F h H ra) (hb : EvU Γ tb σ F h H rb) : EvS Γ (tOp (rN2 Γ.K f) ta tb) σ F h H (ra >>= fun a => rb >>= fun b => f a b) := fun F1 H1 c e Q X hX hl =>
  bin_go nx ha hb c e hX (P := fun u F1 H1 => ∀ v F2 H2, CS Γ F2 h H2 → Ext F1 h H1 F2 h H2 → Rep Γ.K F2 v u → Q v H2) hl fun a b z v w F2 H2 c2 e2 rv rw' q p =>
    ⟨F2, h, a, b, z, c2.hs, rv, rw', q, postN_s c2 fun v F3 H3 c3 e3 r => p v F3 H3 c3 (e2.trans e3) r⟩
/-- .. the new list -/
theorem en_on2 {f : U → U → Res U} (nx : NX2 f) (ha : EvU Γ ta σ F h H ra) (hb : EvU Γ tb σ F h H rb) : EvN Γ (tOp (rN2 Γ.K f) ta tb) σ F h H (ra >>= fun a => rb >>= fun b => f a b) := fun F1 H1 c e Q X hX hl =>
  bin_go nx ha hb c e hX (P := fun u F1 H1 => ∃ us, u = .lst us ∧ ∀ p xs F2 H2, CS Γ F2 h H2 → Ext F1 h H1 F2 h H2 → H2 p = none → RepL Γ.K F2 xs us → Q (.ref p) (upd H2 p (.lst xs))) hl fun a b z v w F2 H2 c2 e2 rv rw' q p => by
    obtain ⟨us, rfl, p⟩ := p
    exact ⟨F2, h, a, b, _, c2.hs, rv, rw', q, postN_n c2 fun q xs F3 H3 c3 e3 r => p q xs F3 H3 c3 (e2.trans e3) r⟩
/-- calls of built-ins with one argument -/
theorem un_go {f : U → Res U} {R : List V → Hp → VK → Prop} (nx : NX1 f) (ha : EvU Γ ta σ F h H ra) {F1 H1 : Hp} (c : CS Γ F1 h H1) (e : Ext F h H F1 h H1) {Q : VK} {X : Ex → Prop} (hX : XO Γ X) {P : U → Hp → Hp → Prop}
    (hl : (ra >>= fun a => f a).Len (fun u => P u F1 H1) X) (hR : ∀ a z v F2 H2, CS Γ F2 h H2 → Ext F1 h H1 F2 h H2 → RepX Γ.K F2 h v a → f a = .ok z → P z F1 H1 → R [v] H2 Q) : tCB R (tCons ta tNil) σ H1 Q := by
  rw [Res.len_bind] at hl
  refine ha F1 H1 c e _ X hX (hl.mono fun a _ hl v F2 H2 c2 e2 rv => ?_)
  cases q : f a with
  | ok z => rw [q] at hl; exact hR a z v F2 H2 c2 e2 rv q hl
  | exn x => exact absurd q (nx a x)
  | bad => rw [q] at hl; exact hl.elim
theorem ev_cb {f : U → Res U} (nx : NX1 f) (ha : EvU Γ ta σ F h H ra) : EvS Γ (tCB (rUC Γ.K f) (tCons ta tNil)) σ F h H (ra >>= fun a => f a) := fun F1 H1 c e Q X hX hl =>
  un_go nx ha c e hX (P := fun u F1 H1 => ∀ v F2 H2, CS Γ F2 h H2 → Ext F1 h H1 F2 h H2 → Rep Γ.K F2 v u → Q v H2) hl fun a z v F2 H2 c2 e2 rv q p =>
    ⟨v, rfl, F2, h, a, z, c2.hs, rv, q, fun v F' H' s' x' rz => p v F' H' (c2.go s' x') (e2.trans x') rz⟩
theorem ev_cbn {f : U → Res U} (nx : NX1 f) (ha : EvU Γ ta σ F h H ra) : EvS Γ (tCB (rNC Γ.K f) (tCons ta tNil)) σ F h H (ra >>= fun a => f a) := fun F1 H1 c e Q X hX hl =>
  un_go nx ha c e hX (P := fun u F1 H1 => ∀ v F2 H2, CS Γ F2 h H2 → Ext F1 h H1 F2 h H2 → Rep Γ.K F2 v u → Q v H2) hl fun a z v F2 H2 c2 e2 rv q p =>
    ⟨v, rfl, F2, h, a, z, c2.hs, rv, q, postN_s c2 fun v F3 H3 c3 e3 r => p v F3 H3 c3 (e2.trans e3) r⟩
theorem en_cbn {f : U → Res U} (nx : NX1 f) (ha : EvU Γ ta σ F h H ra) : EvN Γ (tCB (rNC Γ.K f) (tCons ta tNil)) σ F h H (ra >>= fun a => f a) := fun F1 H1 c e Q X hX hl =>
  un_go nx ha c e hX (P := fun u F1 H1 => ∃ us, u = .lst us ∧ ∀ p xs F2 H2, CS Γ F2 h H2 → Ext F1 h H1 F2 h H2 → H2 p = none → RepL Γ.K F2 xs us → Q (.ref p) (upd H2 p (.lst xs))) hl fun a z v F2 H2 c2 e2 rv q p => by
    obtain ⟨us, rfl, p⟩ := p
    exact ⟨v, rfl, F2, h, a, _, c2.hs, rv, q, postN_n c2 fun q xs F3 H3 c3 e3 r => p q xs F3 H3 c3 (e2.trans e3) r⟩
/-! slices -/
theorem eo_none : EvO Γ tNoPart σ F h H (.ok none) := fun F1 H1 c e Q X hX hl => hl F1 H1 c Ext.refl
def U_part (u : U) : Res (Option Int) := match u with
  | .int i => .ok (some i)
  | _ => .bad
theorem eo_some (ha : EvU Γ ta σ F h H ra) : EvO Γ (tPart ta) σ F h H (ra >>= fun a => U_part a) := fun F1 H1 c e Q X hX hl => by
  rw [Res.len_bind] at hl
  refine ha F1 H1 c e _ X hX (hl.mono fun a _ hl v F2 H2 c2 e2 rv => ?_)
  cases a <;> first | exact hl.elim | skip
  exact ⟨_, rv.int, hl F2 H2 c2 e2⟩
theorem sl_go {tl th : TO} {rl rh : Res (Option Int)} (ha : EvU Γ ta σ F h H ra) (hl' : EvO Γ tl σ F h H rl) (hh : EvO Γ th σ F h H rh) {F1 H1 : Hp} (c : CS Γ F1 h H1) (e : Ext F h H F1 h H1) {Q : VK} {X : Ex → Prop} (hX : XO Γ X) {P : U → Hp → Hp → Prop}
    (hl : (ra >>= fun a => rl >>= fun l => rh >>= fun u => U.slice a l u).Len (fun u => P u F1 H1) X) (hR : ∀ a l u z v F2 H2, CS Γ F2 h H2 → Ext F1 h H1 F2 h H2 → RepX Γ.K F2 h v a → U.slice a l u = .ok z → P z F1 H1 → rUS Γ.K v l u H2 Q) : tSl (rUS Γ.K) ta tl th σ H1 Q := by
  rw [Res.len_bind] at hl
  refine ha F1 H1 c e _ X hX (hl.mono fun a _ hl v F2 H2 c2 e2 rv => ?_)
  rw [Res.len_bind] at hl
  refine hl' F2 H2 c2 (e.trans e2) _ X hX (hl.mono fun l _ hl F3 H3 c3 e3 => ?_)
  rw [Res.len_bind] at hl
  refine hh F3 H3 c3 ((e.trans e2).trans e3) _ X hX (hl.mono fun u _ hl F4 H4 c4 e4 => ?_)
  cases q : U.slice a l u with
  | ok z => rw [q] at hl; exact hR a l u z v F4 H4 c4 ((e2.trans e3).trans e4) (rv.mono (e3.trans e4).sub) q hl
  | exn x => exact absurd q (nx_slice a l u x)
  | bad => rw [q] at hl; exact hl.elim
theorem ev_sl {tl th : TO} {rl rh : Res (Option Int)} (ha : EvU Γ ta σ F h H ra) (hl' : EvO Γ tl σ F h H rl) (hh : EvO Γ th σ F h H rh) :
    EvS Γ (tSl (rUS Γ.K) ta tl th) σ F h H (ra >>= fun a => rl >>= fun l => rh >>= fun u => U.slice a l u) := fun F1 H1 c e Q X hX hl =>
  sl_go ha hl' hh c e hX (P := fun u F1 H1 => ∀ v F2 H2, CS Γ F2 h H2 → Ext F1 h H1 F2 h H2 → Rep Γ.K F2 v u → Q v H2) hl fun a l u z v F2 H2 c2 e2 rv q p =>
    ⟨F2, h, a, z, c2.hs, rv, q, postN_s c2 fun v F3 H3 c3 e3 r => p v F3 H3 c3 (e2.trans e3) r⟩
theorem en_sl {tl th : TO} {rl rh : Res (Option Int)} (ha : EvU Γ ta σ F h H ra) (hl' : EvO Γ tl σ F h H rl) (hh : EvO Γ th σ F h H rh) :
    EvN Γ (tSl (rUS Γ.K) ta tl th) σ F h H (ra >>= fun a => rl >>= fun l => rh >>= fun u => U.slice a l u) := fun F1 H1 c e Q X hX hl =>
  sl_go ha hl' hh c e hX (P := fun u F1 H1 => ∃ us, u = .lst us ∧ ∀ p xs F2 H2, CS Γ F2 h H2 → Ext F1 h H1 F2 h H2 → H2 p = none → RepL Γ.K F2 xs us → Q (.ref p) (upd H2 p (.lst xs))) hl fun a l u z v F2 H2 c2 e2 rv q p => by
    obtain ⟨us, rfl, p⟩ := p
    exact ⟨F2, h, a, _, c2.hs, rv, q, postN_n c2 fun q xs F3 H3 c3 e3 r => p q xs F3 H3 c3 (e2.trans e3) r⟩
/-! arguments, displays -/
theorem ea_nil : EvA Γ tNil σ F h H (fun _ k => k []) := fun F1 H1 c e Q X α k P hX hl q => q [] [] F1 H1 c Ext.refl .nil hl
theorem ea_cons {tr : TA} {A : (α : Type) → (List U → Res α) → Res α} (ha : EvS Γ ta σ F h H ra) (hr : EvA Γ tr σ F h H A) : EvA Γ (tCons ta tr) σ F h H (fun α k => ra >>= fun a => A α fun us => k (a :: us)) := fun F1 H1 c e Q X α k P hX hl q => by
  dsimp only at hl
  rw [Res.len_bind] at hl
  refine ha F1 H1 c e _ X hX (hl.mono fun a _ hl v F2 H2 c2 e2 rv => ?_)
  exact hr F2 H2 c2 (e.trans e2) _ X α (fun us => k (a :: us)) P hX hl fun us vs F3 H3 c3 e3 rl hl => q (a :: us) (v :: vs) F3 H3 c3 (e2.trans e3) (.cons (rv.mono e3.sub) rl) hl
def mkT (us : List U) : Res U := if us.length ≤ 16777216 then .ok (.tup us) else .bad
def mkL (us : List U) : Res U := if us.length ≤ 16777216 then .ok (.lst us) else .bad
theorem ev_tup {t : TA} {A : (α : Type) → (List U → Res α) → Res α} (ha : EvA Γ t σ F h H A) : EvS Γ (tTup t) σ F h H (A U mkT) := fun F1 H1 c e Q X hX hl =>
  ha F1 H1 c e _ X U mkT _ hX hl fun us vs F2 H2 c2 e2 rl hl => by
    unfold mkT at hl
    split at hl
    · rename_i hz
      exact ⟨by rw [line_eq, rl.length]; exact hz, fun p hp => hl _ _ _ (c2.new hp) (e2.trans (c2.hs.ext_alloc hp)) (.tup (SqT.of upd_same) (rl.mono (Sub.new (c2.hs.fresh hp).1)))⟩
    · exact hl.elim
theorem ev_lst {t : TA} {A : (α : Type) → (List U → Res α) → Res α} (ha : EvA Γ t σ F h H A) : EvS Γ (tLst t) σ F h H (A U mkL) := fun F1 H1 c e Q X hX hl =>
  ha F1 H1 c e _ X U mkL _ hX hl fun us vs F2 H2 c2 e2 rl hl => by
    unfold mkL at hl
    split at hl
    · rename_i hz
      exact ⟨by rw [line_eq, rl.length]; exact hz, fun p hp => hl _ _ _ (c2.new hp) (e2.trans (c2.hs.ext_alloc hp)) (.lst upd_same (rl.mono (Sub.new (c2.hs.fresh hp).1)))⟩
    · exact hl.elim
theorem en_lst {t : TA} {A : (α : Type) → (List U → Res α) → Res α} (ha : EvA Γ t σ F h H A) : EvN Γ (tLst t) σ F h H (A U mkL) := fun F1 H1 c e Q X hX hl =>
  ha F1 H1 c e _ X U mkL _ hX hl fun us vs F2 H2 c2 e2 rl hl => by
    unfold mkL at hl
    split at hl
    · rename_i hz
      obtain ⟨us', e1, hl⟩ := hl
      cases e1
      exact ⟨by rw [line_eq, rl.length]; exact hz, fun p hp => hl p vs F2 H2 c2 e2 hp rl⟩
    · exact hl.elim
/-! tests -/
theorem et_test (ha : EvU Γ ta σ F h H ra) : EvT Γ (tTest ta) σ F h H (ra >>= fun a => U.bool? a) := fun F1 H1 c e Q X hX hl => by
  rw [Res.len_bind] at hl
  refine ha F1 H1 c e _ X hX (hl.mono fun a _ hl v F2 H2 c2 e2 rv => ?_)
  cases a <;> first | exact hl.elim | skip
  exact ⟨_, rv.bl, hl F2 H2 c2 e2⟩
theorem et_B (ha : EvU Γ ta σ F h H ra) : EvT Γ (tB ta) σ F h H (ra >>= fun a => U.bool? a) := et_test ha
variable {tt tu : TT} {r1 r2 : Res Bool}
theorem et_and (h1 : EvT Γ tt σ F h H r1) (h2 : EvT Γ tu σ F h H r2) : EvT Γ (tAnd tt tu) σ F h H (r1 >>= fun b => if b = true then r2 else .ok false) := fun F1 H1 c e Q X hX hl => by
  rw [Res.len_bind] at hl
  refine h1 F1 H1 c e _ X hX (hl.mono fun a _ hl F2 H2 c2 e2 => ?_)
  cases a with
  | true => exact h2 F2 H2 c2 (e.trans e2) Q X hX (Res.Len.mono (m := r2) hl fun u _ q F3 H3 c3 e3 => q F3 H3 c3 (e2.trans e3))
  | false => exact (show _ from hl) F2 H2 c2 e2
theorem et_or (h1 : EvT Γ tt σ F h H r1) (h2 : EvT Γ tu σ F h H r2) : EvT Γ (tOr tt tu) σ F h H (r1 >>= fun b => if b = true then .ok true else r2) := fun F1 H1 c e Q X hX hl => by
  rw [Res.len_bind] at hl
  refine h1 F1 H1 c e _ X hX (hl.mono fun a _ hl F2 H2 c2 e2 => ?_)
  cases a with
  | false => exact h2 F2 H2 c2 (e.trans e2) Q X hX (Res.Len.mono (m := r2) hl fun u _ q F3 H3 c3 e3 => q F3 H3 c3 (e2.trans e3))
  | true => exact (show _ from hl) F2 H2 c2 e2
theorem et_not (h1 : EvT Γ tt σ F h H r1) : EvT Γ (tNot tt) σ F h H (r1 >>= fun b => .ok (!b)) := fun F1 H1 c e Q X hX hl => by
  rw [Res.len_bind] at hl
  exact h1 F1 H1 c e _ X hX (hl.mono fun a _ hl F2 H2 c2 e2 => hl F2 H2 c2 e2)
theorem ev_if (h1 : EvT Γ tt σ F h H r1) (ha : EvS Γ ta σ F h H ra) (hb : EvS Γ tb σ F h H rb) : EvS Γ (tIf tt ta tb) σ F h H (r1 >>= fun b => if b = true then ra else rb) := fun F1 H1 c e Q X hX hl => by
  rw [Res.len_bind] at hl
  refine h1 F1 H1 c e _ X hX (hl.mono fun a _ hl F2 H2 c2 e2 => ?_)
  cases a with
  | true => exact ha F2 H2 c2 (e.trans e2) Q X hX (Res.Len.mono (m := ra) hl fun u _ q v F3 H3 c3 e3 => q v F3 H3 c3 (e2.trans e3))
  | false => exact hb F2 H2 c2 (e.trans e2) Q X hX (Res.Len.mono (m := rb) hl fun u _ q v F3 H3 c3 e3 => q v F3 H3 c3 (e2.trans e3))
theorem ev_andV (ha : EvU Γ ta σ F h H ra) (hb : EvS Γ tb σ F h H rb) : EvS Γ (tAndV ta tb) σ F h H (ra >>= fun a => U.bool? a >>= fun b => if b = true then rb else .ok (.bl false)) := fun F1 H1 c e Q X hX hl => by
  rw [Res.len_bind] at hl
  refine ha F1 H1 c e _ X hX (hl.mono fun a ea hl v F2 H2 c2 e2 rv => ?_)
  clear ea
  cases a <;> first | exact hl.elim | skip
  rename_i b
  refine ⟨b, rv.bl, ?_⟩
  cases b with
  | true => exact hb F2 H2 c2 (e.trans e2) Q X hX (Res.Len.mono (m := rb) hl fun u _ q v F3 H3 c3 e3 => q v F3 H3 c3 (e2.trans e3))
  | false => exact (show _ from hl) _ F2 H2 c2 e2 (.bl false)
theorem ev_orV (ha : EvU Γ ta σ F h H ra) (hb : EvS Γ tb σ F h H rb) : EvS Γ (tOrV ta tb) σ F h H (ra >>= fun a => U.bool? a >>= fun b => if b = true then .ok (.bl true) else rb) := fun F1 H1 c e Q X hX hl => by
  rw [Res.len_bind] at hl
  refine ha F1 H1 c e _ X hX (hl.mono fun a ea hl v F2 H2 c2 e2 rv => ?_)
  clear ea
  cases a <;> first | exact hl.elim | skip
  rename_i b
  refine ⟨b, rv.bl, ?_⟩
  cases b with
  | false => exact hb F2 H2 c2 (e.trans e2) Q X hX (Res.Len.mono (m := rb) hl fun u _ q v F3 H3 c3 e3 => q v F3 H3 c3 (e2.trans e3))
  | true => exact (show _ from hl) _ F2 H2 c2 e2 (.bl true)
theorem ev_notV (ha : EvU Γ ta σ F h H ra) : EvS Γ (tNotV ta) σ F h H (ra >>= fun a => U.bool? a >>= fun b => .ok (.bl (!b))) := fun F1 H1 c e Q X hX hl => by
  rw [Res.len_bind] at hl
  refine ha F1 H1 c e _ X hX (hl.mono fun a _ hl v F2 H2 c2 e2 rv => ?_)
  cases a <;> first | exact hl.elim | skip
  exact ⟨_, rv.bl, hl _ F2 H2 c2 e2 (.bl _)⟩
/-- a op b op' c -/
theorem ev_chain {f g : U → U → Res U} (nx : NX2 f) (nx' : NX2 g) (ha : EvU Γ ta σ F h H ra) (hb : EvU Γ tb σ F h H rb) (hc : EvU Γ tc σ F h H rc) :
    EvS Γ (tChain (rU2 Γ.K f) (rU2 Γ.K g) ta tb tc) σ F h H (ra >>= fun a => rb >>= fun b => f a b >>= fun z => U.bool? z >>= fun k => if k = true then rc >>= fun c => g b c else .ok (.bl false)) := fun F1 H1 c e Q X hX hl => by
  rw [Res.len_bind] at hl
  refine ha F1 H1 c e _ X hX (hl.mono fun a _ hl v F2 H2 c2 e2 rv => ?_)
  rw [Res.len_bind] at hl
  refine hb F2 H2 c2 (e.trans e2) _ X hX (hl.mono fun b _ hl w F3 H3 c3 e3 rw' => ?_)
  cases q : f a b with
  | exn x => exact absurd q (nx a b x)
  | bad => rw [q] at hl; exact hl.elim
  | ok z =>
    rw [q] at hl
    cases z <;> first | exact hl.elim | skip
    rename_i k
    refine ⟨F3, h, a, b, _, c3.hs, rv.mono e3.sub, rw', q, fun v' F' H' s' x' rz => ?_⟩
    cases rz
    refine ⟨k, rfl, ?_⟩
    have c4 := c3.go s' x'
    cases k with
    | false => exact (show _ from hl) _ F' H' c4 ((e2.trans e3).trans x') (.bl false)
    | true =>
      have hl : (rc >>= fun c => g b c).Len _ X := hl
      rw [Res.len_bind] at hl
      refine hc F' H' c4 (((e.trans e2).trans e3).trans x') _ X hX (hl.mono fun c' _ hl y F5 H5 c5 e5 ry => ?_)
      cases q2 : g b c' with
      | exn x => exact absurd q2 (nx' b c' x)
      | bad => rw [q2] at hl; exact hl.elim
      | ok z' =>
        rw [q2] at hl
        exact ⟨F5, h, b, c', z', c5.hs, rw'.mono (x'.trans e5).sub, ry, q2, fun v F6 H6 s6 x6 r6 => hl v F6 H6 (c5.go s6 x6) ((((e2.trans e3).trans x').trans e5).trans x6) r6⟩
end
end UL

set_option Elab.async false
set_option linter.all false
set_option maxRecDepth 100000
set_option maxHeartbeats 1000000
namespace UL
open PySem PySem.Spec PyProof.Rows L2

/-! ### owned lists -/
inductive Own (K : PySem.W.Frag) (F : Hp) : Hp → List (V × U) → Prop
  | nil : Own K F emp []
  | cons {p : Addr} {xs : List V} {us : List U} {h : Hp} {l : List (V × U)} : RepL K F xs us → h p = none → Own K F h l → Own K F (upd h p (.lst xs)) ((.ref p, .lst us) :: l)
  | fl {v : V} {u : U} {h : Hp} {l : List (V × U)} : Rep K F v u → u.flat = true → Own K F h l → Own K F h ((v, u) :: l)
def del (h : Hp) (p : Addr) : Hp := fun a => if a = p then none else h a
theorem del_same {h : Hp} {p : Addr} : del h p p = none := by unfold del; rw [if_pos rfl]
theorem del_ne {h : Hp} {p a : Addr} (n : a ≠ p) : del h p a = h a := by unfold del; rw [if_neg n]
theorem del_upd {h : Hp} {p : Addr} {o : HO} (n : h p = none) : del (upd h p o) p = h := by
  funext a
  by_cases e : a = p
  · subst e; rw [del_same, n]
  · rw [del_ne e, upd_ne e]
theorem del_upd_ne {h : Hp} {p q : Addr} {o : HO} (n : p ≠ q) : del (upd h p o) q = upd (del h q) p o := by
  funext a
  by_cases e : a = q
  · subst e; rw [del_same, upd_ne n.symm, del_same]
  · rw [del_ne e]
    by_cases e2 : a = p
    · subst e2; rw [upd_same, upd_same]
    · rw [upd_ne e2, upd_ne e2, del_ne e]
theorem upd_comm {h : Hp} {p q : Addr} {o u : HO} (n : p ≠ q) : upd (upd h p o) q u = upd (upd h q u) p o := by
  funext a
  by_cases e : a = q
  · subst e; rw [upd_same, upd_ne n.symm, upd_same]
  · rw [upd_ne e]
    by_cases e2 : a = p
    · subst e2; rw [upd_same, upd_same]
    · rw [upd_ne e2, upd_ne e2, upd_ne e]
section
variable {K : PySem.W.Frag} {F F' h H : Hp} {l : List (V × U)} {p : Addr} {u : U} {v : V}
theorem Own.mono (e : Sub F F') : ∀ {h : Hp} {l : List (V × U)}, Own K F h l → Own K F' h l
  | _, _, .nil => .nil
  | _, _, .cons r n o => .cons (r.mono e) n (Own.mono e o)
  | _, _, .fl r n o => .fl (r.mono e) n (Own.mono e o)
/-- what an entry is: an owned list, or a scalar -/
theorem Own.get : ∀ {h : Hp} {l : List (V × U)} {i : Nat}, Own K F h l → l[i]? = some (v, u) → (∃ p xs us, v = .ref p ∧ u = .lst us ∧ h p = some (.lst xs) ∧ RepL K F xs us) ∨ (Rep K F v u ∧ u.flat = true)
  | _, _, _, .nil, e => by simp at e
  | _, _, 0, .cons r n o, e => by
    simp at e
    obtain ⟨rfl, rfl⟩ := e
    exact .inl ⟨_, _, _, rfl, rfl, upd_same, r⟩
  | _, _, 0, .fl r n o, e => by
    simp at e
    obtain ⟨rfl, rfl⟩ := e
    exact .inr ⟨r, n⟩
  | _, _, i + 1, .cons r n o, e => by
    rcases Own.get (i := i) o (by simpa using e) with ⟨p, xs, us, a0, a, b, c⟩ | q
    · refine .inl ⟨p, xs, us, a0, a, ?_, c⟩
      rw [upd_ne (fun z => by subst z; rw [n] at b; cases b)]
      exact b
    · exact .inr q
  | _, _, i + 1, .fl r n o, e => Own.get (i := i) o (by simpa using e)
theorem Own.set : ∀ {h : Hp} {l : List (V × U)} {i : Nat} {us : List U} {xs' : List V} {us' : List U}, Own K F h l → l[i]? = some (.ref p, .lst us) → RepL K F xs' us' → Own K F (upd h p (.lst xs')) (l.set i (.ref p, .lst us'))
  | _, _, _, _, _, _, .nil, e, _ => by simp at e
  | _, _, 0, _, _, _, .cons r n o, e, r' => by
    simp at e
    obtain ⟨rfl, rfl⟩ := e
    rw [upd_upd]
    exact .cons r' n o
  | _, _, 0, _, _, _, .fl r n o, e, r' => by
    simp at e
    obtain ⟨rfl, rfl⟩ := e
    cases n
  | _, _, i + 1, _, _, _, .cons (p := q) r n o, e, r' => by
    have e' : _ := (show _ from (by simpa using e : _))
    rcases Own.get (i := i) o e' with ⟨p', xs, us, a0, a, b, c⟩ | ⟨_, z⟩
    · cases a0
      have ne : q ≠ p := fun z => by subst z; rw [n] at b; cases b
      rw [upd_comm ne]
      exact .cons r (by rw [upd_ne ne]; exact n) (Own.set o e' r')
    · cases z
  | _, _, i + 1, _, _, _, .fl r n o, e, r' => .fl r n (Own.set o (by simpa using e) r')
theorem Own.delL : ∀ {h : Hp} {l : List (V × U)} {i : Nat} {us : List U}, Own K F h l → l[i]? = some (.ref p, .lst us) → Own K F (UL.del h p) (l.eraseIdx i)
  | _, _, _, _, .nil, e => by simp at e
  | _, _, 0, _, .cons r n o, e => by
    simp at e
    obtain ⟨rfl, rfl⟩ := e
    rw [del_upd n]
    exact o
  | _, _, 0, _, .fl r n o, e => by
    simp at e
    obtain ⟨rfl, rfl⟩ := e
    cases n
  | _, _, i + 1, _, .cons (p := q) r n o, e => by
    have e' : _ := (show _ from (by simpa using e : _))
    rcases Own.get (i := i) o e' with ⟨p', xs, us, a0, a, b, c⟩ | ⟨_, z⟩
    · cases a0
      have ne : q ≠ p := fun z => by subst z; rw [n] at b; cases b
      rw [del_upd_ne ne]
      exact .cons r (by rw [del_ne ne]; exact n) (Own.delL o e')
    · cases z
  | _, _, i + 1, _, .fl r n o, e => .fl r n (Own.delL o (by simpa using e))
theorem Own.delF : ∀ {h : Hp} {l : List (V × U)} {i : Nat}, Own K F h l → l[i]? = some (v, u) → u.flat = true → Own K F h (l.eraseIdx i)
  | _, _, _, .nil, e, _ => by simp at e
  | _, _, 0, .cons r n o, e, f => by
    simp at e
    obtain ⟨rfl, rfl⟩ := e
    cases f
  | _, _, 0, .fl r n o, e, _ => o
  | _, _, i + 1, .cons r n o, e, f => .cons r n (Own.delF o (by simpa using e) f)
  | _, _, i + 1, .fl r n o, e, f => .fl r n (Own.delF o (by simpa using e) f)
theorem Own.read {i : Nat} (o : Own K F h l) (e : l[i]? = some (v, u)) : RepX K F h v u := by
  rcases o.get e with ⟨p, xs, us, rfl, a, b, c⟩ | ⟨q, _⟩
  · exact .inr ⟨p, xs, us, rfl, a, b, c⟩
  · exact .inl q
theorem HS.write {o o' : HO} (s : HS F h H) (hp : h p = some o) : HS F (upd h p o') (upd H p o') := by
  have f0 : F p = none := s.dj p (by rw [hp]; simp)
  refine ⟨fun a x e => ?_, s.ow.upd p o', fun a n => ?_⟩
  · rw [upd_ne (ne_of_none e f0)]; exact s.fr a x e
  · by_cases e : a = p
    · subst e; exact f0
    · rw [upd_ne e] at n; exact s.dj a n
theorem HS.ext_write {o o' : HO} (s : HS F h H) (hp : h p = some o) : Ext F h H F (upd h p o') (upd H p o') where
  sub := Sub.refl F
  dom := fun a e => by
    by_cases q : a = p
    · subst q; rw [upd_same] at e; cases e
    · rw [upd_ne q] at e; exact e
  fr := fun a x e n => by
    rw [upd_ne (fun q => by subst q; rw [n] at hp; cases hp)]; exact e
  nf := fun a n => .inl n
  nh := fun a n => by
    by_cases q : a = p
    · subst q; exact .inr (by rw [hp]; simp)
    · rw [upd_ne q] at n; exact .inr n
theorem HS.newo {o : HO} (s : HS F h H) (hp : H p = none) : HS F (upd h p o) (upd H p o) := by
  obtain ⟨f0, _⟩ := s.fresh hp
  refine ⟨fun a x e => ?_, s.ow.upd p o, fun a n => ?_⟩
  · rw [upd_ne (ne_of_none e f0)]; exact s.fr a x e
  · by_cases e : a = p
    · subst e; exact f0
    · rw [upd_ne e] at n; exact s.dj a n
theorem HS.ext_newo {o : HO} (s : HS F h H) (hp : H p = none) : Ext F h H F (upd h p o) (upd H p o) where
  sub := Sub.refl F
  dom := fun a e => by
    by_cases q : a = p
    · subst q; exact hp
    · rw [upd_ne q] at e; exact e
  fr := fun a x e n => Sub.new hp a x e
  nf := fun a n => .inl n
  nh := fun a n => by
    by_cases q : a = p
    · subst q; exact .inl hp
    · rw [upd_ne q] at n; exact .inr n
theorem HS.freeze {o : HO} (s : HS F h H) (hp : h p = some o) : HS (upd F p o) (del h p) H := by
  refine ⟨fun a x e => ?_, fun a x e => ?_, fun a n => ?_⟩
  · by_cases q : a = p
    · subst q; rw [upd_same] at e; rw [← e]; exact s.ow _ _ hp
    · rw [upd_ne q] at e; exact s.fr a x e
  · by_cases q : a = p
    · subst q; rw [del_same] at e; cases e
    · rw [del_ne q] at e; exact s.ow a x e
  · by_cases q : a = p
    · subst q; rw [del_same] at n; exact absurd rfl n
    · rw [del_ne q] at n; rw [upd_ne q]; exact s.dj a n
theorem HS.ext_freeze {o : HO} (s : HS F h H) (hp : h p = some o) : Ext F h H (upd F p o) (del h p) H where
  sub := Sub.new (s.dj p (by rw [hp]; simp))
  dom := fun a e => e
  fr := fun a x e _ => e
  nf := fun a n => by
    by_cases q : a = p
    · subst q; exact .inr (.inr (by rw [hp]; simp))
    · rw [upd_ne q] at n; exact .inl n
  nh := fun a n => by
    by_cases q : a = p
    · subst q; rw [del_same] at n; exact absurd rfl n
    · rw [del_ne q] at n; exact .inr n
/-- what is dropped is owned by nobody -/
theorem HS.drop (s : HS F h H) : HS F emp H := ⟨s.fr, fun a o e => (by cases e), fun a n => absurd rfl n⟩
theorem HS.dropO (s : HS F h H) : HS F (UL.del h p) H := ⟨s.fr, fun a o e => (by
  by_cases q : a = p
  · subst q; rw [del_same] at e; cases e
  · rw [del_ne q] at e; exact s.ow a o e), fun a n => (by
  by_cases q : a = p
  · subst q; rw [del_same] at n; exact absurd rfl n
  · rw [del_ne q] at n; exact s.dj a n)⟩
theorem ext_dropO : Ext F h H F (UL.del h p) H := ⟨Sub.refl F, fun _ e => e, fun _ _ e _ => e, fun _ n => .inl n, fun a n => by
  by_cases q : a = p
  · subst q; rw [del_same] at n; exact absurd rfl n
  · rw [del_ne q] at n; exact .inr n⟩
end

/-! ### stepping -/
section
variable {Γ : Cz} {σ : L2.St} {F h H : Hp} {D : Ends} {t t2 u : TS} {ta tb te : TE} {R : R2} {Q : VK} {tt tu : TT} {QT : Bool → Hp → Prop} {i : Nat} {g : TG}
theorem c_set (q : te σ H fun x H1 => t2 D (σ.set i (some x)) H1) : tSeq (tAsg te (gName i)) t2 D σ H := q
theorem c_drop (q : te σ H fun _ H1 => t2 D σ H1) : tSeq (tDrop te) t2 D σ H := q
theorem c_ret (q : te σ H D.rt) : tSeq (tRet te) t2 D σ H := q
theorem c_if (q : tt σ H fun b H1 => if b = true then t { D with nx := t2 D } σ H1 else u { D with nx := t2 D } σ H1) : tSeq (tIfS tt t u) t2 D σ H := q
theorem c_test (q : te σ H fun x H' => ∃ k, x = .bl k ∧ QT k H') : tTest te σ H QT := q
theorem c_B (q : te σ H fun x H' => ∃ k, x = .bl k ∧ QT k H') : tB te σ H QT := q
theorem c_op2 (q : ta σ H fun x H1 => tb σ H1 fun y H2 => R x y H2 Q) : tOp R ta tb σ H Q := q
theorem c_not (q : tt σ H fun c H1 => QT (!c) H1) : tNot tt σ H QT := q
/-- a part that changes nothing owned -/
theorem x_pure {α : Type} {r : Res U} {M : U → Res α} {P : α → Prop} {X : Ex → Prop} (c : CS Γ F h H) (he : EvU Γ te σ F h H r) (hX : XO Γ X) (hk : (r >>= M).Len P X)
    (k : ∀ u v F1 H1, CS Γ F1 h H1 → Ext F h H F1 h H1 → RepX Γ.K F1 h v u → (M u).Len P X → Q v H1) : te σ H Q := by
  rw [Res.len_bind] at hk
  exact he F H c Ext.refl Q X hX (hk.mono fun u _ hl v F2 H2 c2 e2 rv => k u v F2 H2 c2 e2 rv hl)
theorem x_val {α : Type} {r : Res U} {M : U → Res α} {P : α → Prop} {X : Ex → Prop} (c : CS Γ F h H) (he : EvS Γ te σ F h H r) (hX : XO Γ X) (hk : (r >>= M).Len P X)
    (k : ∀ u v F1 H1, CS Γ F1 h H1 → Sub F F1 → Rep Γ.K F1 v u → (M u).Len P X → Q v H1) : te σ H Q := by
  rw [Res.len_bind] at hk
  exact he F H c Ext.refl Q X hX (hk.mono fun u _ hl v F2 H2 c2 e2 rv => k u v F2 H2 c2 e2.sub rv hl)
def _root_.UL.U.isl : U → Res U
  | .lst us => .ok (.lst us)
  | _ => .bad
/-- a new list, owned -/
theorem x_new {α : Type} {l : List (V × U)} {r : Res U} {M : U → Res α} {P : α → Prop} {X : Ex → Prop} (c : CS Γ F h H) (o : Own Γ.K F h l) (he : EvN Γ te σ F h H r) (hX : XO Γ X) (hk : (r >>= fun a => U.isl a >>= M).Len P X)
    (k : ∀ u v F1 h1 H1, CS Γ F1 h1 H1 → Sub F F1 → Own Γ.K F1 h1 ((v, u) :: l) → (M u).Len P X → Q v H1) : te σ H Q := by
  rw [Res.len_bind] at hk
  refine he F H c Ext.refl Q X hX (hk.mono fun u eu hl => ?_)
  clear eu
  cases u <;> first | exact hl.elim | skip
  rename_i us
  refine ⟨us, rfl, fun p xs F2 H2 c2 e2 hp rv => ?_⟩
  exact k _ _ F2 _ _ (c2.go (c2.hs.newo hp) (c2.hs.ext_newo hp)) e2.sub (.cons rv (c2.hs.fresh hp).2 (o.mono e2.sub)) hl
theorem x_t {α : Type} {r : Res Bool} {M : Bool → Res α} {P : α → Prop} {X : Ex → Prop} (c : CS Γ F h H) (he : EvT Γ tt σ F h H r) (hX : XO Γ X) (hk : (r >>= M).Len P X)
    (k : ∀ b F1 H1, CS Γ F1 h H1 → Sub F F1 → (M b).Len P X → QT b H1) : tt σ H QT := by
  rw [Res.len_bind] at hk
  exact he F H c Ext.refl QT X hX (hk.mono fun u _ hl F2 H2 c2 e2 => k u F2 H2 c2 e2.sub hl)
/-- if: the two ways -/
theorem x_if {α : Type} {r : Res Bool} {m1 m2 : Res α} {P : α → Prop} {X : Ex → Prop} (c : CS Γ F h H) (he : EvT Γ tt σ F h H r) (hX : XO Γ X) (hk : (r >>= fun b => if b = true then m1 else m2).Len P X)
    (k1 : ∀ F1 H1, CS Γ F1 h H1 → Sub F F1 → m1.Len P X → t { D with nx := t2 D } σ H1) (k2 : ∀ F1 H1, CS Γ F1 h H1 → Sub F F1 → m2.Len P X → u { D with nx := t2 D } σ H1) : tSeq (tIfS tt t u) t2 D σ H :=
  c_if (x_t c he hX hk fun b F1 H1 c1 e1 hl => by
    cases b with
    | true => exact k1 F1 H1 c1 e1 hl
    | false => exact k2 F1 H1 c1 e1 hl)
/-- .. by stepping: the answer has come -/
theorem c_way {α : Type} {b : Bool} {A B : Prop} {m1 m2 : Res α} {P : α → Prop} {X : Ex → Prop} (hk : (if b = true then m1 else m2).Len P X) (k1 : m1.Len P X → A) (k2 : m2.Len P X → B) : if b = true then A else B := by
  cases b with
  | true => exact k1 hk
  | false => exact k2 hk
/-- a test whose value is known as a value -/
theorem x_kt {α : Type} {v : V} {a : U} {M : Bool → Res α} {P : α → Prop} {X : Ex → Prop} {QT : Bool → Prop} (c : CS Γ F h H) (rv : RepX Γ.K F h v a) (hk : (U.bool? a >>= M).Len P X) (k : ∀ b, (M b).Len P X → QT b) : ∃ k, v = .bl k ∧ QT k := by
  cases a <;> first | exact hk.elim | skip
  exact ⟨_, rv.bl, k _ hk⟩
theorem x_ap2 {α : Type} {f : U → U → Res U} {v w : V} {a b : U} {M : U → Res α} {P : α → Prop} {X : Ex → Prop} (c : CS Γ F h H) (nx : NX2 f) (rv : RepX Γ.K F h v a) (rw' : RepX Γ.K F h w b) (hk : (f a b >>= M).Len P X)
    (k : ∀ u v F1 H1, CS Γ F1 h H1 → Sub F F1 → Rep Γ.K F1 v u → (M u).Len P X → Q v H1) : rU2 Γ.K f v w H Q := by
  cases q : f a b with
  | exn x => exact absurd q (nx a b x)
  | bad => rw [q] at hk; exact hk.elim
  | ok z => rw [q] at hk; exact ⟨F, h, a, b, z, c.hs, rv, rw', q, fun v F' H' s' x' rz => k z v F' H' (c.go s' x') x'.sub rz hk⟩
theorem x_apn2 {α : Type} {f : U → U → Res U} {v w : V} {a b : U} {M : U → Res α} {P : α → Prop} {X : Ex → Prop} (c : CS Γ F h H) (nx : NX2 f) (rv : RepX Γ.K F h v a) (rw' : RepX Γ.K F h w b) (hk : (f a b >>= M).Len P X)
    (k : ∀ u v F1 H1, CS Γ F1 h H1 → Sub F F1 → Rep Γ.K F1 v u → (M u).Len P X → Q v H1) : rN2 Γ.K f v w H Q := by
  cases q : f a b with
  | exn x => exact absurd q (nx a b x)
  | bad => rw [q] at hk; exact hk.elim
  | ok z => rw [q] at hk; exact ⟨F, h, a, b, z, c.hs, rv, rw', q, postN_s c fun v F3 H3 c3 e3 r => k z v F3 H3 c3 e3.sub r hk⟩
end

/-! ### changes of an owned list -/
def _root_.UL.U.app : U → U → Res U
  | .lst us, x => if us.length < 16777216 then .ok (.lst (us ++ [x])) else .bad
  | _, _ => .bad
/-- l.pop(i): what is left, what was taken -/
def _root_.UL.U.popAt : U → U → Res (U × U)
  | .lst us, .int i => if -(2 ^ 63) ≤ i ∧ i < 2 ^ 63 then (U.opt (U.ixOf us.length i)) >>= fun k => U.opt us[k]? >>= fun y => .ok (y, .lst (us.eraseIdx k)) else .bad
  | _, _ => .bad
def _root_.UL.U.setAt : U → U → U → Res U
  | .lst us, .int i, x => (U.opt (U.ixOf us.length i)) >>= fun k => .ok (.lst (us.set k x))
  | _, _, _ => .bad
section
variable {Γ : Cz} {σ : L2.St} {F h H : Hp} {D : Ends} {t t2 u : TS} {ta tb te : TE} {i : Nat} {l : List (V × U)} {pv : V} {w : U} {α : Type} {P : α → Prop} {X : Ex → Prop}
theorem CS.write (c : CS Γ F h H) {p : Addr} {o o' : HO} (hp : h p = some o) : CS Γ F (upd h p o') (upd H p o') := c.go (c.hs.write hp) (c.hs.ext_write hp)
theorem ixOf_lt {n : Nat} {i : Int} {k : Nat} (h : U.ixOf n i = some k) : k < n := by
  unfold U.ixOf at h
  split at h
  · split at h
    · cases h; omega
    · cases h
  · split at h
    · cases h; omega
    · cases h
theorem ixOf_seq {n : Nat} {i : Int} {k : Nat} (h : U.ixOf n i = some k) : seqIndex? i n = some k := by
  have e : ixN n i = some k := h
  have := (ixN_seq e).1
  simpa using this
/-- xs.append(x), by values -/
theorem x_app (j : Nat) {v : V} {x : U} {M : U → Res α} (c : CS Γ F h H) (o : Own Γ.K F h l) (hj : l[j]? = some (pv, w)) (rv : Rep Γ.K F v x) (hk : (U.app w x >>= M).Len P X) {Q : VK}
    (k : ∀ u h1 H1, CS Γ F h1 H1 → Own Γ.K F h1 (l.set j (pv, u)) → (M u).Len P X → Q .non H1) : tyV Γ.K "list" pv H ∧ rAppend pv [v] H Q := by
  rcases o.get hj with ⟨p, xs, us, rfl, rfl, hp, rl⟩ | ⟨_, f⟩
  · simp only [U.app] at hk
    split at hk
    · rename_i hz
      have ra : RepL Γ.K F (xs ++ [v]) (us ++ [x]) := rl.append (.cons rv .nil)
      exact ⟨.inl ⟨rfl, _, SqL.of (c.hs.ow _ _ hp)⟩, p, xs, v, rfl, rfl, c.hs.ow _ _ hp, by rw [line_eq, rl.length]; exact hz, k _ _ _ (c.write hp) (o.set hj ra) hk⟩
    · exact hk.elim
  · cases w <;> first | exact hk.elim | cases f
theorem own_ty {K : PySem.W.Frag} (o : Own K F h l) {j : Nat} {us : List U} (hj : l[j]? = some (pv, .lst us)) (s : HS F h H) : tyV K "list" pv H := by
  rcases o.get hj with ⟨p, xs, us, rfl, _, hp, rl⟩ | ⟨_, f⟩
  · exact .inl ⟨rfl, _, SqL.of (s.ow _ _ hp)⟩
  · cases f
theorem app_lst {w x : U} {M : U → Res α} (hk : (U.app w x >>= M).Len P X) : ∃ us, w = .lst us := by
  cases w <;> first | exact ⟨_, rfl⟩ | exact hk.elim
theorem popAt_lst {w x : U} {M : U × U → Res α} (hk : (U.popAt w x >>= M).Len P X) : ∃ us, w = .lst us := by
  cases w <;> first | exact ⟨_, rfl⟩ | (cases x <;> exact hk.elim)
/-- f(xs, e), xs owned, of a method of lists: xs is looked at first -/
theorem c_bm {v : V} {Q : VK} {K : PySem.W.Frag} {r : V → List V → Hp → VK → Prop} (hi : σ[i]? = some (some v)) (ht : tyV K "list" v H) (q : te σ H fun y H2 => r v [y] H2 Q) : tBM K "list" r (tVar i) (tCons te tNil) σ H Q :=
  ⟨v, hi, ht, q⟩
theorem c_app {v : V} {K : PySem.W.Frag} {r : V → List V → Hp → VK → Prop} (hi : σ[i]? = some (some v)) (ht : tyV K "list" v H) (q : te σ H fun y H2 => r v [y] H2 fun _ H3 => t2 D σ H3) : tSeq (tDrop (tBM K "list" r (tVar i) (tCons te tNil))) t2 D σ H :=
  ⟨v, hi, ht, q⟩
/-- xs.pop(i) -/
theorem x_popAt (j : Nat) {v : V} {x : U} {M : U × U → Res α} (c : CS Γ F h H) (o : Own Γ.K F h l) (hj : l[j]? = some (pv, w)) (rv : RepX Γ.K F h v x) (hk : (U.popAt w x >>= M).Len P X) {Q : VK}
    (k : ∀ y u vy h1 H1, CS Γ F h1 H1 → Own Γ.K F h1 (l.set j (pv, u)) → Rep Γ.K F vy y → (M (y, u)).Len P X → Q vy H1) : rPopAt pv [v] H Q := by
  rcases o.get hj with ⟨p, xs, us, rfl, rfl, hp, rl⟩ | ⟨_, f⟩
  · cases x <;> first | exact hk.elim | skip
    rename_i i
    simp only [U.popAt] at hk
    split at hk
    · rename_i hz
      cases e1 : U.ixOf us.length i with
      | none => rw [e1] at hk; exact hk.elim
      | some n =>
        rw [e1] at hk
        cases e2 : us[n]? with
        | none => simp only [U.opt, Res.ok_bind, e2] at hk; exact hk.elim
        | some y =>
          simp only [U.opt, Res.ok_bind, e2] at hk
          obtain ⟨vy, hv, ry⟩ := rl.get e2
          exact ⟨p, xs, i, n, vy, rfl, by rw [rv.int], c.hs.ow _ _ hp, hz.1, hz.2, by rw [rl.length]; exact ixOf_seq e1, hv, k y _ vy _ _ (c.write hp) (o.set hj (rl.eraseIdx n)) ry hk⟩
    · exact hk.elim
  · cases w <;> first | (cases x <;> exact hk.elim) | cases f
/-- xs[i] = e: e, xs, i in this order -/
theorem c_setAt (q : te σ H fun y H1 => ta σ H1 fun o H2 => tb σ H2 fun k H3 => rSetL o k y H3 fun H4 => t2 D σ H4) : tSeq (tAsg te (gSub ta tb rSetL)) t2 D σ H := q
theorem x_setAt (j : Nat) {v k : V} {x n : U} {M : U → Res α} (c : CS Γ F h H) (o : Own Γ.K F h l) (hj : l[j]? = some (pv, w)) (rv : Rep Γ.K F v x) (rk : RepX Γ.K F h k n) (hk : (U.setAt w n x >>= M).Len P X) {Q : Hp → Prop}
    (kk : ∀ u h1 H1, CS Γ F h1 H1 → Own Γ.K F h1 (l.set j (pv, u)) → (M u).Len P X → Q H1) : rSetL pv k v H Q := by
  rcases o.get hj with ⟨p, xs, us, rfl, rfl, hp, rl⟩ | ⟨_, f⟩
  · cases n <;> first | exact hk.elim | skip
    rename_i i
    simp only [U.setAt] at hk
    cases e1 : U.ixOf us.length i with
    | none => rw [e1] at hk; exact hk.elim
    | some n =>
      rw [e1] at hk
      simp only [U.opt, Res.ok_bind] at hk
      exact ⟨p, xs, i, n, rfl, rk.int, c.hs.ow _ _ hp, by rw [rl.length]; exact e1, kk _ _ _ (c.write hp) (o.set hj (rl.set rv n)) hk⟩
  · cases w <;> first | (cases n <;> exact hk.elim) | cases f
/-- owned no longer, for good: frozen -/
theorem x_frz (j : Nat) {u : U} (c : CS Γ F h H) (o : Own Γ.K F h l) (hj : l[j]? = some (pv, u)) {G : Prop} (k : ∀ F1 h1, CS Γ F1 h1 H → Sub F F1 → Own Γ.K F1 h1 (l.eraseIdx j) → Rep Γ.K F1 pv u → G) : G := by
  rcases o.get hj with ⟨p, xs, us, rfl, rfl, hp, rl⟩ | ⟨r, f⟩
  · have s := c.hs.freeze hp
    have e := c.hs.ext_freeze hp
    exact k _ _ (c.go s e) e.sub ((o.delL hj).mono e.sub) (.lst upd_same (rl.mono e.sub))
  · exact k F h c (Sub.refl F) (o.delF hj f) r
/-- .. dropped -/
theorem x_drop (j : Nat) {u : U} (c : CS Γ F h H) (o : Own Γ.K F h l) (hj : l[j]? = some (pv, u)) {G : Prop} (k : ∀ h1, CS Γ F h1 H → Own Γ.K F h1 (l.eraseIdx j) → G) : G := by
  rcases o.get hj with ⟨p, xs, us, rfl, rfl, hp, rl⟩ | ⟨r, f⟩
  · exact k _ (c.go c.hs.dropO ext_dropO) (o.delL hj)
  · exact k h c (o.delF hj f)
/-- a value, put among the owned: a scalar -/
theorem Own.scal {v : V} {u : U} (o : Own Γ.K F h l) (r : Rep Γ.K F v u) (f : u.flat = true) : Own Γ.K F h ((v, u) :: l) := .fl r f o
/-! the whole seen as frozen, for a value that is a scalar -/
def uni (F h : Hp) : Hp := fun a => match h a with
  | some o => some o
  | none => F a
theorem uni_F (s : HS F h H) : Sub F (uni F h) := fun a o e => by
  unfold uni
  cases q : h a with
  | none => exact e
  | some u => rw [s.dj a (by rw [q]; simp)] at e; cases e
theorem uni_h : Sub h (uni F h) := fun a o e => by unfold uni; rw [e]
theorem CS.uni (c : CS Γ F h H) : CS Γ (uni F h) emp H := by
  refine ⟨⟨fun a o e => ?_, fun a o e => (by cases e), fun a n => absurd rfl n⟩, ⟨c.ex.sub.trans (uni_F c.hs), c.ex.dom, c.ex.fr, fun a n => ?_, fun a n => absurd rfl n⟩⟩
  · unfold UL.uni at e
    cases q : h a with
    | none => rw [q] at e; exact c.hs.fr a o e
    | some u => rw [q] at e; cases e; exact c.hs.ow a _ q
  · unfold UL.uni at n
    cases q : h a with
    | none => rw [q] at n; exact c.ex.nf a n
    | some u =>
      rcases c.ex.nh a (by rw [q]; simp) with z | z
      · exact .inr (.inl z)
      · exact .inr (.inr z)
def sep (F h : Hp) : Hp := fun a => match h a with
  | some _ => none
  | none => F a
theorem CS.sep {F2 H2 : Hp} (c : CS Γ F h H) (c2 : CS Γ F2 emp H2) (e : Ext (UL.uni F h) emp H F2 emp H2) : CS Γ (sep F2 h) h H2 ∧ Sub F (sep F2 h) := by
  have hh : Sub h F2 := uni_h.trans e.sub
  have es : Ext F h H (UL.sep F2 h) h H2 := by
    refine ⟨fun a o r => ?_, e.dom, fun a o r _ => e.fr a o r rfl, fun a n => ?_, fun a n => .inr n⟩
    · unfold UL.sep
      cases q : h a with
      | none => exact e.sub a o (uni_F c.hs a o r)
      | some u => rw [c.hs.dj a (by rw [q]; simp)] at r; cases r
    · unfold UL.sep at n
      cases q : h a with
      | some u => rw [q] at n; exact absurd rfl n
      | none =>
        rw [q] at n
        rcases e.nf a n with z | z | z
        · unfold UL.uni at z; rw [q] at z; exact .inl z
        · exact .inr (.inl z)
        · exact absurd rfl z
  refine ⟨c.go ⟨fun a o r => ?_, fun a o r => c2.hs.fr a o (hh a o r), fun a n => ?_⟩ es, es.sub⟩
  · unfold UL.sep at r
    cases q : h a with
    | none => rw [q] at r; exact c2.hs.fr a o r
    | some u => rw [q] at r; cases r
  · unfold UL.sep
    cases q : h a with
    | none => exact absurd q n
    | some u => rfl
theorem Own.uni (s : HS F h H) (o : Own Γ.K F h l) {j : Nat} {v : V} {u : U} (hj : l[j]? = some (v, u)) : Rep Γ.K (UL.uni F h) v u := by
  rcases o.get hj with ⟨p, xs, us, rfl, rfl, hp, rl⟩ | ⟨r, f⟩
  · exact .lst (uni_h _ _ hp) (rl.mono (uni_F s))
  · exact r.mono (uni_F s)
def _root_.UL.U.scal (u : U) : Res U := if u.flat = true then .ok u else .bad
theorem flat_any {K : PySem.W.Frag} {F F' : Hp} {v : V} {u : U} (r : Rep K F v u) (f : u.flat = true) : Rep K F' v u := by
  cases r <;> first | (cases f; done) | constructor
theorem x_scal {r : Res U} {M : U → Res α} {Q : VK} (c : CS Γ F h H) (o : Own Γ.K F h l) (he : ∀ Fz, Sub F Fz → (∀ (j : Nat) v u, l[j]? = some (v, u) → Rep Γ.K Fz v u) → EvS Γ te σ Fz emp H r) (hX : XO Γ X) (hk : (r >>= fun u => U.scal u >>= M).Len P X)
    (k : ∀ u v F1 H1, CS Γ F1 h H1 → Sub F F1 → Rep Γ.K F1 v u → (M u).Len P X → Q v H1) : te σ H Q := by
  rw [Res.len_bind] at hk
  refine he (UL.uni F h) (uni_F c.hs) (fun j v u hj => o.uni c.hs hj) (UL.uni F h) H c.uni Ext.refl Q X hX (hk.mono fun u _ hl v F2 H2 c2 e2 rv => ?_)
  unfold U.scal at hl
  split at hl
  · rename_i f
    obtain ⟨a, b⟩ := c.sep c2 e2
    exact k u v _ H2 a b (flat_any rv f) hl
  · exact hl.elim
theorem x_scalT {tt : TT} {r : Res Bool} {M : Bool → Res α} {QT : Bool → Hp → Prop} (c : CS Γ F h H) (o : Own Γ.K F h l) (he : ∀ Fz, Sub F Fz → (∀ (j : Nat) v u, l[j]? = some (v, u) → Rep Γ.K Fz v u) → EvT Γ tt σ Fz emp H r) (hX : XO Γ X) (hk : (r >>= M).Len P X)
    (k : ∀ b F1 H1, CS Γ F1 h H1 → Sub F F1 → (M b).Len P X → QT b H1) : tt σ H QT := by
  rw [Res.len_bind] at hk
  refine he (UL.uni F h) (uni_F c.hs) (fun j v u hj => o.uni c.hs hj) (UL.uni F h) H c.uni Ext.refl QT X hX (hk.mono fun u _ hl F2 H2 c2 e2 => ?_)
  obtain ⟨a, b⟩ := c.sep c2 e2
  exact k u _ H2 a b hl
end
end UL

set_option Elab.async false
set_option linter.all false
set_option maxRecDepth 100000
set_option maxHeartbeats 1000000
namespace UL
open PySem PySem.Spec PyProof.Rows L2

/-! ### arities -/
def ar0 {α : Type} (f : Res α) : List U → Res α | [] => f | _ => .bad
def ar1 {α : Type} (f : U → Res α) : List U → Res α | [a] => f a | _ => .bad
def ar2 {α : Type} (f : U → U → Res α) : List U → Res α | [a, b] => f a b | _ => .bad
def ar3 {α : Type} (f : U → U → U → Res α) : List U → Res α | [a, b, c] => f a b c | _ => .bad
def ar4 {α : Type} (f : U → U → U → U → Res α) : List U → Res α | [a, b, c, d] => f a b c d | _ => .bad
def ar5 {α : Type} (f : U → U → U → U → U → Res α) : List U → Res α | [a, b, c, d, e] => f a b c d e | _ => .bad
def ar6 {α : Type} (f : U → U → U → U → U → U → Res α) : List U → Res α | [a, b, c, d, e, g] => f a b c d e g | _ => .bad
def ar7 {α : Type} (f : U → U → U → U → U → U → U → Res α) : List U → Res α | [a, b, c, d, e, g, i] => f a b c d e g i | _ => .bad
def AR {α : Type} (n : Nat) (m : List U → Res α) : Prop := ∀ us, us.length ≠ n → m us = .bad
theorem ar0_n {α : Type} {f : Res α} : AR 0 (ar0 f) := fun us h => by match us, h with | _ :: _, _ => rfl | [], h => exact absurd rfl h
theorem ar1_n {α : Type} {f : U → Res α} : AR 1 (ar1 f) := fun us h => by match us, h with | [], _ => rfl | [a], h => exact absurd rfl h | _ :: _ :: _, _ => rfl
theorem ar2_n {α : Type} {f : U → U → Res α} : AR 2 (ar2 f) := fun us h => by match us, h with | [], _ => rfl | [a], _ => rfl | [a, b], h => exact absurd rfl h | _ :: _ :: _ :: _, _ => rfl
theorem ar3_n {α : Type} {f : U → U → U → Res α} : AR 3 (ar3 f) := fun us h => by match us, h with | [], _ => rfl | [a], _ => rfl | [a, b], _ => rfl | [a, b, c], h => exact absurd rfl h | _ :: _ :: _ :: _ :: _, _ => rfl
theorem ar4_n {α : Type} {f : U → U → U → U → Res α} : AR 4 (ar4 f) := fun us h => by match us, h with | [], _ => rfl | [a], _ => rfl | [a, b], _ => rfl | [a, b, c], _ => rfl | [a, b, c, d], h => exact absurd rfl h | _ :: _ :: _ :: _ :: _ :: _, _ => rfl
theorem ar5_n {α : Type} {f : U → U → U → U → U → Res α} : AR 5 (ar5 f) := fun us h => by match us, h with | [], _ => rfl | [a], _ => rfl | [a, b], _ => rfl | [a, b, c], _ => rfl | [a, b, c, d], _ => rfl | [a, b, c, d, e], h => exact absurd rfl h | _ :: _ :: _ :: _ :: _ :: _ :: _, _ => rfl
theorem ar6_n {α : Type} {f : U → U → U → U → U → U → Res α} : AR 6 (ar6 f) := fun us h => by match us, h with | [], _ => rfl | [a], _ => rfl | [a, b], _ => rfl | [a, b, c], _ => rfl | [a, b, c, d], _ => rfl | [a, b, c, d, e], _ => rfl | [a, b, c, d, e, g], h => exact absurd rfl h | _ :: _ :: _ :: _ :: _ :: _ :: _ :: _, _ => rfl
theorem ar7_n {α : Type} {f : U → U → U → U → U → U → U → Res α} : AR 7 (ar7 f) := fun us h => by match us, h with | [], _ => rfl | [a], _ => rfl | [a, b], _ => rfl | [a, b, c], _ => rfl | [a, b, c, d], _ => rfl | [a, b, c, d, e], _ => rfl | [a, b, c, d, e, g], _ => rfl | [a, b, c, d, e, g, i], h => exact absurd rfl h | _ :: _ :: _ :: _ :: _ :: _ :: _ :: _ :: _, _ => rfl

/-! ### promises -/
def ExP (xr : XR) (F h H : Hp) (E : XK) (X : Ex → Prop) : Prop := ∀ e cls d F2 h2 H2, X e → HS F2 h2 H2 → Ext F h H F2 h2 H2 → xr e cls d F2 → E cls d H2
/-- reads its arguments, hands back a value -/
def SpF (K : PySem.W.Frag) (xr : XR) (n : Nat) (m : List U → Res U) : Sp := fun vs H Q E => vs.length = n ∧ ∃ F us X, HS F emp H ∧ RepL K F vs us ∧ ExP xr F emp H E X ∧
  (m us).Len (fun u => ∀ v F2 H2, HS F2 emp H2 → Ext F emp H F2 emp H2 → Rep K F2 v u → Q v H2) X
/-- .. a new list (or a scalar) -/
def SpN (K : PySem.W.Frag) (xr : XR) (n : Nat) (m : List U → Res U) : Sp := fun vs H Q E => vs.length = n ∧ ∃ F us X, HS F emp H ∧ RepL K F vs us ∧ ExP xr F emp H E X ∧
  (m us).Len (fun u => ∀ v F2 h2 H2, HS F2 h2 H2 → Ext F emp H F2 h2 H2 → Own K F2 h2 [(v, u)] → Q v H2) X
/-- changes its first argument, hands back a value -/
def SpS (K : PySem.W.Frag) (xr : XR) (n : Nat) (m : List U → Res (U × U)) : Sp := fun vs H Q E => vs.length = n ∧ ∃ F h us X pv w vs', vs = pv :: vs' ∧ HS F h H ∧ Own K F h [(pv, w)] ∧ RepL K F vs' us ∧ ExP xr F h H E X ∧
  (m (w :: us)).Len (fun u => ∀ v F2 h2 H2, HS F2 h2 H2 → Ext F h H F2 h2 H2 → Own K F2 h2 [(pv, u.2)] → Rep K F2 v u.1 → Q v H2) X
/-- .. a new list -/
def SpSN (K : PySem.W.Frag) (xr : XR) (n : Nat) (m : List U → Res (U × U)) : Sp := fun vs H Q E => vs.length = n ∧ ∃ F h us X pv w vs', vs = pv :: vs' ∧ HS F h H ∧ Own K F h [(pv, w)] ∧ RepL K F vs' us ∧ ExP xr F h H E X ∧
  (m (w :: us)).Len (fun u => ∀ v F2 h2 H2, HS F2 h2 H2 → Ext F h H F2 h2 H2 → Own K F2 h2 [(v, u.1), (pv, u.2)] → Q v H2) X
section
variable {K : PySem.W.Frag} {xr : XR} {n : Nat} {vs : List V} {H : Hp} {Q : VK} {E : XK}
theorem SpF.len {m : List U → Res U} (h : SpF K xr n m vs H Q E) : vs.length = n := h.1
theorem SpN.len {m : List U → Res U} (h : SpN K xr n m vs H Q E) : vs.length = n := h.1
theorem SpS.len {m : List U → Res (U × U)} (h : SpS K xr n m vs H Q E) : vs.length = n := h.1
theorem SpSN.len {m : List U → Res (U × U)} (h : SpSN K xr n m vs H Q E) : vs.length = n := h.1
end

/-! ### the owned apart: a part h1 of h, the rest kept -/
/-- h is h1 and r, apart -/
structure Par (h h1 h2 : Hp) : Prop where
  l : Sub h1 h
  r : Sub h2 h
  a : ∀ a, h a ≠ none → h1 a ≠ none ∨ h2 a ≠ none
  d : ∀ a, h1 a ≠ none → h2 a = none
def joi (h r : Hp) : Hp := fun a => match h a with
  | some o => some o
  | none => r a
theorem joi_some {h r : Hp} {a : Addr} {o : HO} (e : h a = some o) : joi h r a = some o := by unfold joi; rw [e]
theorem joi_none {h r : Hp} {a : Addr} (e : h a = none) : joi h r a = r a := by unfold joi; rw [e]
theorem Par.emp {h : Hp} : Par h UL.emp h := ⟨fun _ _ e => (by cases e), Sub.refl _, fun _ n => .inr n, fun _ n => absurd rfl n⟩
/-- back from a call: it had h1, it leaves h2 -/
theorem call_back {F h H F2 h1 h2 H2 r : Hp} (s : HS F h H) (p : Par h h1 r) (s2 : HS F2 h2 H2) (e : Ext F h1 H F2 h2 H2) : HS F2 (joi h2 r) H2 ∧ Ext F h H F2 (joi h2 r) H2 ∧ (∀ a, r a ≠ none → h2 a = none) := by
  have rh : ∀ a, r a ≠ none → h1 a = none := fun a n => by
    cases q : h1 a with
    | none => rfl
    | some u => exact absurd (p.d a (by rw [q]; simp)) n
  have rH : ∀ a, r a ≠ none → H a ≠ none := fun a n z => by
    cases q : r a with
    | none => exact n q
    | some u => rw [s.ow a u (p.r a u q)] at z; cases z
  have rF : ∀ a, r a ≠ none → F2 a = none := fun a n => by
    cases q : F2 a with
    | none => rfl
    | some o =>
      rcases e.nf a (by rw [q]; simp) with z | z | z
      · cases q2 : r a with
        | none => exact absurd q2 n
        | some u => exact absurd (s.dj a (by rw [p.r a u q2]; simp)) z
      · exact absurd z (rH a n)
      · exact absurd (rh a n) z
  have rh2 : ∀ a, r a ≠ none → h2 a = none := fun a n => by
    cases q : h2 a with
    | none => rfl
    | some o =>
      rcases e.nh a (by rw [q]; simp) with z | z
      · exact absurd z (rH a n)
      · exact absurd (rh a n) z
  refine ⟨⟨s2.fr, fun a o q => ?_, fun a q => ?_⟩, ⟨e.sub, e.dom, fun a o q q' => e.fr a o q ?_, fun a q => ?_, fun a q => ?_⟩, rh2⟩
  · cases q2 : h2 a with
    | some u => rw [joi_some q2] at q; cases q; exact s2.ow a _ q2
    | none =>
      rw [joi_none q2] at q
      exact e.fr a o (s.ow a o (p.r a o q)) (rh a (by rw [q]; simp))
  · cases q2 : h2 a with
    | some u => exact s2.dj a (by rw [q2]; simp)
    | none => rw [joi_none q2] at q; exact rF a q
  · cases q2 : h1 a with
    | none => rfl
    | some u => rw [p.l a u q2] at q'; cases q'
  · rcases e.nf a q with z | z | z
    · exact .inl z
    · exact .inr (.inl z)
    · refine .inr (.inr ?_)
      cases q2 : h1 a with
      | none => exact absurd q2 z
      | some u => rw [p.l a u q2]; simp
  · cases q2 : h2 a with
    | some u =>
      rcases e.nh a (by rw [q2]; simp) with z | z
      · exact .inl z
      · refine .inr ?_
        cases q3 : h1 a with
        | none => exact absurd q3 z
        | some u => rw [p.l a u q3]; simp
    | none =>
      rw [joi_none q2] at q
      cases q3 : r a with
      | none => exact absurd q3 q
      | some u => exact .inr (by rw [p.r a u q3]; simp)
theorem joi_upd {h r : Hp} {p : Addr} {o : HO} : joi (upd h p o) r = upd (joi h r) p o := by
  funext a
  by_cases e : a = p
  · subst e; rw [joi_some upd_same, upd_same]
  · rw [upd_ne e]
    cases q : h a with
    | some u => rw [joi_some (by rw [upd_ne e]; exact q), joi_some q]
    | none => rw [joi_none (by rw [upd_ne e]; exact q), joi_none q]
theorem joi_emp {r : Hp} : joi UL.emp r = r := by funext a; exact joi_none rfl
/-- two lists of owned, put together -/
theorem Own.joi {K : PySem.W.Frag} {F : Hp} {r : Hp} {l2 : List (V × U)} (o2 : Own K F r l2) : ∀ {h : Hp} {l : List (V × U)}, Own K F h l → (∀ a, r a ≠ none → h a = none) → Own K F (UL.joi h r) (l ++ l2)
  | _, _, .nil, _ => by rw [joi_emp]; exact o2
  | _, _, .cons (p := p) (h := h0) rl n o, d => by
    rw [joi_upd]
    have d' : ∀ a, r a ≠ none → h0 a = none := fun a q => by
      have := d a q
      by_cases e : a = p
      · subst e; rw [upd_same] at this; cases this
      · rw [upd_ne e] at this; exact this
    refine .cons rl ?_ (Own.joi o2 o d')
    rw [joi_none n]
    cases q : r p with
    | none => rfl
    | some u => have := d p (by rw [q]; simp); rw [upd_same] at this; cases this
  | _, _, .fl rv f o, d => .fl rv f (Own.joi o2 o d)
/-- one entry taken out: its part, the rest -/
theorem Own.part {K : PySem.W.Frag} {F h : Hp} {l : List (V × U)} {j : Nat} {pv : V} {w : U} (o : Own K F h l) (hj : l[j]? = some (pv, w)) : ∃ h1 r, Par h h1 r ∧ Own K F h1 [(pv, w)] ∧ Own K F r (l.eraseIdx j) := by
  rcases o.get hj with ⟨p, xs, us, rfl, rfl, hp, rl⟩ | ⟨q, f⟩
  · refine ⟨upd UL.emp p (.lst xs), UL.del h p, ⟨fun a o e => ?_, fun a o e => ?_, fun a n => ?_, fun a n => ?_⟩, .cons rl rfl .nil, o.delL hj⟩
    · by_cases q : a = p
      · subst q; rw [upd_same] at e; rw [hp]; exact e
      · rw [upd_ne q] at e; cases e
    · by_cases q : a = p
      · subst q; rw [del_same] at e; cases e
      · rw [del_ne q] at e; exact e
    · by_cases q : a = p
      · subst q; exact .inl (by rw [upd_same]; simp)
      · exact .inr (by rw [del_ne q]; exact n)
    · by_cases q : a = p
      · subst q; exact del_same
      · rw [upd_ne q] at n; exact absurd rfl n
  · exact ⟨UL.emp, h, Par.emp, .fl q f .nil, o.delF hj f⟩
theorem HS.part {F h H h1 r : Hp} (s : HS F h H) (p : Par h h1 r) : HS F h1 H := ⟨s.fr, fun a o e => s.ow a o (p.l a o e), fun a n => by
  cases q : h1 a with
  | none => exact absurd q n
  | some u => exact s.dj a (by rw [p.l a u q]; simp)⟩
theorem ext_part {F h H F2 h2 H2 h1 r : Hp} (p : Par h h1 r) (e : Ext F h1 H F2 h2 H2) : Ext F h H F2 h2 H2 := by
  have hh : ∀ a, h1 a ≠ none → h a ≠ none := fun a n => by
    cases q : h1 a with
    | none => exact absurd q n
    | some u => rw [p.l a u q]; simp
  refine ⟨e.sub, e.dom, fun a u q q' => e.fr a u q ?_, fun a q => ?_, fun a q => ?_⟩
  · cases q2 : h1 a with
    | none => rfl
    | some z => exact absurd q' (hh a (by rw [q2]; simp))
  · rcases e.nf a q with z | z | z
    · exact .inl z
    · exact .inr (.inl z)
    · exact .inr (.inr (hh a z))
  · rcases e.nh a q with z | z
    · exact .inl z
    · exact .inr (hh a z)

section
variable {Γ : Cz} {σ : L2.St} {F h H : Hp} {ta : TE} {tr t : TA} {n : Nat}
theorem exP_of (c : CS Γ F h H) {X : Ex → Prop} (hX : XO Γ X) {h1 r : Hp} (p : Par h h1 r) : ExP Γ.xr F h1 H Γ.E X := fun e cls d F2 h2 H2 he s2 x2 hx => by
  refine hX e cls d F2 h2 H2 he ⟨s2, c.ex.trans (ext_part p x2)⟩ hx
theorem len_ar {α β : Type} {m : List U → Res α} {M : α → Res β} {us : List U} {vs : List V} {K : PySem.W.Frag} {F : Hp} {P : α → Prop} {X : Ex → Prop} (hn : AR n m) (rl : RepL K F vs us) (hl : (m us).Len P X) : vs.length = n := by
  rw [rl.length]
  by_cases hl' : us.length = n
  · exact hl'
  · rw [hn us hl'] at hl; exact hl.elim
/-- f(..): a def that owns nothing -/
theorem ev_call {m : List U → Res U} {A : (α : Type) → (List U → Res α) → Res α} (hn : AR n m) (ha : EvA Γ t σ F h H A) : EvS Γ (tCall (SpF Γ.K Γ.xr n m) [] Γ.E t) σ F h H (A U m) := fun F1 H1 c e Q X hX hl =>
  ha F1 H1 c e _ X U m _ hX hl fun us vs F2 H2 c2 e2 rl hl => by
    show SpF _ _ _ _ (vs ++ []) _ _ _
    rw [List.append_nil]
    refine ⟨len_ar (M := fun _ => (.bad : Res U)) hn rl hl, F2, us, X, c2.hs.drop, rl, exP_of c2 hX Par.emp, hl.mono fun u _ q v F3 H3 s3 x3 r3 => ?_⟩
    obtain ⟨a, b, _⟩ := call_back c2.hs Par.emp s3 x3
    rw [joi_emp] at a b
    exact q v F3 H3 (c2.go a b) (e2.trans b) r3
/-- .. that makes a list: frozen -/
theorem ev_callN {m : List U → Res U} {A : (α : Type) → (List U → Res α) → Res α} (hn : AR n m) (ha : EvA Γ t σ F h H A) : EvS Γ (tCall (SpN Γ.K Γ.xr n m) [] Γ.E t) σ F h H (A U m) := fun F1 H1 c e Q X hX hl =>
  ha F1 H1 c e _ X U m _ hX hl fun us vs F2 H2 c2 e2 rl hl => by
    show SpN _ _ _ _ (vs ++ []) _ _ _
    rw [List.append_nil]
    refine ⟨len_ar (M := fun _ => (.bad : Res U)) hn rl hl, F2, us, X, c2.hs.drop, rl, exP_of c2 hX Par.emp, hl.mono fun u _ q v F3 h3 H3 s3 x3 o3 => ?_⟩
    rcases o3.get (i := 0) rfl with ⟨p, xs, us', rfl, rfl, hp, rl3⟩ | ⟨r3, f3⟩
    · have s4 := s3.freeze hp
      have e4 := x3.trans (s3.ext_freeze hp)
      have d4 : HS (upd F3 p (.lst xs)) emp H3 := s4.drop
      have e5 : Ext F2 emp H2 (upd F3 p (.lst xs)) emp H3 := ⟨e4.sub, e4.dom, e4.fr, e4.nf, fun a n => absurd rfl n⟩
      obtain ⟨a, b, _⟩ := call_back c2.hs Par.emp d4 e5
      rw [joi_emp] at a b
      exact q _ _ _ (c2.go a b) (e2.trans b) (.lst upd_same (rl3.mono (s3.ext_freeze hp).sub))
    · have e5 : Ext F2 emp H2 F3 emp H3 := ⟨x3.sub, x3.dom, x3.fr, x3.nf, fun a n => absurd rfl n⟩
      obtain ⟨a, b, _⟩ := call_back c2.hs Par.emp s3.drop e5
      rw [joi_emp] at a b
      exact q _ _ _ (c2.go a b) (e2.trans b) r3
/-- .. owned: by stepping -/
theorem x_callN {α : Type} {l : List (V × U)} {m : List U → Res U} {A : (α : Type) → (List U → Res α) → Res α} {M : U → Res α} {P : α → Prop} {X : Ex → Prop} {Q : VK} (c : CS Γ F h H) (o : Own Γ.K F h l) (hn : AR n m) (ha : EvA Γ t σ F h H A) (hX : XO Γ X)
    (hk : (A α fun us => m us >>= M).Len P X) (k : ∀ u v F1 h1 H1, CS Γ F1 h1 H1 → Sub F F1 → Own Γ.K F1 h1 ((v, u) :: l) → (M u).Len P X → Q v H1) :
    tCall (SpN Γ.K Γ.xr n m) [] Γ.E t σ H Q :=
  ha F H c Ext.refl _ X α _ P hX hk fun us vs F2 H2 c2 e2 rl hl => by
    show SpN _ _ _ _ (vs ++ []) _ _ _
    rw [List.append_nil]
    rw [Res.len_bind] at hl
    refine ⟨len_ar (M := M) hn rl hl, F2, us, X, c2.hs.drop, rl, exP_of c2 hX Par.emp, hl.mono fun u _ q v F3 h3 H3 s3 x3 o3 => ?_⟩
    obtain ⟨a, b, d⟩ := call_back c2.hs Par.emp s3 x3
    exact k _ v F3 _ H3 (c2.go a b) (e2.trans b).sub ((o.mono (e2.trans b).sub).joi o3 d) q
theorem set_part {α : Type} {l : List α} {j : Nat} {x : α} (hj : j < l.length) : ∀ y, l[j]? = some y → l.set j x = l.take j ++ x :: l.drop (j + 1) := fun y _ => List.set_eq_take_append_cons_drop .. |>.trans (by rw [if_pos hj])
/-- f(state, ..): the first argument, owned at place j, may change; it is then the first of the owned -/
theorem x_callS (j : Nat) {α : Type} {l : List (V × U)} {pv : V} {w : U} {m : List U → Res (U × U)} {A : (α : Type) → (List U → Res α) → Res α} {M : U × U → Res α} {P : α → Prop} {X : Ex → Prop} {Q : VK}
    (c : CS Γ F h H) (o : Own Γ.K F h l) (hj : l[j]? = some (pv, w)) (hn : AR n m) (ha : EvA Γ tr σ F h H A) (hX : XO Γ X)
    (hk : (A α fun us => m (w :: us) >>= M).Len P X)
    (k : ∀ u s v F1 h1 H1, CS Γ F1 h1 H1 → Sub F F1 → Own Γ.K F1 h1 ((pv, s) :: l.eraseIdx j) → Rep Γ.K F1 v u → (M (u, s)).Len P X → Q v H1) :
    tr σ H fun vs H1 => SpS Γ.K Γ.xr n m ((pv :: vs) ++ []) H1 Q Γ.E :=
  ha F H c Ext.refl _ X α _ P hX hk fun us vs F2 H2 c2 e2 rl hl => by
    rw [List.append_nil]
    obtain ⟨h1, r, pr, o1, o2⟩ := (o.mono e2.sub).part hj
    rw [Res.len_bind] at hl
    refine ⟨?_, F2, h1, us, X, pv, w, vs, rfl, c2.hs.part pr, o1, rl, exP_of c2 hX pr, hl.mono fun u _ q v F3 h3 H3 s3 x3 o3 r3 => ?_⟩
    · have : (w :: us).length = n := by
        by_cases hl' : (w :: us).length = n
        · exact hl'
        · rw [hn _ hl'] at hl; exact hl.elim
      rw [List.length_cons, rl.length]
      exact this
    · obtain ⟨a, b, d⟩ := call_back c2.hs pr s3 x3
      exact k u.1 u.2 v F3 _ H3 (c2.go a b) (e2.trans b).sub ((o2.mono b.sub).joi o3 d) r3 q
theorem c_callS {i : Nat} {v : V} {sp : Sp} {E : XK} {Q : VK} (hi : σ[i]? = some (some v)) (q : tr σ H fun vs H1 => sp ((v :: vs) ++ []) H1 Q E) : tCall sp [] E (tCons (tVar i) tr) σ H Q := ⟨v, hi, q⟩
theorem c_callT {sp : Sp} {E : XK} {Q : VK} (q : ta σ H fun v H1 => tr σ H1 fun vs H2 => sp ((v :: vs) ++ []) H2 Q E) : tCall sp [] E (tCons ta tr) σ H Q := q
/-- .. and a new list comes back -/
theorem x_callSN (j : Nat) {α : Type} {l : List (V × U)} {pv : V} {w : U} {m : List U → Res (U × U)} {A : (α : Type) → (List U → Res α) → Res α} {M : U × U → Res α} {P : α → Prop} {X : Ex → Prop} {Q : VK}
    (c : CS Γ F h H) (o : Own Γ.K F h l) (hj : l[j]? = some (pv, w)) (hn : AR n m) (ha : EvA Γ tr σ F h H A) (hX : XO Γ X)
    (hk : (A α fun us => m (w :: us) >>= M).Len P X)
    (k : ∀ u s v F1 h1 H1, CS Γ F1 h1 H1 → Sub F F1 → Own Γ.K F1 h1 ((v, u) :: (pv, s) :: l.eraseIdx j) → (M (u, s)).Len P X → Q v H1) :
    tr σ H fun vs H1 => SpSN Γ.K Γ.xr n m ((pv :: vs) ++ []) H1 Q Γ.E :=
  ha F H c Ext.refl _ X α _ P hX hk fun us vs F2 H2 c2 e2 rl hl => by
    rw [List.append_nil]
    obtain ⟨h1, r, pr, o1, o2⟩ := (o.mono e2.sub).part hj
    rw [Res.len_bind] at hl
    refine ⟨?_, F2, h1, us, X, pv, w, vs, rfl, c2.hs.part pr, o1, rl, exP_of c2 hX pr, hl.mono fun u _ q v F3 h3 H3 s3 x3 o3 => ?_⟩
    · have : (w :: us).length = n := by
        by_cases hl' : (w :: us).length = n
        · exact hl'
        · rw [hn _ hl'] at hl; exact hl.elim
      rw [List.length_cons, rl.length]
      exact this
    · obtain ⟨a, b, d⟩ := call_back c2.hs pr s3 x3
      exact k u.1 u.2 v F3 _ H3 (c2.go a b) (e2.trans b).sub ((o2.mono b.sub).joi o3 d) q
end
/-! ### the start and the end of a def -/
section
variable {K : PySem.W.Frag} {xr : XR} {n : Nat} {vs : List V} {H : Hp} {Q : VK} {E : XK} {G : Prop}
theorem start_F {m : List U → Res U} (h : SpF K xr n m vs H Q E) (k : ∀ F us X P, CS ⟨K, xr, E, F, emp, H⟩ F emp H → Own K F emp [] → vs.length = n → RepL K F vs us → XO ⟨K, xr, E, F, emp, H⟩ X → (m us).Len P X →
    (∀ u v F2 h2 H2, P u → CS ⟨K, xr, E, F, emp, H⟩ F2 h2 H2 → Rep K F2 v u → Q v H2) → G) : G := by
  obtain ⟨hn, F, us, X, hs, rl, hE, hk⟩ := h
  refine k F us X _ ⟨hs, Ext.refl⟩ .nil hn rl (fun e cls d F2 h2 H2 he c hx => hE e cls d F2 h2 H2 he c.hs c.ex hx) hk fun u v F2 h2 H2 p c r => p v F2 H2 c.hs.drop ⟨c.ex.sub, c.ex.dom, c.ex.fr, c.ex.nf, fun a n => absurd rfl n⟩ r
theorem start_N {m : List U → Res U} (h : SpN K xr n m vs H Q E) (k : ∀ F us X P, CS ⟨K, xr, E, F, emp, H⟩ F emp H → Own K F emp [] → vs.length = n → RepL K F vs us → XO ⟨K, xr, E, F, emp, H⟩ X → (m us).Len P X →
    (∀ (j : Nat) u v F2 h2 H2 l, P u → CS ⟨K, xr, E, F, emp, H⟩ F2 h2 H2 → Own K F2 h2 l → l[j]? = some (v, u) → Q v H2) → G) : G := by
  obtain ⟨hn, F, us, X, hs, rl, hE, hk⟩ := h
  refine k F us X _ ⟨hs, Ext.refl⟩ .nil hn rl (fun e cls d F2 h2 H2 he c hx => hE e cls d F2 h2 H2 he c.hs c.ex hx) hk fun j u v F2 h2 H2 l p c o hj => ?_
  obtain ⟨h1, r, pr, o1, _⟩ := o.part hj
  exact p v F2 h1 H2 (c.hs.part pr) ⟨c.ex.sub, c.ex.dom, c.ex.fr, c.ex.nf, fun a n => c.ex.nh a (by
    cases q : h1 a with
    | none => exact absurd q n
    | some u => rw [pr.l a u q]; simp)⟩ o1
theorem Own.two {K : PySem.W.Frag} {F h : Hp} {l : List (V × U)} {i j : Nat} {v pv : V} {u w : U} (o : Own K F h l) (hi : l[i]? = some (v, u)) (hj : (l.eraseIdx i)[j]? = some (pv, w)) : ∃ h2, Sub h2 h ∧ Own K F h2 [(v, u), (pv, w)] := by
  obtain ⟨h1, r, p1, o1, o2⟩ := o.part hi
  obtain ⟨h2, r2, p2, o3, _⟩ := o2.part hj
  refine ⟨UL.joi h1 h2, fun a x e => ?_, o3.joi o1 fun a n => ?_⟩
  · cases q : h1 a with
    | some y => rw [joi_some q] at e; cases e; exact p1.l a _ q
    | none => rw [joi_none q] at e; exact p1.r a x (p2.l a x e)
  · cases q : h1 a with
    | none => rfl
    | some y =>
      have := p1.d a (by rw [q]; simp)
      cases q2 : h2 a with
      | none => exact absurd q2 n
      | some z => rw [p2.l a z q2] at this; cases this
theorem HS.sub {F h H h1 : Hp} (s : HS F h H) (p : Sub h1 h) : HS F h1 H := ⟨s.fr, fun a o e => s.ow a o (p a o e), fun a n => by
  cases q : h1 a with
  | none => exact absurd q n
  | some u => exact s.dj a (by rw [p a u q]; simp)⟩
theorem ext_sub {F h H F2 h2 H2 h3 : Hp} (e : Ext F h H F2 h2 H2) (p : Sub h3 h2) : Ext F h H F2 h3 H2 := ⟨e.sub, e.dom, e.fr, e.nf, fun a n => e.nh a (by
    cases q : h3 a with
    | none => exact absurd q n
    | some u => rw [p a u q]; simp)⟩
theorem start_S {m : List U → Res (U × U)} (h : SpS K xr n m vs H Q E) (k : ∀ F h us X P pv w vs', CS ⟨K, xr, E, F, h, H⟩ F h H → Own K F h [(pv, w)] → vs = pv :: vs' → vs.length = n → RepL K F vs' us → XO ⟨K, xr, E, F, h, H⟩ X → (m (w :: us)).Len P X →
    (∀ (j : Nat) u v F2 h2 H2 l, P u → CS ⟨K, xr, E, F, h, H⟩ F2 h2 H2 → Own K F2 h2 l → l[j]? = some (pv, u.2) → Rep K F2 v u.1 → Q v H2) → G) : G := by
  obtain ⟨hn, F, h, us, X, pv, w, vs', e, hs, o, rl, hE, hk⟩ := h
  refine k F h us X _ pv w vs' ⟨hs, Ext.refl⟩ o e hn rl (fun e cls d F2 h2 H2 he c hx => hE e cls d F2 h2 H2 he c.hs c.ex hx) hk fun j u v F2 h2 H2 l p c o hj r => ?_
  obtain ⟨h1, r', pr, o1, _⟩ := o.part hj
  exact p v F2 h1 H2 (c.hs.part pr) (ext_sub c.ex pr.l) o1 r
theorem start_SN {m : List U → Res (U × U)} (h : SpSN K xr n m vs H Q E) (k : ∀ F h us X P pv w vs', CS ⟨K, xr, E, F, h, H⟩ F h H → Own K F h [(pv, w)] → vs = pv :: vs' → vs.length = n → RepL K F vs' us → XO ⟨K, xr, E, F, h, H⟩ X → (m (w :: us)).Len P X →
    (∀ (i j : Nat) u v F2 h2 H2 l, P u → CS ⟨K, xr, E, F, h, H⟩ F2 h2 H2 → Own K F2 h2 l → l[i]? = some (v, u.1) → (l.eraseIdx i)[j]? = some (pv, u.2) → Q v H2) → G) : G := by
  obtain ⟨hn, F, h, us, X, pv, w, vs', e, hs, o, rl, hE, hk⟩ := h
  refine k F h us X _ pv w vs' ⟨hs, Ext.refl⟩ o e hn rl (fun e cls d F2 h2 H2 he c hx => hE e cls d F2 h2 H2 he c.hs c.ex hx) hk fun i j u v F2 h2 H2 l p c o hi hj => ?_
  obtain ⟨h1, sb, o1⟩ := o.two hi hj
  exact p v F2 h1 H2 (c.hs.sub sb) (ext_sub c.ex sb) o1
end
theorem repl0 {K : PySem.W.Frag} {F : Hp} {vs : List V} {us : List U} (hn : vs.length = 0) (r : RepL K F vs us) : vs = [] ∧ us = [] := by
  cases r with
  | nil => exact ⟨rfl, rfl⟩
  | cons a b => cases hn
theorem repl1 {K : PySem.W.Frag} {F : Hp} {n : Nat} {vs : List V} {us : List U} (hn : vs.length = n + 1) (r : RepL K F vs us) : ∃ v u vs' us', vs = v :: vs' ∧ us = u :: us' ∧ vs'.length = n ∧ Rep K F v u ∧ RepL K F vs' us' := by
  cases r with
  | nil => cases hn
  | cons a b => exact ⟨_, _, _, _, rfl, rfl, Nat.succ.inj hn, a, b⟩
end UL

set_option Elab.async false
set_option linter.all false
set_option maxRecDepth 100000
set_option maxHeartbeats 1000000
namespace UL
open PySem PySem.Spec PyProof.Rows L2

/-! ### what is walked -/
/-- a list or a tuple -/
def iSeq (K : PySem.W.Frag) (tl : TE) : TI := fun σ H R => tl σ H fun x H1 => ∃ a, x = .ref a ∧ (((∃ xs, SqL K H1 a xs) ∧ R (Itl K a) H1) ∨ ((∃ xs, SqT K H1 a xs) ∧ R (Itt K a) H1))
theorem pi_seq {X : Cx} {tg l : Expr} {tl : TE} (hl : PE X l tl) : PI X tg l (iSeq X.K tl) := by
  refine ⟨fun pins s σ H R I h => ?_⟩
  refine thn (hl.run pins s σ H _ I h) fun v s1 ⟨x, H1, I1, r1, q1⟩ => ?_
  obtain ⟨a, e, q1⟩ := q1
  subst e
  cases r1
  rcases q1 with ⟨⟨xs, hq⟩, q⟩ | ⟨⟨xs, hq⟩, q⟩
  · obtain ⟨its, rv, p, hz⟩ := I1.list hq
    refine wpAny_pyIter_list p.isList ?_
    refine ⟨s1.heap.objs.size, [s1.heap.objs.size], _, _, H1, rfl, I1.kept (t' := s1.toks) fun b o e => Heap.get?_push_of_some _ e, turn_list a _, ⟨_, Heap.get?_push_size _ rfl, rfl, rfl⟩, fun b hb => ?_, q⟩
    have e : b = s1.heap.objs.size := by simpa using hb
    subst e
    exact I1.fpOk (Nat.le_refl _) (I1.hok.fresh (Nat.le_refl _))
  · obtain ⟨its, rv, p, hz⟩ := I1.tuple hq
    refine wpAny_pyIter_tuple (show s1.heap.IsTuple a its.toArray from p) ?_
    refine ⟨s1.heap.objs.size, [s1.heap.objs.size], _, _, H1, rfl, I1.kept (t' := s1.toks) fun b o e => Heap.get?_push_of_some _ e, turn_tuple a _, ⟨_, Heap.get?_push_size _ rfl, rfl, rfl⟩, fun b hb => ?_, q⟩
    have e : b = s1.heap.objs.size := by simpa using hb
    subst e
    exact I1.fpOk (Nat.le_refl _) (I1.hok.fresh (Nat.le_refl _))
/-- J yields us, whatever else happens, as long as the frozen stands and C holds of the owned -/
def Yl (K : PySem.W.Frag) (J : It) (F0 : Hp) (C : Hp → Hp → Prop) (us : List U) : Prop := ∀ i F h H, HS F h H → Sub F0 F → C F h →
  (∀ u, us[i]? = some u → J.go i H ∧ ∀ x H', J.yld i H x H' → H' = H ∧ Rep K F x u) ∧ (us.length ≤ i → J.stop i H)
def EvI (Γ : Cz) (wi : TI) (σ : L2.St) (F h H : Hp) (C : Hp → Hp → Prop) (r : Res (List U)) : Prop := ∀ F1 H1, CS Γ F1 h H1 → Ext F h H F1 h H1 → ∀ (R : It → Hp → Prop) (X : Ex → Prop), XO Γ X →
  r.Len (fun us => ∀ J F2 H2, CS Γ F2 h H2 → Ext F1 h H1 F2 h H2 → Yl Γ.K J F2 C us → R J H2) X → wi σ H1 R
def U.items : U → Res (List U)
  | .lst us => .ok us
  | .tup us => .ok us
  | .scr ns => .ok (ns.map U.int)
  | _ => .bad
def U.rng1 : U → Res (List U)
  | .int n => if n < 2 ^ 62 ∧ -(2 ^ 62) ≤ n then .ok ((List.range n.toNat).map fun (i : Nat) => U.int i) else .bad
  | _ => .bad
def U.rng2 : U → U → Res (List U)
  | .int a, .int b => if -(2 ^ 62) ≤ a ∧ a < 2 ^ 62 ∧ -(2 ^ 62) ≤ b ∧ b < 2 ^ 62 then .ok ((List.range (b - a).toNat).map fun (i : Nat) => U.int (a + i)) else .bad
  | _, _ => .bad
section
variable {Γ : Cz} {σ : L2.St} {F h H : Hp} {ta : TE} {t : TA} {ra : Res U}
theorem yl_list {K : PySem.W.Frag} {F : Hp} {a : Addr} {xs : List V} {us : List U} {C : Hp → Hp → Prop} (hs : ∀ F' h' H', HS F' h' H' → Sub F F' → C F' h' → SqL K H' a xs) (rl : RepL K F xs us) : Yl K (Itl K a) F C us := fun i F' h' H' s sb hc => by
  have hq := hs F' h' H' s sb hc
  refine ⟨fun u hu => ?_, fun hi => ⟨xs, hq, by rw [rl.length]; exact hi⟩⟩
  obtain ⟨v, hv, rv⟩ := rl.get hu
  refine ⟨⟨xs, v, hq, hv⟩, fun x H2 y => ⟨y.1, ?_⟩⟩
  have := y.2 xs hq
  rw [hv] at this
  cases this
  exact rv.mono sb
theorem yl_tup {K : PySem.W.Frag} {F : Hp} {a : Addr} {xs : List V} {us : List U} {C : Hp → Hp → Prop} (hq : SqT K F a xs) (rl : RepL K F xs us) : Yl K (Itt K a) F C us := fun i F' h' H' s sb hc => by
  have hq := s.fr.st (sb.st hq)
  refine ⟨fun u hu => ?_, fun hi => ⟨xs, hq, by rw [rl.length]; exact hi⟩⟩
  obtain ⟨v, hv, rv⟩ := rl.get hu
  refine ⟨⟨xs, v, hq, hv⟩, fun x H2 y => ⟨y.1, ?_⟩⟩
  have := y.2 xs hq
  rw [hv] at this
  cases this
  exact rv.mono sb
theorem yl_rng {K : PySem.W.Frag} {F : Hp} {C : Hp → Hp → Prop} (lo : Int) (n : Nat) : Yl K (Itr lo n) F C ((List.range n).map fun (i : Nat) => U.int (lo + i)) := fun i F' h' H' s sb hc => by
  refine ⟨fun u hu => ?_, fun hi => (show n ≤ i by simpa [List.length_map, List.length_range] using hi)⟩
  rw [List.getElem?_map] at hu
  obtain ⟨k, hk, rfl⟩ := Option.map_eq_some_iff.mp hu
  have hk' := List.getElem?_range (n := n) (i := i)
  by_cases hlt : i < n
  · rw [List.getElem?_range hlt] at hk
    cases hk
    exact ⟨hlt, fun x H2 y => ⟨y.1, by rw [y.2]; exact .int _⟩⟩
  · rw [List.getElem?_eq_none (by simpa using hlt)] at hk
    cases hk
/-- over a frozen list or tuple -/
theorem ei_seq (ha : EvS Γ ta σ F h H ra) : EvI Γ (iSeq Γ.K ta) σ F h H (fun _ _ => True) (ra >>= fun a => U.items a) := fun F1 H1 c e R X hX hl => by
  rw [Res.len_bind] at hl
  refine ha F1 H1 c e _ X hX (hl.mono fun a ea hl v F2 H2 c2 e2 rv => ?_)
  clear ea
  cases rv <;> first | exact hl.elim | skip
  · rename_i a xs us hp rl
    exact ⟨a, rfl, .inl ⟨⟨xs, SqL.of (c2.hs.fr _ _ hp)⟩, hl _ F2 H2 c2 e2 (yl_list (fun F' h' H' s sb _ => SqL.of (s.fr _ _ (sb _ _ hp))) rl)⟩⟩
  · rename_i a xs us hp rl
    exact ⟨a, rfl, .inr ⟨⟨xs, c2.hs.fr.st hp⟩, hl _ F2 H2 c2 e2 (yl_tup hp rl)⟩⟩
  · rename_i a ns hp
    exact ⟨a, rfl, .inl ⟨⟨_, c2.hs.fr.sl hp⟩, hl _ F2 H2 c2 e2 (yl_list (fun F' h' H' s sb _ => s.fr.sl (sb.sl hp)) (RepL.of_ints _))⟩⟩
/-- over an owned list that stays -/
theorem ei_own {i : Nat} (j : Nat) {l : List (V × U)} {pv : V} {w : U} (hi : σ[i]? = some (some pv)) (o : Own Γ.K F h l) (hj : l[j]? = some (pv, w)) : EvI Γ (iSeq Γ.K (tVar i)) σ F h H (fun F' h' => ∃ l', Own Γ.K F' h' l' ∧ ∃ k : Nat, l'[k]? = some (pv, w)) (U.items w) := fun F1 H1 c e R X hX hl => by
  rcases o.get hj with ⟨p, xs, us, rfl, rfl, hp, rl⟩ | ⟨r, f⟩
  · refine ⟨_, hi, p, rfl, .inl ⟨⟨xs, SqL.of (c.hs.ow _ _ hp)⟩, hl _ F1 H1 c Ext.refl fun i F' h' H' s sb hc => ?_⟩⟩
    obtain ⟨l', o', k, hk⟩ := hc
    rcases o'.get hk with ⟨p', xs', us', e1, e2, hp', rl'⟩ | ⟨r, f⟩
    · cases e1
      cases e2
      have hq : SqL Γ.K H' p xs' := SqL.of (s.ow _ _ hp')
      refine ⟨fun u hu => ?_, fun hi => ⟨xs', hq, by rw [rl'.length]; exact hi⟩⟩
      obtain ⟨v, hv, rv⟩ := rl'.get hu
      refine ⟨⟨xs', v, hq, hv⟩, fun x H2 y => ⟨y.1, ?_⟩⟩
      have := y.2 xs' hq
      rw [hv] at this
      cases this
      exact rv
    · cases f
  · cases w <;> first | exact hl.elim | cases f
theorem ei_rng1 (ha : EvU Γ ta σ F h H ra) : EvI Γ (iRng1 (tCons ta tNil)) σ F h H (fun _ _ => True) (ra >>= fun a => U.rng1 a) := fun F1 H1 c e R X hX hl => by
  rw [Res.len_bind] at hl
  refine ha F1 H1 c e _ X hX (hl.mono fun a ea hl v F2 H2 c2 e2 rv => ?_)
  clear ea
  cases a <;> first | exact hl.elim | skip
  rename_i n
  cases rv.int
  simp only [U.rng1] at hl
  split at hl
  · rename_i hz
    refine ⟨n, rfl, hz.2, hz.1, hl _ F2 H2 c2 e2 ?_⟩
    have := yl_rng (K := Γ.K) (F := F2) (C := fun _ _ => True) 0 n.toNat
    simp only [Int.zero_add] at this
    exact this
  · exact hl.elim
theorem ei_rng2 {tb : TE} {rb : Res U} (ha : EvU Γ ta σ F h H ra) (hb : EvU Γ tb σ F h H rb) : EvI Γ (iRng2 (tCons ta (tCons tb tNil))) σ F h H (fun _ _ => True) (ra >>= fun a => rb >>= fun b => U.rng2 a b) := fun F1 H1 c e R X hX hl => by
  rw [Res.len_bind] at hl
  refine ha F1 H1 c e _ X hX (hl.mono fun a ea hl v F2 H2 c2 e2 rv => ?_)
  clear ea
  rw [Res.len_bind] at hl
  refine hb F2 H2 c2 (e.trans e2) _ X hX (hl.mono fun b eb hl v' F3 H3 c3 e3 rv' => ?_)
  clear eb
  obtain ⟨n, rfl⟩ : ∃ n, a = .int n := by cases a <;> first | exact ⟨_, rfl⟩ | (cases b <;> exact hl.elim)
  obtain ⟨m, rfl⟩ : ∃ m, b = .int m := by cases b <;> first | exact ⟨_, rfl⟩ | exact hl.elim
  cases rv.int
  cases rv'.int
  simp only [U.rng2] at hl
  split at hl
  · rename_i hz
    exact ⟨n, m, rfl, hz, hl _ F3 H3 c3 (e2.trans e3) (yl_rng n (m - n).toNat)⟩
  · exact hl.elim
end

/-! ### for -/
inductive Ctl (S R : Type) where
  | nx (s : S) | bk (s : S) | rt (r : R)
def Ctl.fin {S R α : Type} (c : Ctl S R) (k : S → Res α) (q : R → Res α) : Res α := match c with
  | .nx s => k s
  | .bk s => k s
  | .rt r => q r
def forR {S R : Type} (f : S → U → Res (Ctl S R)) : List U → S → Res (Ctl S R)
  | [], s => .ok (.nx s)
  | x :: xs, s => f s x >>= fun c => match c with
    | .nx s' => forR f xs s'
    | .bk s' => .ok (.bk s')
    | .rt r => .ok (.rt r)
theorem drop_cons {α : Type} {us : List α} {i : Nat} {u : α} (h : us[i]? = some u) : us.drop i = u :: us.drop (i + 1) := by
  obtain ⟨hlt, e⟩ := List.getElem?_eq_some_iff.mp h
  rw [List.drop_eq_getElem_cons hlt, e]
section
variable {Γ : Cz} {σ : L2.St} {F h H : Hp} {D : Ends} {tb t2 : TS} {wi : TI} {g : TG}
theorem c_seq {t t2 : TS} (q : t { D with nx := t2 D } σ H) : tSeq t t2 D σ H := q
theorem x_for {S R α : Type} (A : S → L2.St → Hp → Hp → Prop) (RR : R → V → Hp → Prop) {C : Hp → Hp → Prop} {r : Res (List U)} {f : S → U → Res (Ctl S R)} {s0 : S} {M : Ctl S R → Res α} {P : α → Prop} {X : Ex → Prop}
    (c : CS Γ F h H) (hi : EvI Γ wi σ F h H C r) (hX : XO Γ X) (hk : (r >>= fun us => forR f us s0 >>= M).Len P X)
    (h0 : ∀ F1, Sub F F1 → A s0 σ F1 h) (hC : ∀ s σ1 F1 h1, A s σ1 F1 h1 → C F1 h1)
    (hb : ∀ s x v σ1 F1 h1 H1, CS Γ F1 h1 H1 → Sub F F1 → A s σ1 F1 h1 → Rep Γ.K F1 v x → ∀ (D' : Ends) (P' : Ctl S R → Prop), (f s x).Len P' X →
      (∀ s' σ2 F2 h2 H2, P' (.nx s') → CS Γ F2 h2 H2 → Sub F1 F2 → A s' σ2 F2 h2 → D'.nx σ2 H2 ∧ D'.ct σ2 H2) →
      (∀ s' σ2 F2 h2 H2, P' (.bk s') → CS Γ F2 h2 H2 → Sub F1 F2 → A s' σ2 F2 h2 → D'.bk σ2 H2) →
      (∀ r v H2, P' (.rt r) → RR r v H2 → D'.rt v H2) → g v σ1 H1 fun σ2 H2 => tb D' σ2 H2)
    (hd : ∀ s σ1 F1 h1 H1, CS Γ F1 h1 H1 → Sub F F1 → A s σ1 F1 h1 → ((M (.nx s)).Len P X ∨ (M (.bk s)).Len P X) → t2 D σ1 H1)
    (hr : ∀ r v H2, (M (.rt r)).Len P X → RR r v H2 → D.rt v H2) : tSeq (tFor wi g tb) t2 D σ H := by
  rw [Res.len_bind] at hk
  refine c_seq (hi F H c Ext.refl _ X hX (hk.mono fun us _ hk J F2 H2 c2 e2 hY => ?_))
  rw [Res.len_bind] at hk
  refine ⟨fun i m σ' H' => m = us.length - i ∧ i ≤ us.length ∧ ∃ s F' h', CS Γ F' h' H' ∧ Sub F2 F' ∧ A s σ' F' h' ∧ (forR f (us.drop i) s).Len (fun c => (M c).Len P X) X,
    ⟨us.length, by omega, Nat.zero_le _, s0, F2, h, c2, Sub.refl _, h0 F2 e2.sub, hk⟩, ?_⟩
  rintro i m σ' H' ⟨rfl, hi', s, F', h', c', e', a, hl⟩
  have hy := hY i F' h' H' c'.hs e' (hC _ _ _ _ a)
  by_cases hlt : i < us.length
  · obtain ⟨u, hu⟩ : ∃ u, us[i]? = some u := ⟨us[i], List.getElem?_eq_getElem hlt⟩
    obtain ⟨go, yl⟩ := hy.1 u hu
    refine .inr ⟨go, fun σ2 H3 => ∃ s F' h', CS Γ F' h' H3 ∧ Sub F2 F' ∧ A s σ2 F' h' ∧ (forR f (us.drop (i + 1)) s).Len (fun c => (M c).Len P X) X,
      fun σ2 H3 ⟨s, F', h', q1, q2, q3, q4⟩ => ⟨us.length - (i + 1), by omega, rfl, hlt, s, F', h', q1, q2, q3, q4⟩, fun x H3 y => ?_⟩
    obtain ⟨e, rv⟩ := yl x H3 y
    subst e
    rw [drop_cons hu] at hl
    unfold forR at hl
    rw [Res.len_bind] at hl
    refine hb s u x σ' F' h' H3 c' (e2.sub.trans e') a rv _ (fun c => Res.Len (match c with
      | .nx s' => forR f (us.drop (i + 1)) s'
      | .bk s' => .ok (.bk s')
      | .rt r => .ok (.rt r)) (fun c => (M c).Len P X) X) hl ?_ ?_ ?_
    · intro s' σ2 F3 h3 H4 p c3 e3 a3
      have w : ∃ s F' h', CS Γ F' h' H4 ∧ Sub F2 F' ∧ A s σ2 F' h' ∧ (forR f (us.drop (i + 1)) s).Len (fun c => (M c).Len P X) X := ⟨s', F3, h3, c3, e'.trans e3, a3, p⟩
      exact ⟨w, w⟩
    · intro s' σ2 F3 h3 H4 p c3 e3 a3
      exact hd s' σ2 F3 h3 H4 c3 ((e2.sub.trans e').trans e3) a3 (.inr p)
    · intro r v H4 p rr
      exact hr r v H4 p rr
  · have e : i = us.length := by omega
    subst e
    rw [List.drop_length] at hl
    exact .inl ⟨hy.2 (Nat.le_refl _), hd s σ' F' h' H' c' (e2.sub.trans e') a (.inl hl)⟩
end

/-! ### comprehensions -/
def compA (f : U → Res (Option U)) : List U → List U → Res (List U)
  | [], acc => .ok acc
  | x :: xs, acc => f x >>= fun o => match o with
    | none => compA f xs acc
    | some y => if acc.length < 16777216 then compA f xs (acc ++ [y]) else .bad
def compS {S : Type} (f : S → U → Res (Option U × S)) : List U → S → List U → Res (List U × S)
  | [], s, acc => .ok (acc, s)
  | x :: xs, s, acc => f s x >>= fun o => match o.1 with
    | none => compS f xs o.2 acc
    | some y => if acc.length < 16777216 then compS f xs o.2 (acc ++ [y]) else .bad
section
variable {Γ : Cz} {σ : L2.St} {F h H : Hp} {wi : TI} {g : TG} {tt : TT} {te : TE} {Dl : Addr}
theorem upd_del {H : Hp} {p : Addr} {o : HO} (hp : H p = some o) : upd (del H p) p o = H := by
  funext a
  by_cases e : a = p
  · subst e; rw [upd_same, hp]
  · rw [upd_ne e, del_ne e]
theorem del_upd_same {H : Hp} {p : Addr} {o : HO} : del (upd H p o) p = del H p := by
  funext a
  by_cases e : a = p
  · subst e; rw [del_same, del_same]
  · rw [del_ne e, del_ne e, upd_ne e]
theorem CS.hide (c : CS Γ F h H) (hp : H Dl = none) {o : HO} : CS Γ F h (upd H Dl o) ∧ Ext F h H F h (upd H Dl o) := by
  obtain ⟨f0, h0⟩ := c.hs.fresh hp
  have e : Ext F h H F h (upd H Dl o) := ⟨Sub.refl F, fun a r => by
    by_cases q : a = Dl
    · subst q; exact hp
    · rw [upd_ne q] at r; exact r, fun a x r _ => Sub.new hp a x r, fun a r => .inl r, fun a r => .inr r⟩
  exact ⟨c.go ⟨fun a x r => Sub.new hp a x (c.hs.fr a x r), fun a x r => Sub.new hp a x (c.hs.ow a x r), c.hs.dj⟩ e, e⟩
/-- D hidden: not known at F1 h1 H1, kept till F2 h2 H2 -/
theorem CS.back {F1 h1 H1 F2 h2 H2 : Hp} {o : HO} (c1 : CS Γ F1 h1 H1) (hp : H1 Dl = none) (c2 : CS Γ F2 h2 H2) (e : Ext F1 h1 (upd H1 Dl o) F2 h2 H2) : H2 Dl = some o ∧ F2 Dl = none ∧ h2 Dl = none ∧ CS Γ F2 h2 (del H2 Dl) ∧ Ext F1 h1 H1 F2 h2 (del H2 Dl) := by
  obtain ⟨f0, h0⟩ := c1.hs.fresh hp
  have g0 : Γ.H0 Dl = none := c1.ex.dom _ hp
  have hD : H2 Dl = some o := e.fr _ _ upd_same h0
  have fD : F2 Dl = none := by
    cases q : F2 Dl with
    | none => rfl
    | some u =>
      rcases e.nf Dl (by rw [q]; simp) with z | z | z
      · exact absurd f0 z
      · rw [upd_same] at z; cases z
      · exact absurd h0 z
  have hD2 : h2 Dl = none := by
    cases q : h2 Dl with
    | none => rfl
    | some u =>
      rcases e.nh Dl (by rw [q]; simp) with z | z
      · rw [upd_same] at z; cases z
      · exact absurd h0 z
  refine ⟨hD, fD, hD2, ⟨⟨fun a x r => ?_, fun a x r => ?_, c2.hs.dj⟩, ⟨c2.ex.sub, fun a r => ?_, fun a x r r' => ?_, c2.ex.nf, c2.ex.nh⟩⟩, ⟨e.sub, fun a r => ?_, fun a x r r' => ?_, fun a r => ?_, fun a r => ?_⟩⟩
  · rw [del_ne (fun q => by subst q; rw [fD] at r; cases r)]; exact c2.hs.fr a x r
  · rw [del_ne (fun q => by subst q; rw [hD2] at r; cases r)]; exact c2.hs.ow a x r
  · by_cases q : a = Dl
    · subst q; exact g0
    · rw [del_ne q] at r; exact c2.ex.dom a r
  · rw [del_ne (fun q => by subst q; rw [g0] at r; cases r)]; exact c2.ex.fr a x r r'
  · by_cases q : a = Dl
    · subst q; exact hp
    · rw [del_ne q] at r
      have := e.dom a r
      rw [upd_ne q] at this
      exact this
  · have q : a ≠ Dl := fun q => by subst q; rw [hp] at r; cases r
    rw [del_ne q]
    exact e.fr a x (by rw [upd_ne q]; exact r) r'
  · rcases e.nf a r with z | z | z
    · exact .inl z
    · by_cases q : a = Dl
      · subst q; rw [upd_same] at z; cases z
      · rw [upd_ne q] at z; exact .inr (.inl z)
    · exact .inr (.inr z)
  · rcases e.nh a r with z | z
    · by_cases q : a = Dl
      · subst q; rw [upd_same] at z; cases z
      · rw [upd_ne q] at z; exact .inl z
    · exact .inr z
/-- from here on -/
def Cz.at (Γ : Cz) (F h H : Hp) : Cz := ⟨Γ.K, Γ.xr, Γ.E, F, h, H⟩
theorem XO.at {Γ : Cz} {X : Ex → Prop} (hX : XO Γ X) (c : CS Γ F h H) : XO (Γ.at F h H) X := fun e cls d F2 h2 H2 he c2 hx => hX e cls d F2 h2 H2 he ⟨c2.hs, c.ex.trans c2.ex⟩ hx
/-- a comprehension, by stepping: the owned may change -/
theorem x_lc {S α : Type} (A : S → Hp → Hp → Prop) {C : Hp → Hp → Prop} {vs : List Nat} {r : Res (List U)} {f : S → U → Res (Option U × S)} {s0 : S} {M : List U × S → Res α} {P : α → Prop} {X : Ex → Prop} {Q : VK}
    (c : CS Γ F h H) (hi : EvI Γ wi σ F h H C r) (hX : XO Γ X) (hk : (r >>= fun us => compS f us s0 [] >>= M).Len P X)
    (h0 : ∀ F1, Sub F F1 → A s0 F1 h) (hC : ∀ s F1 h1, A s F1 h1 → C F1 h1)
    (hb : ∀ s x v F1 h1 H1, CS (Γ.at F1 h1 H1) F1 h1 H1 → CS Γ F1 h1 H1 → Sub F F1 → A s F1 h1 → Rep Γ.K F1 v x → ∀ (P' : Option U × S → Prop) (Qn : Hp → Prop) (Qy : VK), XO (Γ.at F1 h1 H1) X → (f s x).Len P' X →
      (∀ s' F2 h2 H2, P' (none, s') → CS (Γ.at F1 h1 H1) F2 h2 H2 → A s' F2 h2 → Qn H2) →
      (∀ s' y w F2 h2 H2, P' (some y, s') → CS (Γ.at F1 h1 H1) F2 h2 H2 → A s' F2 h2 → Rep Γ.K F2 w y → Qy w H2) →
      g v (wipe σ vs) H1 fun σ2 H2 => wipe σ2 vs = wipe σ vs ∧ tt σ2 H2 fun b H3 => if b = true then te σ2 H3 Qy else Qn H3)
    (hd : ∀ s ys p xs F1 h1 H1, CS Γ F1 h1 H1 → Ext F h H F1 h1 H1 → A s F1 h1 → H1 p = none → RepL Γ.K F1 xs ys → (M (ys, s)).Len P X → Q (.ref p) (upd H1 p (.lst xs))) : tLc wi g tt te vs σ H Q := by
  rw [Res.len_bind] at hk
  refine hi F H c Ext.refl _ X hX (hk.mono fun us _ hk J F2 H2 c2 e2 hY Dl hD => ?_)
  rw [Res.len_bind] at hk
  refine ⟨fun i m H' => m = us.length - i ∧ i ≤ us.length ∧ ∃ s F' h' acc accU, CS Γ F' h' (del H' Dl) ∧ Ext F2 h H2 F' h' (del H' Dl) ∧ A s F' h' ∧ H' Dl = some (.lst acc) ∧ RepL Γ.K F' acc accU ∧ (compS f (us.drop i) s accU).Len (fun c => (M c).Len P X) X,
    ⟨us.length, by omega, Nat.zero_le _, s0, F2, h, [], [], ?_, ?_, h0 F2 e2.sub, upd_same, .nil, hk⟩, ?_⟩
  · rw [del_upd hD]; exact c2
  · rw [del_upd hD]; exact Ext.refl
  rintro i m H' ⟨rfl, hi', s, F', h', acc, accU, c', e', a, hacc, rl, hl⟩
  have hdn : (del H' Dl) Dl = none := del_same
  obtain ⟨ch, eh⟩ := c'.hide hdn (o := .lst acc)
  rw [upd_del hacc] at ch eh
  have hy := hY i F' h' H' ch.hs e'.sub (hC _ _ _ a)
  by_cases hlt : i < us.length
  · obtain ⟨u, hu⟩ : ∃ u, us[i]? = some u := ⟨us[i], List.getElem?_eq_getElem hlt⟩
    obtain ⟨go, yl⟩ := hy.1 u hu
    refine .inr ⟨go, fun H3 => ∃ s F' h' acc accU, CS Γ F' h' (del H3 Dl) ∧ Ext F2 h H2 F' h' (del H3 Dl) ∧ A s F' h' ∧ H3 Dl = some (.lst acc) ∧ RepL Γ.K F' acc accU ∧ (compS f (us.drop (i + 1)) s accU).Len (fun c => (M c).Len P X) X,
      fun H3 ⟨s, F', h', a1, a2, q1, q2, q3, q4, q5, q6⟩ => ⟨us.length - (i + 1), by omega, rfl, hlt, s, F', h', a1, a2, q1, q2, q3, q4, q5, q6⟩, fun x H3 y => ?_⟩
    obtain ⟨e, rv⟩ := yl x H3 y
    subst e
    rw [drop_cons hu] at hl
    unfold compS at hl
    rw [Res.len_bind] at hl
    have key : ∀ {F3 h3 H4 : Hp}, CS Γ F3 h3 H4 → Ext F' h' H3 F3 h3 H4 → H4 Dl = some (.lst acc) ∧ CS Γ F3 h3 (del H4 Dl) ∧ Ext F2 h H2 F3 h3 (del H4 Dl) := fun {F3 h3 H4} c3 e3 => by
      have e3' : Ext F' h' (upd (del H3 Dl) Dl (.lst acc)) F3 h3 H4 := by rw [upd_del hacc]; exact e3
      obtain ⟨k1, k2, k3, k4, k5⟩ := c'.back hdn c3 e3'
      exact ⟨k1, k4, e'.trans k5⟩
    refine hb s u x F' h' H3 ⟨ch.hs, Ext.refl⟩ ch (e2.sub.trans e'.sub) a rv (fun o => Res.Len (match o.1 with
      | none => compS f (us.drop (i + 1)) o.2 accU
      | some y => if accU.length < 16777216 then compS f (us.drop (i + 1)) o.2 (accU ++ [y]) else .bad) (fun c => (M c).Len P X) X) _ _ (hX.at ch) hl ?_ ?_
    · intro s' F3 h3 H4 p c3 a3
      have e3 : Ext F' h' H3 F3 h3 H4 := c3.ex
      obtain ⟨k1, k2, k3⟩ := key (ch.go c3.hs e3) e3
      exact ⟨s', F3, h3, acc, accU, k2, k3, a3, k1, rl.mono e3.sub, p⟩
    · intro s' y w F3 h3 H4 p c3 a3 rw'
      have e3 : Ext F' h' H3 F3 h3 H4 := c3.ex
      obtain ⟨k1, k2, k3⟩ := key (ch.go c3.hs e3) e3
      dsimp only at p
      split at p
      · rename_i hz
        refine ⟨acc, k1, by rw [line_eq, rl.length]; exact hz, s', F3, h3, acc ++ [w], accU ++ [y], ?_, ?_, a3, upd_same, (rl.mono e3.sub).append (.cons rw' .nil), p⟩
        · rw [del_upd_same]; exact k2
        · rw [del_upd_same]; exact k3
      · exact p.elim
  · have e : i = us.length := by omega
    subst e
    rw [List.drop_length] at hl
    refine .inl ⟨hy.2 (Nat.le_refl _), ?_⟩
    have := hd s accU Dl acc F' h' (del H' Dl) c' (e2.trans e') a hdn rl hl
    rw [upd_del hacc] at this
    exact this
/-- a comprehension that changes nothing owned: its turn -/
def EvC (Γ : Cz) (g : TG) (tt : TT) (te : TE) (vs : List Nat) (σ : L2.St) (F h H : Hp) (f : U → Res (Option U)) : Prop := ∀ x v F1 H1, CS Γ F1 h H1 → Sub F F1 → Rep Γ.K F1 v x → ∀ (P' : Option U → Prop) (X : Ex → Prop) (Qn : Hp → Prop) (Qy : VK), XO Γ X → (f x).Len P' X →
      (∀ F2 H2, P' none → CS Γ F2 h H2 → Ext F1 h H1 F2 h H2 → Qn H2) → (∀ y w F2 H2, P' (some y) → CS Γ F2 h H2 → Ext F1 h H1 F2 h H2 → Rep Γ.K F2 w y → Qy w H2) →
      g v (wipe σ vs) H1 fun σ2 H2 => wipe σ2 vs = wipe σ vs ∧ tt σ2 H2 fun b H3 => if b = true then te σ2 H3 Qy else Qn H3
theorem compA_S (f : U → Res (Option U)) : ∀ us acc, compS (S := Unit) (fun _ x => f x >>= fun o => .ok (o, ())) us () acc = (compA f us acc >>= fun ys => .ok (ys, ()))
  | [], acc => rfl
  | x :: xs, acc => by
    unfold compS compA
    cases f x with
    | bad => rfl
    | exn e => rfl
    | ok o =>
      simp only [Res.ok_bind]
      cases o with
      | none => exact compA_S f xs acc
      | some y =>
        dsimp only
        split
        · exact compA_S f xs _
        · rfl
theorem en_lc {C : Hp → Hp → Prop} {vs : List Nat} {r : Res (List U)} {f : U → Res (Option U)} (hi : EvI Γ wi σ F h H C r) (hC : ∀ F1, Sub F F1 → C F1 h) (hb : EvC Γ g tt te vs σ F h H f) : EvN Γ (tLc wi g tt te vs) σ F h H (r >>= fun us => compA f us [] >>= fun ys => .ok (.lst ys)) := fun F1 H1 c e Q X hX hl => by
  have hi' : EvI Γ wi σ F1 h H1 C r := fun F2 H2 c2 e2 => hi F2 H2 c2 (e.trans e2)
  refine x_lc (S := Unit) (fun _ F' h' => h' = h ∧ Sub F F') (f := fun _ x => f x >>= fun o => .ok (o, ())) (s0 := ()) (M := fun ys => .ok (U.lst ys.1)) c hi' hX (P := fun u => ∃ us, u = .lst us ∧ ∀ p xs F2 H2, CS Γ F2 h H2 → Ext F1 h H1 F2 h H2 → H2 p = none → RepL Γ.K F2 xs us → Q (.ref p) (upd H2 p (.lst xs))) (X := X) ?_ (fun F2 sb => ⟨rfl, e.sub.trans sb⟩) (fun _ F2 _ q => by rw [q.1]; exact hC F2 q.2) ?_ ?_
  · rw [Res.len_bind] at hl ⊢
    refine hl.mono fun us _ hl => ?_
    rw [compA_S, Res.len_bind, Res.len_bind]
    rw [Res.len_bind] at hl
    exact hl
  · intro s x v F2 h2 H2 cz c2 e2 q rv P' Qn Qy hXz hl2 kn ky
    obtain ⟨q, sb⟩ := q
    subst q
    rw [Res.len_bind] at hl2
    exact hb x v F2 H2 c2 sb rv (fun o => P' (o, ())) X Qn Qy hX hl2 (fun F3 H3 p c3 e3 => kn () F3 h2 H3 p ⟨c3.hs, e3⟩ ⟨rfl, sb.trans e3.sub⟩) (fun y w F3 H3 p c3 e3 rw' => ky () y w F3 h2 H3 p ⟨c3.hs, e3⟩ ⟨rfl, sb.trans e3.sub⟩ rw')
  · intro s ys p xs F2 h2 H2 c2 e2 q hp rl hl2
    obtain ⟨q, sb⟩ := q
    subst q
    obtain ⟨us, e1, k⟩ := hl2
    cases e1
    exact k p xs F2 H2 c2 e2 hp rl
theorem ec_if {j : Nat} {vs : List Nat} {rt : U → Res Bool} {re : U → Res U} (hw : ∀ v, wipe ((wipe σ vs).set j (some v)) vs = wipe σ vs)
    (ht : ∀ x v F1 H1, Rep Γ.K F1 v x → Sub F F1 → EvT Γ tt ((wipe σ vs).set j (some v)) F1 h H1 (rt x)) (he : ∀ x v F1 H1, Rep Γ.K F1 v x → Sub F F1 → EvS Γ te ((wipe σ vs).set j (some v)) F1 h H1 (re x)) :
    EvC Γ (gName j) tt te vs σ F h H (fun x => rt x >>= fun b => if b = true then re x >>= fun y => .ok (some y) else .ok none) := fun x v F1 H1 c e rv P' X Qn Qy hX hl kn ky => by
  refine ⟨hw v, ?_⟩
  rw [Res.len_bind] at hl
  refine ht x v F1 H1 rv e F1 H1 c Ext.refl _ X hX (hl.mono fun b _ hl F2 H2 c2 e2 => ?_)
  cases b with
  | false => exact kn F2 H2 hl c2 e2
  | true =>
    have hl : (re x >>= fun y => .ok (some y)).Len P' X := hl
    rw [Res.len_bind] at hl
    exact he x v F1 H1 rv e F2 H2 c2 e2 Qy X hX (hl.mono fun y _ hl w F3 H3 c3 e3 rw' => ky y w F3 H3 hl c3 (e2.trans e3) rw')
theorem ec_all {j : Nat} {vs : List Nat} {re : U → Res U} (hw : ∀ v, wipe ((wipe σ vs).set j (some v)) vs = wipe σ vs)
    (he : ∀ x v F1 H1, Rep Γ.K F1 v x → Sub F F1 → EvS Γ te ((wipe σ vs).set j (some v)) F1 h H1 (re x)) :
    EvC Γ (gName j) tYes te vs σ F h H (fun x => re x >>= fun y => .ok (some y)) := fun x v F1 H1 c e rv P' X Qn Qy hX hl kn ky => by
  refine ⟨hw v, ?_⟩
  rw [Res.len_bind] at hl
  exact he x v F1 H1 rv e F1 H1 c Ext.refl Qy X hX (hl.mono fun y _ hl w F3 H3 c3 e3 rw' => ky y w F3 H3 hl c3 e3 rw')
/-- a new list, frozen at once -/
theorem EvN.s {te : TE} {r : Res U} (x : EvN Γ te σ F h H r) : EvS Γ te σ F h H (r >>= fun a => U.isl a) := fun F1 H1 c e Q X hX hl => by
  rw [Res.len_bind] at hl
  refine x F1 H1 c e Q X hX (hl.mono fun u eu q => ?_)
  clear eu
  cases u <;> first | exact q.elim | skip
  exact ⟨_, rfl, fun p xs F2 H2 c2 e2 hp rv => q _ _ _ (c2.new hp) (e2.trans (c2.hs.ext_alloc hp)) (.lst upd_same (rv.mono (Sub.new (c2.hs.fresh hp).1)))⟩
theorem ev_lc {C : Hp → Hp → Prop} {vs : List Nat} {r : Res (List U)} {f : U → Res (Option U)} (hi : EvI Γ wi σ F h H C r) (hC : ∀ F1, Sub F F1 → C F1 h) (hb : EvC Γ g tt te vs σ F h H f) : EvS Γ (tLc wi g tt te vs) σ F h H (r >>= fun us => compA f us [] >>= fun ys => .ok (.lst ys)) := fun F1 H1 c e Q X hX hl => by
  refine en_lc hi hC hb F1 H1 c e Q X hX ?_
  rw [Res.len_bind] at hl ⊢
  refine hl.mono fun us _ hl => ?_
  rw [Res.len_bind] at hl ⊢
  exact hl.mono fun ys _ q => ⟨ys, rfl, fun p xs F2 H2 c2 e2 hp rv => (show _ from q) _ _ _ (c2.new hp) (e2.trans (c2.hs.ext_alloc hp)) (.lst upd_same (rv.mono (Sub.new (c2.hs.fresh hp).1)))⟩
end
end UL

set_option Elab.async false
set_option linter.all false
set_option maxRecDepth 100000
set_option maxHeartbeats 1000000
namespace UL
open PySem PySem.Spec PyProof.Rows L2
section
variable {Γ : Cz} {σ : L2.St} {F h H : Hp} {D : Ends} {tb t t2 : TS} {ta te : TE} {tr : TA} {wi : TI} {g : TG} {l : List (V × U)} {α : Type} {P : α → Prop} {X : Ex → Prop} {Q : VK}
/-! ### small steps -/
theorem c_setL {i : Nat} (σ' : V → L2.St) (hs : ∀ x, σ.set i (some x) = σ' x) (q : te σ H fun x H1 => t2 D (σ' x) H1) : tSeq (tAsg te (gName i)) t2 D σ H := by
  have e : (fun (x : V) H1 => t2 D (σ' x) H1) = fun x H1 => t2 D (σ.set i (some x)) H1 := by funext x H1; rw [hs]
  rw [e] at q
  exact q
theorem c_var {i : Nat} {v : V} (hi : σ[i]? = some (some v)) (q : Q v H) : tVar i σ H Q := ⟨v, hi, q⟩
theorem c_const {v : V} (q : Q v H) : tC v σ H Q := q
theorem c_start {t : TS} {N : List Str} {vs : List V} (σ' : L2.St) (hs : start N vs = σ') (q : t D σ' H) : t D (start N vs) H := by rw [hs]; exact q
theorem joi_par {h h1 r : Hp} (p : Par h h1 r) : joi h1 r = h := by
  funext a
  cases q : h1 a with
  | some o => rw [joi_some q, p.l a o q]
  | none =>
    rw [joi_none q]
    cases q2 : r a with
    | some o => rw [p.r a o q2]
    | none =>
      cases q3 : h a with
      | none => rfl
      | some o =>
        rcases p.a a (by rw [q3]; simp) with z | z
        · exact absurd q z
        · exact absurd q2 z
theorem Own.front {K : PySem.W.Frag} (j : Nat) {e : V × U} (o : Own K F h l) (hj : l[j]? = some e) : Own K F h (e :: l.eraseIdx j) := by
  obtain ⟨h1, r, p, o1, o2⟩ := o.part (pv := e.1) (w := e.2) hj
  have := o2.joi o1 fun a n => by
    cases q : h1 a with
    | none => rfl
    | some u => exact absurd (p.d a (by rw [q]; simp)) n
  rw [joi_par p] at this
  exact this
/-- the content of an owned list is a list -/
theorem x_ty {j : Nat} {pv : V} {w : U} {M : U → Res α} {G : Prop} (c : CS Γ F h H) (o : Own Γ.K F h l) (hj : l[j]? = some (pv, w)) (hk : (U.isl w >>= M).Len P X) (k : tyV Γ.K "list" pv H → (M w).Len P X → G) : G := by
  cases w <;> first | exact hk.elim | skip
  exact k (own_ty o hj c.hs) hk
/-! calls by values -/
theorem c_cons {QA : List V → Hp → Prop} (q : ta σ H fun x H1 => tr σ H1 fun xs H2 => QA (x :: xs) H2) : tCons ta tr σ H QA := q
theorem c_nil {QA : List V → Hp → Prop} (q : QA [] H) : tNil σ H QA := q
theorem c_call {sp : Sp} {E : XK} {t : TA} (q : t σ H fun vs H1 => sp (vs ++ []) H1 Q E) : tCall sp [] E t σ H Q := q
theorem x_vS (j : Nat) {n : Nat} {pv : V} {w : U} {us : List U} {vs : List V} {m : List U → Res (U × U)} {M : U × U → Res α}
    (c : CS Γ F h H) (o : Own Γ.K F h l) (hj : l[j]? = some (pv, w)) (hn : AR n m) (rl : RepL Γ.K F vs us) (hX : XO Γ X)
    (hk : (m (w :: us) >>= M).Len P X)
    (k : ∀ u s v F1 h1 H1, CS Γ F1 h1 H1 → Sub F F1 → Own Γ.K F1 h1 ((pv, s) :: l.eraseIdx j) → Rep Γ.K F1 v u → (M (u, s)).Len P X → Q v H1) :
    SpS Γ.K Γ.xr n m ((pv :: vs) ++ []) H Q Γ.E := by
  have := x_callS (σ := []) (tr := fun _ H Q => Q vs H) (A := fun α k => k us) j c o hj hn (fun F1 H1 c1 e1 Q1 X1 α1 k1 P1 _ hl q => q us vs F1 H1 c1 Ext.refl (rl.mono e1.sub) hl) hX hk k
  exact this
theorem x_vSN (j : Nat) {n : Nat} {pv : V} {w : U} {us : List U} {vs : List V} {m : List U → Res (U × U)} {M : U × U → Res α}
    (c : CS Γ F h H) (o : Own Γ.K F h l) (hj : l[j]? = some (pv, w)) (hn : AR n m) (rl : RepL Γ.K F vs us) (hX : XO Γ X)
    (hk : (m (w :: us) >>= M).Len P X)
    (k : ∀ u s v F1 h1 H1, CS Γ F1 h1 H1 → Sub F F1 → Own Γ.K F1 h1 ((v, u) :: (pv, s) :: l.eraseIdx j) → (M (u, s)).Len P X → Q v H1) :
    SpSN Γ.K Γ.xr n m ((pv :: vs) ++ []) H Q Γ.E := by
  have := x_callSN (σ := []) (tr := fun _ H Q => Q vs H) (A := fun α k => k us) j c o hj hn (fun F1 H1 c1 e1 Q1 X1 α1 k1 P1 _ hl q => q us vs F1 H1 c1 Ext.refl (rl.mono e1.sub) hl) hX hk k
  exact this
theorem x_vF {n : Nat} {us : List U} {vs : List V} {m : List U → Res U} {M : U → Res α}
    (c : CS Γ F h H) (hn : AR n m) (rl : RepL Γ.K F vs us) (hX : XO Γ X) (hk : (m us >>= M).Len P X)
    (k : ∀ u v F1 H1, CS Γ F1 h H1 → Sub F F1 → Rep Γ.K F1 v u → (M u).Len P X → Q v H1) : SpF Γ.K Γ.xr n m (vs ++ []) H Q Γ.E := by
  have := x_val (σ := []) (te := tCall (SpF Γ.K Γ.xr n m) [] Γ.E fun _ H Q => Q vs H) c (ev_call (A := fun α k => k us) hn (fun F1 H1 c1 e1 Q1 X1 α1 k1 P1 _ hl q => q us vs F1 H1 c1 Ext.refl (rl.mono e1.sub) hl)) hX hk k
  exact this
theorem x_vN {n : Nat} {us : List U} {vs : List V} {m : List U → Res U} {M : U → Res α}
    (c : CS Γ F h H) (o : Own Γ.K F h l) (hn : AR n m) (rl : RepL Γ.K F vs us) (hX : XO Γ X) (hk : (m us >>= M).Len P X)
    (k : ∀ u v F1 h1 H1, CS Γ F1 h1 H1 → Sub F F1 → Own Γ.K F1 h1 ((v, u) :: l) → (M u).Len P X → Q v H1) : SpN Γ.K Γ.xr n m (vs ++ []) H Q Γ.E := by
  have := x_callN (σ := []) (t := fun _ H Q => Q vs H) (A := fun α k => k us) c o hn (fun F1 H1 c1 e1 Q1 X1 α1 k1 P1 _ hl q => q us vs F1 H1 c1 Ext.refl (rl.mono e1.sub) hl) hX hk k
  exact this
/-! displays by values -/
def tupK (Q : VK) (xs : List V) (H1 : Hp) : Prop := xs.length ≤ sizeLine ∧ ∀ p, H1 p = none → Q (.ref p) (upd H1 p (.tup xs))
def lstK (Q : VK) (xs : List V) (H1 : Hp) : Prop := xs.length ≤ sizeLine ∧ ∀ p, H1 p = none → Q (.ref p) (upd H1 p (.lst xs))
theorem c_tup {t : TA} (q : t σ H fun xs H1 => tupK Q xs H1) : tTup t σ H Q := q
theorem c_lst {t : TA} (q : t σ H fun xs H1 => lstK Q xs H1) : tLst t σ H Q := q
theorem x_mkT {us : List U} {vs : List V} {M : U → Res α} (c : CS Γ F h H) (rl : RepL Γ.K F vs us) (hk : (mkT us >>= M).Len P X) (k : ∀ u v F1 H1, CS Γ F1 h H1 → Sub F F1 → Rep Γ.K F1 v u → (M u).Len P X → Q v H1) :
    tupK Q vs H := by
  unfold mkT at hk
  split at hk
  · rename_i hz
    exact ⟨by rw [line_eq, rl.length]; exact hz, fun p hp => k _ _ _ _ (c.new hp) (Sub.new (c.hs.fresh hp).1) (.tup (SqT.of upd_same) (rl.mono (Sub.new (c.hs.fresh hp).1))) hk⟩
  · exact hk.elim
theorem x_mkL {us : List U} {vs : List V} {M : U → Res α} (c : CS Γ F h H) (rl : RepL Γ.K F vs us) (hk : (mkL us >>= M).Len P X) (k : ∀ u v F1 H1, CS Γ F1 h H1 → Sub F F1 → Rep Γ.K F1 v u → (M u).Len P X → Q v H1) :
    lstK Q vs H := by
  unfold mkL at hk
  split at hk
  · rename_i hz
    exact ⟨by rw [line_eq, rl.length]; exact hz, fun p hp => k _ _ _ _ (c.new hp) (Sub.new (c.hs.fresh hp).1) (.lst upd_same (rl.mono (Sub.new (c.hs.fresh hp).1))) hk⟩
  · exact hk.elim
/-! slices by values -/
theorem c_sl {R : V → Option Int → Option Int → Hp → VK → Prop} {tl th : TO} (q : te σ H fun x H1 => tl σ H1 fun l H2 => th σ H2 fun u H3 => R x l u H3 Q) : tSl R te tl th σ H Q := q
theorem c_part {QO : Option Int → Hp → Prop} (q : te σ H fun x H' => ∃ i, x = .int i ∧ QO (some i) H') : tPart te σ H QO := q
theorem c_nopart {QO : Option Int → Hp → Prop} (q : QO none H) : tNoPart σ H QO := q
theorem x_part {QO : Int → Prop} {v : V} {a : U} {M : Option Int → Res α} (c : CS Γ F h H) (rv : RepX Γ.K F h v a) (hk : (U_part a >>= M).Len P X) (k : ∀ i, (M (some i)).Len P X → QO i) : ∃ i, v = .int i ∧ QO i := by
  cases a <;> first | exact hk.elim | skip
  exact ⟨_, rv.int, k _ hk⟩
theorem x_sl {v : V} {a : U} {lo hi : Option Int} {M : U → Res α} (c : CS Γ F h H) (rv : RepX Γ.K F h v a) (hk : (U.slice a lo hi >>= M).Len P X) (k : ∀ u v F1 H1, CS Γ F1 h H1 → Sub F F1 → Rep Γ.K F1 v u → (M u).Len P X → Q v H1) : rUS Γ.K v lo hi H Q := by
  cases q : U.slice a lo hi with
  | exn x => exact absurd q (nx_slice a lo hi x)
  | bad => rw [q] at hk; exact hk.elim
  | ok z => rw [q] at hk; exact ⟨F, h, a, z, c.hs, rv, q, postN_s c fun v F3 H3 c3 e3 r => k z v F3 H3 c3 e3.sub r hk⟩
/-! ### a statement whose ways meet -/
theorem x_join {J : Type} (A : J → L2.St → Hp → Hp → Prop) {m : Res J} {M : J → Res α} (c : CS Γ F h H) (hk : (m >>= M).Len P X)
    (k1 : ∀ D' P', m.Len P' X → (∀ j σ2 F2 h2 H2, P' j → CS Γ F2 h2 H2 → Sub F F2 → A j σ2 F2 h2 → D'.nx σ2 H2) → t D' σ H)
    (k2 : ∀ j σ2 F2 h2 H2, CS Γ F2 h2 H2 → Sub F F2 → A j σ2 F2 h2 → (M j).Len P X → t2 D σ2 H2) : tSeq t t2 D σ H := by
  rw [Res.len_bind] at hk
  exact k1 _ _ hk fun j σ2 F2 h2 H2 p c2 s2 a => k2 j σ2 F2 h2 H2 c2 s2 a p
/-- .. and may also leave -/
theorem x_joinX {J R : Type} (A : J → L2.St → Hp → Hp → Prop) {m : Res (Ctl J α)} {M : J → Res α} (c : CS Γ F h H) (hk : (m >>= fun c => Ctl.fin c M fun r => .ok r).Len P X)
    (k1 : ∀ D' (P' : Ctl J α → Prop), m.Len P' X → (∀ j σ2 F2 h2 H2, P' (.nx j) → CS Γ F2 h2 H2 → Sub F F2 → A j σ2 F2 h2 → D'.nx σ2 H2) → (∀ r, P' (.rt r) → P r) → D'.rt = D.rt → D'.bk = D.bk → D'.ct = D.ct → t D' σ H)
    (k2 : ∀ j σ2 F2 h2 H2, CS Γ F2 h2 H2 → Sub F F2 → A j σ2 F2 h2 → (M j).Len P X → t2 D σ2 H2) : tSeq t t2 D σ H := by
  rw [Res.len_bind] at hk
  exact k1 { D with nx := t2 D } _ hk (fun j σ2 F2 h2 H2 p c2 s2 a => k2 j σ2 F2 h2 H2 c2 s2 a p) (fun r p => p) rfl rfl rfl
end
end UL
namespace UL
open PySem PySem.Spec PyProof.Rows L2
section
variable {Γ : Cz} {σ : L2.St} {F h H : Hp} {D : Ends} {tb t2 : TS} {wi : TI} {g : TG}
theorem x_forF {S R α : Type} (A : S → L2.St → Hp → Hp → Prop) (RR : R → V → Hp → Prop) {C : Hp → Hp → Prop} {r : Res (List U)} {f : S → U → Res (Ctl S R)} {s0 : S} {kk : S → Res α} {qq : R → Res α} {P : α → Prop} {X : Ex → Prop}
    (c : CS Γ F h H) (hi : EvI Γ wi σ F h H C r) (hX : XO Γ X) (hk : (r >>= fun us => forR f us s0 >>= fun c => Ctl.fin c kk qq).Len P X)
    (h0 : ∀ F1, Sub F F1 → A s0 σ F1 h) (hC : ∀ s σ1 F1 h1, A s σ1 F1 h1 → C F1 h1)
    (hb : ∀ s x v σ1 F1 h1 H1, CS Γ F1 h1 H1 → Sub F F1 → A s σ1 F1 h1 → Rep Γ.K F1 v x → ∀ (D' : Ends) (P' : Ctl S R → Prop), (f s x).Len P' X →
      (∀ s' σ2 F2 h2 H2, P' (.nx s') → CS Γ F2 h2 H2 → Sub F1 F2 → A s' σ2 F2 h2 → D'.nx σ2 H2 ∧ D'.ct σ2 H2) →
      (∀ s' σ2 F2 h2 H2, P' (.bk s') → CS Γ F2 h2 H2 → Sub F1 F2 → A s' σ2 F2 h2 → D'.bk σ2 H2) →
      (∀ r v H2, P' (.rt r) → RR r v H2 → D'.rt v H2) → g v σ1 H1 fun σ2 H2 => tb D' σ2 H2)
    (hd : ∀ s σ1 F1 h1 H1, CS Γ F1 h1 H1 → Sub F F1 → A s σ1 F1 h1 → (kk s).Len P X → t2 D σ1 H1)
    (hr : ∀ r v H2, (qq r).Len P X → RR r v H2 → D.rt v H2) : tSeq (tFor wi g tb) t2 D σ H :=
  x_for A RR c hi hX hk h0 hC hb (fun s σ1 F1 h1 H1 c1 s1 a q => hd s σ1 F1 h1 H1 c1 s1 a (q.elim id id)) hr
end
end UL
namespace UL
open PySem PySem.Spec PyProof.Rows L2
section
variable {Γ : Cz} {σ : L2.St} {F h H : Hp} {D : Ends} {tb t t2 u : TS} {tt : TT}
theorem c_nx (q : D.nx σ H) : tNext D σ H := q
theorem c_brk (q : D.bk σ H) : tSeq tBreak t2 D σ H := q
theorem c_cont (q : D.ct σ H) : tSeq tCont t2 D σ H := q
theorem c_pass (q : t2 D σ H) : tSeq tNext t2 D σ H := q
theorem c_gn {i : Nat} {v : V} {Q : L2.St → Hp → Prop} (σ' : L2.St) (hs : σ.set i (some v) = σ') (q : Q σ' H) : gName i v σ H Q := by
  show Q (σ.set i (some v)) H
  rw [hs]; exact q
theorem c_wipe {σ2 : L2.St} {vs : List Nat} {A B : Prop} (σ' : L2.St) (q : B) (hw : A) : A ∧ B := ⟨hw, q⟩
theorem c_ifN (q : tt σ H fun b H1 => if b = true then t D σ H1 else u D σ H1) : tIfS tt t u D σ H := q
theorem x_ifN {α : Type} {r : Res Bool} {m1 m2 : Res α} {P : α → Prop} {X : Ex → Prop} (c : CS Γ F h H) (he : EvT Γ tt σ F h H r) (hX : XO Γ X) (hk : (r >>= fun b => if b = true then m1 else m2).Len P X)
    (k1 : ∀ F1 H1, CS Γ F1 h H1 → Sub F F1 → m1.Len P X → t D σ H1) (k2 : ∀ F1 H1, CS Γ F1 h H1 → Sub F F1 → m2.Len P X → u D σ H1) : tIfS tt t u D σ H :=
  c_ifN (x_t c he hX hk fun b F1 H1 c1 e1 hl => by
    cases b with
    | true => exact k1 F1 H1 c1 e1 hl
    | false => exact k2 F1 H1 c1 e1 hl)
theorem _root_.L2.Room.un64 {k : Nat} {A : Around} (r : Room k A) : A.units + 64 < cLine := by have := r.un; omega
theorem _root_.L2.Room.un65 {k : Nat} {A : Around} (r : Room k A) : A.units + 65 < cLine := by have := r.un; omega
end
end UL
namespace UL
open PySem PySem.Spec PyProof.Rows L2
/-! ### what a def hands back -/
def RV (Γ : Cz) : U → V → Hp → Prop := fun r v H => ∃ F h, CS Γ F h H ∧ Rep Γ.K F v r
def RN (Γ : Cz) : U → V → Hp → Prop := fun r v H => ∃ F h l, ∃ j : Nat, CS Γ F h H ∧ Own Γ.K F h l ∧ l[j]? = some (v, r)
def RS (Γ : Cz) (pv : V) : U × U → V → Hp → Prop := fun r v H => ∃ F h l, ∃ j : Nat, CS Γ F h H ∧ Own Γ.K F h l ∧ l[j]? = some (pv, r.2) ∧ Rep Γ.K F v r.1
def RSN (Γ : Cz) (pv : V) : U × U → V → Hp → Prop := fun r v H => ∃ F h l, ∃ i j : Nat, CS Γ F h H ∧ Own Γ.K F h l ∧ l[i]? = some (v, r.1) ∧ (l.eraseIdx i)[j]? = some (pv, r.2)
section
variable {Γ : Cz} {σ : L2.St} {F h H : Hp} {D : Ends} {tb t t2 u : TS} {tt : TT} {l : List (V × U)} {α : Type} {P : α → Prop} {X : Ex → Prop} {QT : Bool → Hp → Prop}
theorem c_yes (q : QT true H) : tYes σ H QT := q
theorem x_flat {w : U} {M : U → Res α} {G : Prop} (hk : (U.scal w >>= M).Len P X) (k : w.flat = true → (M w).Len P X → G) : G := by
  unfold U.scal at hk
  split at hk
  · rename_i f; exact k f hk
  · exact hk.elim
theorem x_newL {Γ : Cz} {F h H : Hp} {l : List (V × U)} {p : Addr} {xs : List V} {ys : List U} (c : CS Γ F h H) (o : Own Γ.K F h l) (hp : H p = none) (rl : RepL Γ.K F xs ys) {G : Hp → Prop}
    (k : ∀ h1 H1, CS Γ F h1 H1 → Own Γ.K F h1 ((.ref p, .lst ys) :: l) → G H1) : G (upd H p (.lst xs)) :=
  k _ _ (c.go (c.hs.newo hp) (c.hs.ext_newo hp)) (.cons rl (c.hs.fresh hp).2 o)
theorem x_frzL {Γ : Cz} {F h H : Hp} {l : List (V × U)} {p : Addr} {xs : List V} {ys : List U} (c : CS Γ F h H) (o : Own Γ.K F h l) (hp : H p = none) (rl : RepL Γ.K F xs ys) {G : Hp → Prop}
    (k : ∀ F1 H1, CS Γ F1 h H1 → Sub F F1 → Own Γ.K F1 h l → Rep Γ.K F1 (.ref p) (.lst ys) → G H1) : G (upd H p (.lst xs)) :=
  k _ _ (c.new hp) (Sub.new (c.hs.fresh hp).1) (o.mono (Sub.new (c.hs.fresh hp).1)) (.lst upd_same (rl.mono (Sub.new (c.hs.fresh hp).1)))
end
end UL
namespace UL
open PySem PySem.Spec PyProof.Rows L2
theorem c_nx2 {σ : L2.St} {H : Hp} {t2 : TS} {D : Ends} (q : t2 D σ H) : tNext { D with nx := t2 D } σ H := q
end UL

set_option Elab.async false
set_option linter.all false
set_option maxRecDepth 100000
set_option maxHeartbeats 1000000
namespace UL
open PySem PySem.Spec PyProof.Rows L2
/-! ### isinstance of a built-in type -/
namespace U
def tyn : U → String
  | .non => "NoneType"
  | .bl _ => "bool"
  | .int _ => "int"
  | .str _ => "str"
  | .lst _ => "list"
  | .tup _ => "tuple"
  | .scr _ => "list"
def tyns : List String := ["NoneType", "bool", "int", "str", "list", "tuple"]
def isa (T t : String) : Bool := t == T || (T == "int" && t == "bool")
def isi (T : String) (u : U) : Res U := .ok (.bl (isa T u.tyn))
end U
theorem tyn_mem (u : U) : u.tyn ∈ U.tyns := by cases u <;> simp [U.tyn, U.tyns]
theorem kit_all {K : PySem.W.Frag} : ∀ T ∈ ["int", "bool", "str", "list", "tuple"], ∀ t ∈ U.tyns, PySem.W.kitOne K (.type t) (.type T) = some (U.isa T t) := by
  intro T hT t ht
  have h : ∀ T ∈ ["int", "bool", "str", "list", "tuple"], ∀ t ∈ U.tyns, kitB t T = some (U.isa T t) := by decide +kernel
  exact kit_ty (h T hT t ht)
theorem tyX_of {K : PySem.W.Frag} {F h H : Hp} {v : V} {u : U} (s : HS F h H) (r : RepX K F h v u) : TyX K H v (.type u.tyn) := by
  have tl : ∀ {a : Addr} {xs : List V}, SqL K H a xs → TyX K H (.ref a) (.type "list") := fun {a xs} hq => by
    rcases hq with (h | ⟨o, h⟩) | ⟨o, its, n, h, c, _⟩
    · exact .base (.lst h)
    · exact .base (.frz h)
    · exact .kList h c
  have tt : ∀ {a : Addr} {xs : List V}, SqT K H a xs → TyX K H (.ref a) (.type "tuple") := fun {a xs} hq => by
    rcases hq with (h | ⟨o, h⟩) | ⟨o, its, n, h, c, _⟩
    · exact .base (.tup h)
    · exact .fTuple h
    · exact .kTuple h c
  rcases r with r | ⟨p, xs, us, rfl, rfl, c, d⟩
  · cases r with
    | non => exact .base .non
    | bl b => exact .base (.bl b)
    | int i => exact .base (.int i)
    | str x => exact .base (.str x)
    | lst h1 h2 => exact tl (SqL.of (s.fr _ _ h1))
    | tup h1 h2 => exact tt (s.fr.st h1)
    | scr h1 => exact tl (s.fr.sl h1)
  · exact tl (SqL.of (s.ow _ _ c))
def rUI (K : PySem.W.Frag) (T : String) : List V → Hp → VK → Prop := fun xs H Q => ∃ x F h a, xs = [x, .ty T] ∧ HS F h H ∧ RepX K F h x a ∧ ∀ v, (∀ F', Rep K F' v (.bl (U.isa T a.tyn))) → Q v H
theorem u_isi {X : Cx} {T : String} (hT : T ∈ ["int", "bool", "str", "list", "tuple"] := by decide) : CallR X (.builtin "isinstance") (rUI X.K T) := CallR.imp call_isi fun xs H Q ⟨x, F, h, a, ex, s, ra, q⟩ =>
  ⟨x, .ty T, .type a.tyn, .type T, _, ex, .ty T, tyX_of s ra, kit_all T hT _ (tyn_mem a), q _ fun _ => .bl _⟩
section
variable {Γ : Cz} {σ : L2.St} {F h H : Hp} {ta : TE} {ra : Res U}
theorem ev_isi {T : String} (ha : EvU Γ ta σ F h H ra) : EvS Γ (tCB (rUI Γ.K T) (tCons ta (tCons (tC (.ty T)) tNil))) σ F h H (ra >>= fun a => U.isi T a) := fun F1 H1 c e Q X hX hl => by
  rw [Res.len_bind] at hl
  refine ha F1 H1 c e _ X hX (hl.mono fun a _ hl v F2 H2 c2 e2 rv => ?_)
  exact ⟨v, F2, h, a, rfl, c2.hs, rv, fun w rw' => hl w F2 H2 c2 e2 (rw' _)⟩
end
/-! ### l.index(x): the first place -/
def _root_.UL.U.findIx (x : U) : List U → Nat → Option Nat
  | [], _ => none
  | y :: r, n => if y.eqv x = true then some n else U.findIx x r (n + 1)
def _root_.UL.U.index : U → U → Res U
  | .lst us, x => if x.shp = true ∧ (U.lst us).shp = true then (match U.findIx x us 0 with | some k => .ok (.int k) | none => .bad) else .bad
  | _, _ => .bad
theorem findIx_some {x : U} : ∀ {us : List U} {n k : Nat}, U.findIx x us n = some k → ∃ j y, k = n + j ∧ us[j]? = some y ∧ y.eqv x = true ∧ ∀ m z, m < j → us[m]? = some z → z.eqv x = false
  | [], _, _, h => by cases h
  | y :: r, n, k, h => by
    unfold U.findIx at h
    split at h
    · rename_i c
      cases h
      exact ⟨0, y, rfl, rfl, c, fun m z hm => by omega⟩
    · rename_i c
      obtain ⟨j, z, e, h1, h2, h3⟩ := findIx_some h
      refine ⟨j + 1, z, by omega, by simpa using h1, h2, fun m w hm hw => ?_⟩
      cases m with
      | zero =>
        simp at hw
        subst hw
        cases q : y.eqv x with
        | false => rfl
        | true => exact absurd q c
      | succ m => exact h3 m w (by omega) (by simpa using hw)
theorem toDs_get (us : List U) (i : Nat) : (U.toDs us)[i]? = us[i]?.map U.toD := by
  induction us generalizing i with
  | nil => unfold U.toDs; simp
  | cons a r ih =>
    unfold U.toDs
    cases i with
    | zero => simp
    | succ i => simpa using ih i
def rUIx (K : PySem.W.Frag) : V → List V → Hp → VK → Prop := fun x xs H Q => ∃ F h y a b z, xs = [y] ∧ HS F h H ∧ RepX K F h x a ∧ RepX K F h y b ∧ U.index a b = .ok z ∧ ∀ v, (∀ F', Rep K F' v z) → Q v H
theorem u_index {X : Cx} (hu : X.A.units + 65 < cLine) : MtR X "list.index" (rUIx X.K) := fun pins s σ H x xs v us Q I rx rxs ⟨F, h, y, a, b, z, ex, hs, ra, rb, e, q⟩ => by
  refine mt_indexD hu pins s σ H x xs v us Q I rx rxs ?_
  cases a <;> first | (cases e; done) | skip
  rename_i us'
  simp only [U.index] at e
  split at e
  · rename_i hz
    split at e
    · rename_i k hk
      cases e
      obtain ⟨j, w, e1, h1, h2, h3⟩ := findIx_some hk
      obtain ⟨p, ys, rfl, hp, rl⟩ := ra.lst hs
      have hd := ra.dp hs
      have hz2 := hz.2
      unfold U.shp at hz2
      unfold U.toD at hd hz2
      have ek : k = j := by omega
      subst ek
      refine ⟨p, y, b.toD, U.toDs us', k, w.toD, rfl, ex, hd, rb.dp hs, hz2, hz.1, ?_, h2, fun m z' hm hz' => ?_, q _ fun _ => .int _⟩
      · rw [toDs_get, h1]; rfl
      · rw [toDs_get] at hz'
        obtain ⟨u, hu', rfl⟩ := Option.map_eq_some_iff.mp hz'
        exact h3 m u hm hu'
    · cases e
  · cases e
section
variable {Γ : Cz} {σ : L2.St} {F h H : Hp} {ta tb : TE} {ra rb : Res U}
theorem ev_index (ha : EvU Γ ta σ F h H ra) (hb : EvU Γ tb σ F h H rb) : EvS Γ (tBM Γ.K "list" (rUIx Γ.K) ta (tCons tb tNil)) σ F h H (ra >>= fun a => U.isl a >>= fun a => rb >>= fun b => U.index a b) := fun F1 H1 c e Q X hX hl => by
  rw [Res.len_bind] at hl
  refine ha F1 H1 c e _ X hX (hl.mono fun a ea hl v F2 H2 c2 e2 rv => ?_)
  clear ea
  cases a <;> first | exact hl.elim | skip
  rename_i us
  have hl : (rb >>= fun b => U.index (.lst us) b).Len _ X := hl
  obtain ⟨p, xs, rfl, hp, rl⟩ := rv.lst c2.hs
  refine ⟨.inl ⟨rfl, xs, SqL.of hp⟩, ?_⟩
  rw [Res.len_bind] at hl
  refine hb F2 H2 c2 (e.trans e2) _ X hX (hl.mono fun b eb hl w F3 H3 c3 e3 rw' => ?_)
  cases q : U.index (.lst us) b with
  | bad => rw [q] at hl; exact hl.elim
  | exn x =>
    simp only [U.index] at q
    split at q
    · split at q <;> cases q
    · cases q
  | ok z =>
    rw [q] at hl
    refine ⟨F3, h, w, .lst us, b, z, rfl, c3.hs, rv.mono e3.sub, rw', q, fun v' rv' => hl v' F3 H3 c3 (e2.trans e3) (rv' _)⟩
end
end UL

set_option Elab.async false
set_option linter.all false
set_option maxRecDepth 100000
set_option maxHeartbeats 1000000
namespace UL
open PySem PySem.Spec PyProof.Rows L2
/-! ### the rules, over a written part by name -/
section
variable {X : Cx} (K : PySem.W.Frag) (hK : X.K = K := by rfl)
include hK
theorem k_add : OpR X (binaryOp .Add) (rN2 K U.add) := by subst hK; exact u_add
theorem k_sub : OpR X (binaryOp .Sub) (rU2 K U.sub) := by subst hK; exact u_sub
theorem k_mul : OpR X (binaryOp .Mult) (rN2 K U.mul) := by subst hK; exact u_mul
theorem k_fdiv : OpR X (binaryOp .FloorDiv) (rU2 K U.fdiv) := by subst hK; exact u_fdiv
theorem k_mod : OpR X (binaryOp .Mod) (rU2 K U.mod) := by subst hK; exact u_mod
theorem k_pow : OpR X (binaryOp .Pow) (rU2 K U.pow) := by subst hK; exact u_pow
theorem k_shl : OpR X (binaryOp .LShift) (rU2 K U.shl) := by subst hK; exact u_shl
theorem k_shr : OpR X (binaryOp .RShift) (rU2 K U.shr) := by subst hK; exact u_shr
theorem k_band : OpR X (binaryOp .BitAnd) (rU2 K U.band) := by subst hK; exact u_band
theorem k_lt : OpR X (compareOp .Lt) (rU2 K U.lt) := by subst hK; exact u_lt
theorem k_le : OpR X (compareOp .LtE) (rU2 K U.le) := by subst hK; exact u_le
theorem k_gt : OpR X (compareOp .Gt) (rU2 K U.gt) := by subst hK; exact u_gt
theorem k_ge : OpR X (compareOp .GtE) (rU2 K U.ge) := by subst hK; exact u_ge
theorem k_isN : OpR X (compareOp .Is) (rU2 K U.isN) := by subst hK; exact u_isN
theorem k_notN : OpR X (compareOp .IsNot) (rU2 K U.notN) := by subst hK; exact u_notN
theorem k_neg : UnR X (unaryOp .USub) (rU1 K U.neg) := by subst hK; exact u_neg
theorem k_idx : IxR X (rU2 K U.idx) := by subst hK; exact u_idx
theorem k_len : CallR X (.builtin "len") (rUC K U.len) := by subst hK; exact u_len
theorem k_abs : CallR X (.builtin "abs") (rUC K U.abs) := by subst hK; exact u_abs
theorem k_int : CallR X (.type "int") (rUC K U.toInt) := by subst hK; exact u_int
theorem k_list : CallR X (.type "list") (rNC K U.list) := by subst hK; exact u_list
theorem k_tuple : CallR X (.type "tuple") (rUC K U.tuple) := by subst hK; exact u_tuple
theorem k_sorted : CallR X (.builtin "sorted") (rNC K U.sorted) := by subst hK; exact u_sorted
theorem k_slice : SlR X (rUS K) := by subst hK; exact u_slice
end
section
variable {X : Cx} (K : PySem.W.Frag)
theorem k_eq (hu : X.A.units + 64 < cLine) (hK : X.K = K := by rfl) : OpR X (compareOp .Eq) (rU2 K U.eq) := by subst hK; exact u_eq hu
theorem k_ne (hu : X.A.units + 64 < cLine) (hK : X.K = K := by rfl) : OpR X (compareOp .NotEq) (rU2 K U.ne) := by subst hK; exact u_ne hu
theorem k_in (hu : X.A.units + 65 < cLine) (hK : X.K = K := by rfl) : OpR X (compareOp .In) (rU2 K U.isin) := by subst hK; exact u_in hu
theorem k_notin (hu : X.A.units + 65 < cLine) (hK : X.K = K := by rfl) : OpR X (compareOp .NotIn) (rU2 K U.notin) := by subst hK; exact u_notin hu
theorem k_index (hu : X.A.units + 65 < cLine) (hK : X.K = K := by rfl) : MtR X "list.index" (rUIx K) := by subst hK; exact u_index hu
theorem k_isi {T : String} (hT : T ∈ ["int", "bool", "str", "list", "tuple"] := by decide) (hK : X.K = K := by rfl) : CallR X (.builtin "isinstance") (rUI K T) := by subst hK; exact u_isi hT
theorem kpi_seq {tg l : Expr} {tl : TE} (hl : PE X l tl) (hK : X.K = K := by rfl) : PI X tg l (iSeq K tl) := by subst hK; exact pi_seq hl
theorem kpe_bm {o e : Expr} {es : List Expr} {to : TE} {t : TA} {name : Str} {apos cpos : Pos} {T id : String} {r : V → List V → Hp → VK → Prop} (pa : PlainAttrs T) (slot : Slot T name id) (hty : typeOf (.builtin id) = pure (.type "method_descriptor")) (hm : MtR X id r) (ho : PE X o to) (ha : PA X (e :: es) t)
    (hbase : attributeBase o name X.env (eval o X.env) = eval o X.env := by rfl)
    (hfew : ((backTo cpos (starEach (e :: es) X.env)).all (fun x => !x.1) && (backToKw cpos (keywordEach [] X.env)).all (fun x => x.1.isSome)
      && decide ((e :: es).length + ([] : List Keyword).length + (if ([] : List Keyword).isEmpty then 0 else 1) < 30)) = true := by rfl)
    (hline : (apos.endLine == cpos.line) = true := by rfl) (hs : starEach (e :: es) X.env = (false, eval e X.env) :: starEach es X.env := by rfl) (hplain : (backTo cpos (starEach es X.env)).any (·.1) = false := by rfl) (hK : X.K = K := by rfl) :
    PE X (.Call (.Attribute o name apos) (e :: es) [] cpos) (tBM K T r to t) := by
  subst hK; exact pe_bm pa slot hty hm ho ha hbase hfew hline hs hplain
end
/-! ### the start of a def from which no exception leaves -/
abbrev noX : XR := fun _ _ _ _ => False
section
variable {K : PySem.W.Frag} {n : Nat} {vs : List V} {H : Hp} {Q : VK} {E : XK} {G : Prop}
theorem xo0 {Γ : Cz} {X : Ex → Prop} (h : Γ.xr = noX) : XO Γ X := fun e cls d F h' H _ _ hx => by rw [h] at hx; exact hx.elim
theorem start0_F {m : List U → Res U} (h : SpF K noX n m vs H Q E) (k : ∀ F us X P, CS ⟨K, noX, E0, F, emp, H⟩ F emp H → Own K F emp [] → vs.length = n → RepL K F vs us → XO ⟨K, noX, E0, F, emp, H⟩ X → (m us).Len P X →
    (∀ u v F2 h2 H2, P u → CS ⟨K, noX, E0, F, emp, H⟩ F2 h2 H2 → Rep K F2 v u → Q v H2) → G) : G :=
  start_F h fun F us X P c o hn rl _ hk hP => k F us X P ⟨c.hs, c.ex⟩ o hn rl (xo0 rfl) hk fun u v F2 h2 H2 p c r => hP u v F2 h2 H2 p ⟨c.hs, c.ex⟩ r
theorem start0_N {m : List U → Res U} (h : SpN K noX n m vs H Q E) (k : ∀ F us X P, CS ⟨K, noX, E0, F, emp, H⟩ F emp H → Own K F emp [] → vs.length = n → RepL K F vs us → XO ⟨K, noX, E0, F, emp, H⟩ X → (m us).Len P X →
    (∀ (j : Nat) u v F2 h2 H2 l, P u → CS ⟨K, noX, E0, F, emp, H⟩ F2 h2 H2 → Own K F2 h2 l → l[j]? = some (v, u) → Q v H2) → G) : G :=
  start_N h fun F us X P c o hn rl _ hk hP => k F us X P ⟨c.hs, c.ex⟩ o hn rl (xo0 rfl) hk fun j u v F2 h2 H2 l p c o hj => hP j u v F2 h2 H2 l p ⟨c.hs, c.ex⟩ o hj
theorem start0_S {m : List U → Res (U × U)} (h : SpS K noX n m vs H Q E) (k : ∀ F h us X P pv w vs', CS ⟨K, noX, E0, F, h, H⟩ F h H → Own K F h [(pv, w)] → vs = pv :: vs' → vs.length = n → RepL K F vs' us → XO ⟨K, noX, E0, F, h, H⟩ X → (m (w :: us)).Len P X →
    (∀ (j : Nat) u v F2 h2 H2 l, P u → CS ⟨K, noX, E0, F, h, H⟩ F2 h2 H2 → Own K F2 h2 l → l[j]? = some (pv, u.2) → Rep K F2 v u.1 → Q v H2) → G) : G :=
  start_S h fun F h us X P pv w vs' c o e hn rl _ hk hP => k F h us X P pv w vs' ⟨c.hs, c.ex⟩ o e hn rl (xo0 rfl) hk fun j u v F2 h2 H2 l p c o hj r => hP j u v F2 h2 H2 l p ⟨c.hs, c.ex⟩ o hj r
theorem start0_SN {m : List U → Res (U × U)} (h : SpSN K noX n m vs H Q E) (k : ∀ F h us X P pv w vs', CS ⟨K, noX, E0, F, h, H⟩ F h H → Own K F h [(pv, w)] → vs = pv :: vs' → vs.length = n → RepL K F vs' us → XO ⟨K, noX, E0, F, h, H⟩ X → (m (w :: us)).Len P X →
    (∀ (i j : Nat) u v F2 h2 H2 l, P u → CS ⟨K, noX, E0, F, h, H⟩ F2 h2 H2 → Own K F2 h2 l → l[i]? = some (v, u.1) → (l.eraseIdx i)[j]? = some (pv, u.2) → Q v H2) → G) : G :=
  start_SN h fun F h us X P pv w vs' c o e hn rl _ hk hP => k F h us X P pv w vs' ⟨c.hs, c.ex⟩ o e hn rl (xo0 rfl) hk fun i j u v F2 h2 H2 l p c o hi hj => hP i j u v F2 h2 H2 l p ⟨c.hs, c.ex⟩ o hi hj
end
end UL
namespace UL
open PySem PySem.Spec PyProof.Rows L2
theorem pe_globI {X : Cx} {x : Str} {i : Int} {pos : Pos} (hg : Gl X x) (hm : ∃ t, X.mg x = some (.int i t)) (hd : (x == ("__debug__" : Str)) = false := by decide) : PE X (.Name x pos) (tC (.int i)) := by
  obtain ⟨t, hm⟩ := hm
  exact pe_glob hg hm ⟨t, rfl⟩ hd
end UL

set_option Elab.async false
set_option linter.all false
set_option maxRecDepth 100000
set_option maxHeartbeats 1000000
namespace UL
open PySem PySem.Spec PyProof.Rows L2
/-! ### sorted(xs), of any data -/
namespace U
def allAlike (us : List U) : Bool := us.all fun a => us.all fun b => PySem.W.alike a.toD b.toD
def isTup1 : U → Bool
  | .tup (_ :: _) => true
  | _ => false
def notTup : U → Bool
  | .tup _ => false
  | .non => false
  | _ => true
def sortable (us : List U) : Bool := us.all isTup1 || us.all notTup
def shallow (us : List U) : Bool := us.all fun a => decide (a.toD.depth ≤ 100)
def leD (a b : U) : Bool := PySem.W.dataLe false U.toD a b
def sortD (us : List U) : List U := us.mergeSort leD
def sortedD : U → Res U
  | .lst us => if allAlike us = true ∧ sortable us = true ∧ shallow us = true then .ok (.lst (sortD us)) else .bad
  | _ => .bad
end U
theorem nx_sortedD : NX1 U.sortedD := by intro a e h; cases a <;> simp only [U.sortedD] at h <;> first | (cases h; done) | (split at h <;> cases h)
theorem rep_each {K : PySem.W.Frag} {F : Hp} : ∀ {xs : List V} {its : List Value} {us : List U}, Vals xs its → RepL K F xs us → PySem.W.EachIs (fun v u => ∃ x, RelV x v ∧ Rep K F x u) its us
  | _, _, _, .nil, .nil => .nil
  | _, _, _, .cons r t, .cons q s => .cons ⟨_, r, q⟩ (rep_each t s)
theorem each_rep {K : PySem.W.Frag} {F : Hp} : ∀ {its : List Value} {us : List U}, PySem.W.EachIs (fun v u => ∃ x, RelV x v ∧ Rep K F x u) its us → ∃ xs, Vals xs its ∧ RepL K F xs us
  | _, _, .nil => ⟨[], .nil, .nil⟩
  | _, _, .cons ⟨x, a, b⟩ t => by
    obtain ⟨xs, c, d⟩ := each_rep t
    exact ⟨x :: xs, .cons a c, .cons b d⟩
theorem sortable_of {us : List U} (h : U.sortable us = true) : PySem.W.Sortable (us.map U.toD) := by
  unfold U.sortable at h
  rw [Bool.or_eq_true] at h
  rcases h with h | h
  · refine .inl fun d hd => ?_
    obtain ⟨u, hu, rfl⟩ := List.mem_map.mp hd
    have := List.all_eq_true.mp h u hu
    cases u <;> first | (cases this; done) | skip
    rename_i xs
    cases xs with
    | nil => cases this
    | cons a r => exact ⟨a.toD, U.toDs r, by rw [U.toD, U.toDs]⟩
  · refine .inr fun d hd => ?_
    obtain ⟨u, hu, rfl⟩ := List.mem_map.mp hd
    have := List.all_eq_true.mp h u hu
    cases u <;> first | (cases this; done) | (unfold U.toD; refine ⟨fun z => ?_, fun xs z => ?_⟩ <;> cases z)
theorem alike_of {us : List U} (h : U.allAlike us = true) : PySem.W.AllAlike (us.map U.toD) := by
  intro d hd d' hd'
  obtain ⟨u, hu, rfl⟩ := List.mem_map.mp hd
  obtain ⟨u', hu', rfl⟩ := List.mem_map.mp hd'
  exact List.all_eq_true.mp (List.all_eq_true.mp h u hu) u' hu'
theorem u_sortedD {X : Cx} (hr : X.A.units + 200 < cLine) : CallR X (.builtin "sorted") (rNC X.K U.sortedD) := by
  intro pins s σ H xs us Q I r h
  obtain ⟨x, ex, F, h, a, z, hs, ra, e, q⟩ := h
  cases a <;> first | (simp only [U.sortedD] at e; cases e; done) | skip
  rename_i vs
  simp only [U.sortedD] at e
  split at e
  · rename_i hc
    cases e
    obtain ⟨p, ys, rfl, hp, rl⟩ := ra.lst hs
    subst ex
    obtain ⟨its, rv, hl, hz⟩ := I.list (SqL.of (K := X.K) hp)
    rw [Vals.ref1 r]
    have e1 := rep_each rv rl
    have er : PySem.W.EachIs (fun v u => ∃ as, Reads s.heap v (U.toD u) as) its vs := by
      refine e1.mono fun v u ⟨x, rx, ru⟩ => ?_
      exact Dp.reads I _ _ _ (Dp.sub hs.fr ru.dp) rx
    refine PySem.W.sorted_data hl.isList e1 er (alike_of hc.1) (sortable_of hc.2.1) (by rw [← rl.length]; exact hz) (fun b hb => ?_) fun out hlen eo => ?_
    · have := of_decide_eq_true (List.all_eq_true.mp hc.2.2 b hb)
      omega
    · obtain ⟨zs, rz, rlz⟩ := each_rep eo
      obtain ⟨ep, he'⟩ := PyProof.Rows.sortedAll_at s.heap its out.toArray
      have hlen2 : zs.length ≤ sizeLine := by
        rw [rz.length, hlen, ← rl.length]; exact hz
      exact ⟨.ref _, upd H (s.heap.objs.size + 1) (.lst zs), I.laid (t' := s.toks) (fun _ _ => PyProof.Rows.sortedAll_old) (Nat.le_succ _) ⟨hlen2, out, ep, rz, he'⟩, rfl, q _ zs (I.hok.fresh (Nat.le_succ _)) rlz⟩
  · cases e
theorem k_sortedD {X : Cx} (K : PySem.W.Frag) (hr : X.A.units + 200 < cLine) (hK : X.K = K := by rfl) : CallR X (.builtin "sorted") (rNC K U.sortedD) := by subst hK; exact u_sortedD hr
theorem _root_.L2.Room.un200 {k : Nat} {A : Around} (r : Room k A) : A.units + 200 < cLine := by have := r.un; omega
end UL

set_option Elab.async false
set_option linter.all false
set_option maxRecDepth 100000
set_option maxHeartbeats 4000000
namespace UW
open PySem PySem.Spec PyProof.Rows L2 UL
/-! ### _law_draw -/
def m_law_draw (x_state x_many : U) : Res (U × U) :=
  ((((.ok x_state) >>= fun a1 => (.ok (.int 0)) >>= fun a2 => U.idx a1 a2) >>= fun a3 => (.ok (.int 0)) >>= fun a4 => U.gt a3 a4) >>= fun a5 => U.bool? a5) >>= fun b7 => if b7 = true then ((((.ok x_state) >>= fun a12 => (.ok (.int 0)) >>= fun a13 => U.idx a12 a13) >>= fun a14 => U.toInt a14) >>= fun a15 => (.ok x_many) >>= fun a16 => U.mod a15 a16) >>= fun x_digit_17 => (((.ok x_state) >>= fun a22 => (.ok (.int 0)) >>= fun a23 => U.idx a22 a23) >>= fun a24 => (.ok x_many) >>= fun a25 => U.fdiv a24 a25) >>= fun a32 => (.ok (.int 0)) >>= fun a33 => U.setAt x_state a33 a32 >>= fun x_state_31 => (.ok x_digit_17) >>= fun y38 => .ok (y38, x_state_31) else (((.ok x_state) >>= fun a43 => (.ok (.int 2)) >>= fun a44 => U.idx a43 a44) >>= fun a45 => (.ok (.int 1)) >>= fun a46 => U.add a45 a46) >>= fun a53 => (.ok (.int 2)) >>= fun a54 => U.setAt x_state a54 a53 >>= fun x_state_52 => (((((((.ok x_state_52) >>= fun a59 => (.ok (.int 1)) >>= fun a60 => U.idx a59 a60) >>= fun a61 => (.ok (.int 48271)) >>= fun a62 => U.mul a61 a62) >>= fun a67 => (((.ok x_state_52) >>= fun a63 => (.ok (.int 2)) >>= fun a64 => U.idx a63 a64) >>= fun a65 => (.ok (.int 69621)) >>= fun a66 => U.mul a65 a66) >>= fun a68 => U.add a67 a68) >>= fun a69 => (.ok (.int 11)) >>= fun a70 => U.add a69 a70) >>= fun a71 => U.toInt a71) >>= fun a72 => (.ok (.int 2147483647)) >>= fun a73 => U.mod a72 a73) >>= fun x_one_74 => ((((((.ok x_one_74) >>= fun a79 => (.ok x_one_74) >>= fun a80 => U.mul a79 a80) >>= fun a85 => (((.ok x_state_52) >>= fun a81 => (.ok (.int 2)) >>= fun a82 => U.idx a81 a82) >>= fun a83 => (.ok (.int 40692)) >>= fun a84 => U.mul a83 a84) >>= fun a86 => U.add a85 a86) >>= fun a87 => (.ok (.int 7)) >>= fun a88 => U.add a87 a88) >>= fun a89 => U.toInt a89) >>= fun a90 => (.ok (.int 2147483399)) >>= fun a91 => U.mod a90 a91) >>= fun x_two_92 => (((((.ok x_two_92) >>= fun a97 => (.ok x_two_92) >>= fun a98 => U.mul a97 a98) >>= fun a99 => (.ok x_one_74) >>= fun a100 => U.add a99 a100) >>= fun a101 => U.toInt a101) >>= fun a102 => (.ok (.int 2147483563)) >>= fun a103 => U.mod a102 a103) >>= fun x_three_104 => ((((.ok x_three_104) >>= fun a109 => (.ok (.int 8)) >>= fun a110 => U.fdiv a109 a110) >>= fun a111 => U.toInt a111) >>= fun a112 => (.ok x_many) >>= fun a113 => U.mod a112 a113) >>= fun y114 => .ok (y114, x_state_52)
/-! ### _law_size -/
def m_law_size (x_state x_small x_large : U) : Res (U × U) :=
  (.ok (.int 8)) >>= fun a1 => m_law_draw x_state a1 >>= fun (a17, s8) => (.ok (.int 5)) >>= fun a18 => U.eq a17 a18 >>= fun a19 => U.bool? a19 >>= fun b20 => if b20 = true then (.ok (.int 1)) >>= fun a37 => (.ok x_large) >>= fun a25 => m_law_draw s8 a25 >>= fun (a38, s32) => U.add a37 a38 >>= fun y39 => .ok (y39, s32) else (.ok (.int 1)) >>= fun a56 => (.ok x_small) >>= fun a44 => m_law_draw s8 a44 >>= fun (a57, s51) => U.add a56 a57 >>= fun y58 => .ok (y58, s51)
/-! ### _law_left -/
def m_law_left_loop2 (p_named : U) : U → U → Res (Ctl (U) U) := fun s x =>
  (((.ok x) >>= fun a58 => (.ok p_named) >>= fun a59 => U.notin a58 a59) >>= fun a60 => U.bool? a60) >>= fun b62 => if b62 = true then (.ok (.bl false)) >>= fun x_whole_67 => .ok (.nx x_whole_67) else .ok (.nx s)
def m_law_left_loop1 (p_named : U) : U → U → Res (Ctl (U) U) := fun s x =>
  (((((.ok p_named) >>= fun a31 => ((.ok (.int 1)) >>= fun a30 => U.neg a30) >>= fun a32 => U.idx a31 a32) >>= fun a35 => ((.ok x) >>= fun a33 => (.ok (.int 0)) >>= fun a34 => U.idx a33 a34) >>= fun a36 => U.isin a35 a36) >>= fun a37 => U.bool? a37) >>= fun b38 => if b38 = true then (((((.ok x) >>= fun a21 => (.ok (.int 0)) >>= fun a22 => U.idx a21 a22) >>= fun a23 => U.len a23) >>= fun a27 => (((.ok s) >>= fun a24 => (.ok (.int 0)) >>= fun a25 => U.idx a24 a25) >>= fun a26 => U.len a26) >>= fun a28 => U.gt a27 a28) >>= fun a29 => U.bool? a29) else .ok false) >>= fun b40 => if b40 = true then (.ok (.bl true)) >>= fun x_whole_45 => (((.ok x) >>= fun a46 => (.ok (.int 0)) >>= fun a47 => U.idx a46 a47) >>= fun a48 => U.items a48) >>= fun us69 => forR (m_law_left_loop2 p_named) us69 x_whole_45 >>= fun c70 => Ctl.fin c70 (fun s68 => ((.ok s68) >>= fun a71 => U.bool? a71) >>= fun b73 => if b73 = true then (.ok x) >>= fun x_best_78 => .ok (.nx x_best_78) else .ok (.nx s)) (fun r => .ok (.rt r)) else .ok (.nx s)
def m_law_left (x_nodes x_named : U) : Res U :=
  ((mkT []) >>= fun a5 => ((.ok (.int 1)) >>= fun a6 => U.neg a6) >>= fun a7 => mkT [a5, a7]) >>= fun x_best_8 => ((.ok x_nodes) >>= fun a9 => U.items a9) >>= fun us80 => forR (m_law_left_loop1 x_named) us80 x_best_8 >>= fun c81 => Ctl.fin c81 (fun s79 => (.ok s79) >>= fun y86 => .ok y86) (fun r => .ok r)
/-! ### _law_card -/
def m_law_card_loop1 (p_nodes : U) : U → U → Res (Ctl (U) U) := fun s x =>
  (((.ok p_nodes) >>= fun a22 => (.ok s) >>= fun a23 => m_law_left a22 a23) >>= fun a24 => (.ok (.int 1)) >>= fun a25 => U.idx a24 a25) >>= fun a26 => U.scal a26 >>= fun x_gate_27 => (((.ok x_gate_27) >>= fun a28 => (.ok (.int 0)) >>= fun a29 => U.lt a28 a29) >>= fun a30 => U.bool? a30) >>= fun b32 => if b32 = true then .ok (.bk s) else U.isl s >>= fun _ => (.ok x_gate_27) >>= fun a39 => U.app s a39 >>= fun x_named_38 => .ok (.nx x_named_38)
def m_law_card (x_nodes x_place : U) : Res U :=
  ((.ok x_place) >>= fun a1 => mkL [a1]) >>= fun a6 => U.isl a6 >>= fun x_named_7 => (((.ok x_nodes) >>= fun a8 => U.len a8) >>= fun a9 => U.rng1 a9) >>= fun us41 => forR (m_law_card_loop1 x_nodes) us41 x_named_7 >>= fun c42 => Ctl.fin c42 (fun s40 => ((.ok s40) >>= fun a46 => ((.ok (.int 1)) >>= fun a45 => U_part a45) >>= fun l47 => (.ok none) >>= fun l48 => U.slice a46 l47 l48) >>= fun a53 => U.isl a53 >>= fun y54 => .ok y54) (fun r => .ok r)
/-! ### _law_cards -/
def m_law_cards (x_nodes x_size : U) : Res U :=
  (((.ok x_size) >>= fun a1 => U.rng1 a1) >>= fun us8 => compA (fun x2 => ((.ok x_nodes) >>= fun a11 => (.ok x2) >>= fun a12 => m_law_card a11 a12) >>= fun y10 => .ok (some y10)) us8 [] >>= fun ys9 => .ok (.lst ys9)) >>= fun a17 => U.isl a17 >>= fun y18 => .ok y18
/-! ### _law_bent -/
def m_law_bent_loop1 (p_book p_place p_card : U) : U → U → Res (Ctl (U) (U × U)) := fun s x =>
  (((.ok x) >>= fun a196 => (.ok p_place) >>= fun a197 => U.eq a196 a197) >>= fun a198 => U.bool? a198) >>= fun b200 => if b200 = true then U.isl s >>= fun _ => (.ok p_card) >>= fun a207 => U.app s a207 >>= fun x_found_206 => .ok (.nx x_found_206) else U.isl s >>= fun _ => (((.ok p_book) >>= fun a212 => (.ok x) >>= fun a213 => U.idx a212 a213) >>= fun a214 => U.list a214) >>= fun a217 => U.app s a217 >>= fun x_found_216 => .ok (.nx x_found_216)
def m_law_bent (x_state x_book : U) : Res (U × U) :=
  ((.ok x_book) >>= fun a5 => U.len a5) >>= fun x_size_6 => (.ok x_size_6) >>= fun a7 => m_law_draw x_state a7 >>= fun (x_place_15, s14) => (((.ok x_book) >>= fun a20 => (.ok x_place_15) >>= fun a21 => U.idx a20 a21) >>= fun a22 => U.list a22) >>= fun x_card_23 => (.ok (.int 3)) >>= fun a24 => m_law_draw s14 a24 >>= fun (x_kind_32, s31) => (((((.ok x_kind_32) >>= fun a41 => (.ok (.int 0)) >>= fun a42 => U.eq a41 a42) >>= fun a43 => U.bool? a43) >>= fun b44 => if b44 = true then ((((.ok x_card_23) >>= fun a37 => U.len a37) >>= fun a38 => (.ok (.int 1)) >>= fun a39 => U.gt a38 a39) >>= fun a40 => U.bool? a40) else .ok false) >>= fun b46 => if b46 = true then (((.ok x_card_23) >>= fun a47 => U.len a47) >>= fun a48 => (.ok (.int 1)) >>= fun a49 => U.sub a48 a49) >>= fun a50 => m_law_draw s31 a50 >>= fun (x_k_58, s57) => ((((.ok x_card_23) >>= fun a64 => (.ok none) >>= fun l65 => ((.ok x_k_58) >>= fun a63 => U_part a63) >>= fun l66 => U.slice a64 l65 l66) >>= fun a75 => (((.ok x_card_23) >>= fun a69 => ((.ok x_k_58) >>= fun a67 => (.ok (.int 1)) >>= fun a68 => U.add a67 a68) >>= fun a70 => U.idx a69 a70) >>= fun a71 => ((.ok x_card_23) >>= fun a72 => (.ok x_k_58) >>= fun a73 => U.idx a72 a73) >>= fun a74 => mkL [a71, a74]) >>= fun a76 => U.add a75 a76) >>= fun a83 => ((.ok x_card_23) >>= fun a80 => (((.ok x_k_58) >>= fun a77 => (.ok (.int 2)) >>= fun a78 => U.add a77 a78) >>= fun a79 => U_part a79) >>= fun l81 => (.ok none) >>= fun l82 => U.slice a80 l81 l82) >>= fun a84 => U.add a83 a84) >>= fun x_card_85 => .ok (s57, x_card_85) else (((.ok x_kind_32) >>= fun a86 => (.ok (.int 1)) >>= fun a87 => U.eq a86 a87) >>= fun a88 => U.bool? a88) >>= fun b90 => if b90 = true then (.ok x_card_23) >>= fun a111 => (((.ok x_card_23) >>= fun a95 => U.len a95) >>= fun a96 => (.ok (.int 1)) >>= fun a97 => U.add a96 a97) >>= fun a98 => m_law_draw s31 a98 >>= fun (a114, s105) => U_part a114 >>= fun l113 => U.slice a111 none l113 >>= fun x_card_112 => .ok (s105, x_card_112) else (((.ok x_size_6) >>= fun a119 => U.rng1 a119) >>= fun us126 => compA (fun x120 => ((((.ok x120) >>= fun a132 => (.ok x_place_15) >>= fun a133 => U.ne a132 a133) >>= fun a134 => U.bool? a134) >>= fun b135 => if b135 = true then (((.ok x120) >>= fun a129 => (.ok x_card_23) >>= fun a130 => U.notin a129 a130) >>= fun a131 => U.bool? a131) else .ok false) >>= fun b136 => if b136 = true then (.ok x120) >>= fun y128 => .ok (some y128) else .ok none) us126 [] >>= fun ys127 => .ok (.lst ys127)) >>= fun x_left_137 => ((((.ok x_left_137) >>= fun a138 => U.len a138) >>= fun a139 => (.ok (.int 0)) >>= fun a140 => U.gt a139 a140) >>= fun a141 => U.bool? a141) >>= fun b143 => if b143 = true then (.ok x_card_23) >>= fun a175 => (.ok x_left_137) >>= fun a165 => ((.ok x_left_137) >>= fun a152 => U.len a152) >>= fun a153 => m_law_draw s31 a153 >>= fun (a166, s160) => U.idx a165 a166 >>= fun a178 => mkL [a178] >>= fun a176 => U.add a175 a176 >>= fun x_card_177 => .ok (s160, x_card_177) else .ok (s31, x_card_23)) >>= fun j181 => (mkL []) >>= fun a186 => U.isl a186 >>= fun x_found_187 => ((.ok x_size_6) >>= fun a188 => U.rng1 a188) >>= fun us219 => forR (m_law_bent_loop1 x_book x_place_15 j181.2) us219 x_found_187 >>= fun c220 => Ctl.fin c220 (fun s218 => .ok (s218, j181.1)) (fun r => .ok r)
/-! ### _law_book -/
def m_law_book_loop2 : (U × U × U) → U → Res (Ctl (U × U × U) (U × U)) := fun s x =>
  (((.ok s.2.1) >>= fun a56 => U.len a56) >>= fun a57 => (.ok (.int 1)) >>= fun a58 => U.add a57 a58) >>= fun a59 => m_law_draw s.1 a59 >>= fun (x_pick_67, s66) => (((.ok x_pick_67) >>= fun a69 => ((.ok s.2.1) >>= fun a68 => U.len a68) >>= fun a70 => U.eq a69 a70) >>= fun a71 => U.bool? a71) >>= fun b73 => if b73 = true then .ok (.bk (s66, s.2.1, s.2.2)) else U.isl s.2.2 >>= fun _ => U.isl s.2.1 >>= fun _ => (.ok x_pick_67) >>= fun a83 => U.popAt s.2.1 a83 >>= fun (a87, s82) => U.app s.2.2 a87 >>= fun x_card_86 => .ok (.nx (s66, s82, x_card_86))
def m_law_book_loop1 (p_size : U) : (U × U) → U → Res (Ctl (U × U) (U × U)) := fun s x =>
  (((.ok p_size) >>= fun a19 => U.rng1 a19) >>= fun us26 => compA (fun x20 => (((.ok x20) >>= fun a29 => (.ok x) >>= fun a30 => U.ne a29 a30) >>= fun a31 => U.bool? a31) >>= fun b32 => if b32 = true then (.ok x20) >>= fun y28 => .ok (some y28) else .ok none) us26 [] >>= fun ys27 => .ok (.lst ys27)) >>= fun a37 => U.isl a37 >>= fun x_left_38 => (mkL []) >>= fun a43 => U.isl a43 >>= fun x_card_44 => (((.ok p_size) >>= fun a45 => (.ok (.int 1)) >>= fun a46 => U.sub a45 a46) >>= fun a47 => U.rng1 a47) >>= fun us89 => forR m_law_book_loop2 us89 (s.1, x_left_38, x_card_44) >>= fun c90 => Ctl.fin c90 (fun s88 => U.isl s.2 >>= fun _ => (.ok s88.2.2) >>= fun a99 => U.app s.2 a99 >>= fun x_book_98 => .ok (.nx (s88.1, x_book_98))) (fun r => .ok (.rt r))
def m_law_book (x_state x_size : U) : Res (U × U) :=
  (mkL []) >>= fun a5 => U.isl a5 >>= fun x_book_6 => ((.ok x_size) >>= fun a7 => U.rng1 a7) >>= fun us101 => forR (m_law_book_loop1 x_size) us101 (x_state, x_book_6) >>= fun c102 => Ctl.fin c102 (fun s100 => .ok (s100.2, s100.1)) (fun r => .ok r)
/-! ### _law_sorted -/
def m_law_sorted (x_nodes : U) : Res U :=
  ((((.ok x_nodes) >>= fun a5 => U.items a5) >>= fun us12 => compA (fun x6 => ((((.ok x6) >>= fun a15 => (.ok (.int 0)) >>= fun a16 => U.idx a15 a16) >>= fun a17 => U.len a17) >>= fun a18 => ((.ok x6) >>= fun a19 => (.ok (.int 0)) >>= fun a20 => U.idx a19 a20) >>= fun a21 => ((.ok x6) >>= fun a22 => (.ok (.int 1)) >>= fun a23 => U.idx a22 a23) >>= fun a24 => mkT [a18, a21, a24]) >>= fun y14 => .ok (some y14)) us12 [] >>= fun ys13 => .ok (.lst ys13)) >>= fun a25 => U.sortedD a25) >>= fun x_rows_26 => (((.ok x_rows_26) >>= fun a27 => U.items a27) >>= fun us34 => compA (fun x28 => (((.ok x28) >>= fun a37 => (.ok (.int 1)) >>= fun a38 => U.idx a37 a38) >>= fun a39 => ((.ok x28) >>= fun a40 => (.ok (.int 2)) >>= fun a41 => U.idx a40 a41) >>= fun a42 => mkT [a39, a42]) >>= fun y36 => .ok (some y36)) us34 [] >>= fun ys35 => .ok (.lst ys35)) >>= fun a47 => U.isl a47 >>= fun y48 => .ok y48
/-! ### _law_top_at -/
def m_law_top_at_loop1 (p_tops p_place : U) : Unit → U → Res (Ctl (Unit) U) := fun s x =>
  (((.ok p_place) >>= fun a14 => (((.ok p_tops) >>= fun a10 => (.ok x) >>= fun a11 => U.idx a10 a11) >>= fun a12 => (.ok (.int 0)) >>= fun a13 => U.idx a12 a13) >>= fun a15 => U.isin a14 a15) >>= fun a16 => U.bool? a16) >>= fun b18 => if b18 = true then (.ok x) >>= fun y23 => .ok (.rt y23) else .ok (.nx ())
def m_law_top_at (x_tops x_place : U) : Res U :=
  (((.ok x_tops) >>= fun a1 => U.len a1) >>= fun a2 => U.rng1 a2) >>= fun us25 => forR (m_law_top_at_loop1 x_tops x_place) us25 () >>= fun c26 => Ctl.fin c26 (fun s24 => ((.ok (.int 1)) >>= fun a31 => U.neg a31) >>= fun y32 => .ok y32) (fun r => .ok r)
/-! ### _law_circle -/
def m_law_circle_loop2 (p_tops p_first : U) : U → U → Res (Ctl (U) U) := fun s x =>
  (((.ok p_tops) >>= fun a39 => ((.ok s) >>= fun a37 => ((.ok (.int 1)) >>= fun a36 => U.neg a36) >>= fun a38 => U.idx a37 a38) >>= fun a40 => U.idx a39 a40) >>= fun a41 => (.ok (.int 1)) >>= fun a42 => U.idx a41 a42) >>= fun x_gate_43 => (((.ok x_gate_43) >>= fun a44 => (.ok (.int 0)) >>= fun a45 => U.lt a44 a45) >>= fun a46 => U.bool? a46) >>= fun b48 => if b48 = true then .ok (.bk s) else ((.ok p_tops) >>= fun a53 => (.ok x_gate_43) >>= fun a54 => m_law_top_at a53 a54) >>= fun x_after_55 => (((.ok x_after_55) >>= fun a56 => (.ok p_first) >>= fun a57 => U.eq a56 a57) >>= fun a58 => U.bool? a58) >>= fun b60 => if b60 = true then .ok (.rt s) else (((.ok x_after_55) >>= fun a61 => (.ok s) >>= fun a62 => U.isin a61 a62) >>= fun a63 => U.bool? a63) >>= fun b65 => if b65 = true then .ok (.bk s) else U.isl s >>= fun _ => (.ok x_after_55) >>= fun a72 => U.app s a72 >>= fun x_row_71 => .ok (.nx x_row_71)
def m_law_circle_loop1 (p_tops : U) : Unit → U → Res (Ctl (Unit) U) := fun s x =>
  ((.ok x) >>= fun a14 => mkL [a14]) >>= fun a19 => U.isl a19 >>= fun x_row_20 => (((.ok p_tops) >>= fun a21 => U.len a21) >>= fun a22 => U.rng1 a22) >>= fun us74 => forR (m_law_circle_loop2 p_tops x) us74 x_row_20 >>= fun c75 => Ctl.fin c75 (fun s73 => .ok (.nx ())) (fun r => .ok (.rt r))
def m_law_circle (x_tops : U) : Res U :=
  (((.ok x_tops) >>= fun a1 => U.len a1) >>= fun a2 => U.rng1 a2) >>= fun us77 => forR (m_law_circle_loop1 x_tops) us77 () >>= fun c78 => Ctl.fin c78 (fun s76 => (mkL []) >>= fun a83 => U.isl a83 >>= fun y84 => .ok y84) (fun r => .ok r)
/-! ### _law_gate -/
def m_law_gate (x_state x_places x_size x_closed : U) : Res (U × U) :=
  (((.ok x_size) >>= fun a5 => U.rng1 a5) >>= fun us12 => compA (fun x6 => (((.ok x6) >>= fun a15 => (.ok x_places) >>= fun a16 => U.notin a15 a16) >>= fun a17 => U.bool? a17) >>= fun b18 => if b18 = true then (.ok x6) >>= fun y14 => .ok (some y14) else .ok none) us12 [] >>= fun ys13 => .ok (.lst ys13)) >>= fun x_outside_19 => (((.ok x_closed) >>= fun a24 => U.bool? a24) >>= fun b25 => if b25 = true then ((((.ok x_outside_19) >>= fun a20 => U.len a20) >>= fun a21 => (.ok (.int 0)) >>= fun a22 => U.gt a21 a22) >>= fun a23 => U.bool? a23) else .ok false) >>= fun b27 => if b27 = true then (.ok x_outside_19) >>= fun a45 => ((.ok x_outside_19) >>= fun a32 => U.len a32) >>= fun a33 => m_law_draw x_state a33 >>= fun (a46, s40) => U.idx a45 a46 >>= fun y47 => .ok (y47, s40) else (((.ok x_outside_19) >>= fun a48 => U.len a48) >>= fun a49 => (.ok (.int 1)) >>= fun a50 => U.add a49 a50) >>= fun a51 => m_law_draw x_state a51 >>= fun (x_pick_59, s58) => (((.ok x_pick_59) >>= fun a61 => ((.ok x_outside_19) >>= fun a60 => U.len a60) >>= fun a62 => U.eq a61 a62) >>= fun a63 => U.bool? a63) >>= fun b65 => if b65 = true then ((.ok (.int 1)) >>= fun a70 => U.neg a70) >>= fun y71 => .ok (y71, s58) else ((.ok x_outside_19) >>= fun a76 => (.ok x_pick_59) >>= fun a77 => U.idx a76 a77) >>= fun y78 => .ok (y78, s58)
/-! ### _law_nest -/
def m_law_nest_loop2 (p_tops : U) : U → U → Res (Ctl (U) (U × U)) := fun s x =>
  ((.ok s) >>= fun a1092 => ((((.ok p_tops) >>= fun a1087 => (.ok x) >>= fun a1088 => U.idx a1087 a1088) >>= fun a1089 => (.ok (.int 0)) >>= fun a1090 => U.idx a1089 a1090) >>= fun a1091 => U.list a1091) >>= fun a1093 => U.add a1092 a1093) >>= fun x_places_1094 => .ok (.nx x_places_1094)
def m_law_nest_loop1 (p_size p_closed : U) : (U × U × U) → U → Res (Ctl (U × U × U) (U × U)) := fun s x =>
  ((.ok s.2.2) >>= fun a1060 => m_law_circle a1060) >>= fun x_row_1061 => ((((.ok x_row_1061) >>= fun a1062 => U.len a1062) >>= fun a1063 => (.ok (.int 0)) >>= fun a1064 => U.eq a1063 a1064) >>= fun a1065 => U.bool? a1065) >>= fun b1067 => if b1067 = true then .ok (.bk (s.1, s.2.1, s.2.2)) else (mkL []) >>= fun x_places_1072 => ((.ok x_row_1061) >>= fun a1073 => U.items a1073) >>= fun us1096 => forR (m_law_nest_loop2 s.2.2) us1096 x_places_1072 >>= fun c1097 => Ctl.fin c1097 (fun s1095 => (((.ok s1095) >>= fun a1102 => U.sortedD a1102) >>= fun a1103 => U.tuple a1103) >>= fun x_places_1104 => (.ok x_places_1104) >>= fun a1156 => (.ok x_places_1104) >>= fun a1109 => (.ok p_size) >>= fun a1110 => (.ok p_closed) >>= fun a1111 => m_law_gate s.1 a1109 a1110 a1111 >>= fun (a1157, s1118) => mkT [a1156, a1157] >>= fun x_ring_1123 => (((((.ok s.2.2) >>= fun a1128 => U.len a1128) >>= fun a1129 => U.rng1 a1129) >>= fun us1136 => compA (fun x1130 => (((.ok x1130) >>= fun a1141 => (.ok x_row_1061) >>= fun a1142 => U.notin a1141 a1142) >>= fun a1143 => U.bool? a1143) >>= fun b1144 => if b1144 = true then ((.ok s.2.2) >>= fun a1139 => (.ok x1130) >>= fun a1140 => U.idx a1139 a1140) >>= fun y1138 => .ok (some y1138) else .ok none) us1136 [] >>= fun ys1137 => .ok (.lst ys1137)) >>= fun a1146 => ((.ok x_ring_1123) >>= fun a1145 => mkL [a1145]) >>= fun a1147 => U.add a1146 a1147) >>= fun x_tops_1148 => U.isl s.2.1 >>= fun _ => (.ok x_ring_1123) >>= fun a1155 => U.app s.2.1 a1155 >>= fun x_nodes_1154 => .ok (.nx (s1118, x_nodes_1154, x_tops_1148))) (fun r => .ok (.rt r))
def m_law_nest (x_state x_size x_closed : U) : Res (U × U) :=
  ((.ok x_size) >>= fun a1 => U.rng1 a1) >>= fun us1027 => compS (fun s9 x3 => ((.ok x3) >>= fun a1008 => mkT [a1008]) >>= fun a1024 => ((.ok x3) >>= fun a1009 => mkT [a1009]) >>= fun a1010 => (.ok x_size) >>= fun a1011 => (.ok x_closed) >>= fun a1012 => m_law_gate s9 a1010 a1011 a1012 >>= fun (a1025, s1019) => mkT [a1024, a1025] >>= fun y11 => .ok (some y11, s1019)) us1027 x_state [] >>= fun (ys1032, s1028) => (fun x_nodes_1035 => ((.ok x_nodes_1035) >>= fun a1040 => U.list a1040) >>= fun x_tops_1041 => ((.ok x_size) >>= fun a1042 => U.rng1 a1042) >>= fun us1159 => forR (m_law_nest_loop1 x_size x_closed) us1159 (s1028, x_nodes_1035, x_tops_1041) >>= fun c1160 => Ctl.fin c1160 (fun s1158 => (.ok s1158.2.1) >>= fun a1163 => m_law_sorted a1163 >>= fun y1169 => .ok (y1169, s1158.1)) (fun r => .ok r)) (U.lst ys1032)
/-! ### _law_some_book -/
def m_law_some_book (x_state x_size : U) : Res (U × U) :=
  (.ok (.int 3)) >>= fun a1 => m_law_draw x_state a1 >>= fun (x_kind_9, s8) => (((.ok x_kind_9) >>= fun a10 => (.ok (.int 0)) >>= fun a11 => U.eq a10 a11) >>= fun a12 => U.bool? a12) >>= fun b14 => if b14 = true then (.ok x_size) >>= fun a15 => m_law_book s8 a15 >>= fun (y26, s23) => .ok (y26, s23) else (.ok x_size) >>= fun a27 => (.ok (.bl false)) >>= fun a28 => m_law_nest s8 a27 a28 >>= fun (a73, s36) => (.ok x_size) >>= fun a74 => m_law_cards a73 a74 >>= fun x_book_50 => (((.ok x_kind_9) >>= fun a51 => (.ok (.int 1)) >>= fun a52 => U.eq a51 a52) >>= fun a53 => U.bool? a53) >>= fun b55 => if b55 = true then (.ok x_book_50) >>= fun y60 => .ok (y60, s36) else (.ok x_book_50) >>= fun a61 => m_law_bent s36 a61 >>= fun (y72, s69) => .ok (y72, s69)
/-! ### _law_start -/
def m_law_start (x_script x_at : U) : Res U :=
  (.ok (.int 0)) >>= fun x_first_5 => (((((.ok x_script) >>= fun a7 => U.len a7) >>= fun a8 => (.ok (.int 0)) >>= fun a9 => U.gt a8 a9) >>= fun a10 => U.bool? a10) >>= fun b12 => if b12 = true then (((((.ok x_script) >>= fun a17 => (.ok (.int 0)) >>= fun a18 => U.idx a17 a18) >>= fun a19 => U.abs a19) >>= fun a20 => U.toInt a20) >>= fun a21 => (.ok (.int 1000000007)) >>= fun a22 => U.mod a21 a22) >>= fun x_first_23 => .ok x_first_23 else .ok x_first_5) >>= fun j26 => (((.ok x_at) >>= fun a28 => ((.ok x_script) >>= fun a27 => U.len a27) >>= fun a29 => U.ge a28 a29) >>= fun a30 => U.bool? a30) >>= fun b32 => if b32 = true then ((.ok (.int 0)) >>= fun a33 => ((((.ok j26) >>= fun a34 => (.ok (.int 31)) >>= fun a35 => U.mul a34 a35) >>= fun a38 => ((.ok x_at) >>= fun a36 => (.ok (.int 1009)) >>= fun a37 => U.mul a36 a37) >>= fun a39 => U.add a38 a39) >>= fun a40 => (.ok (.int 17)) >>= fun a41 => U.add a40 a41) >>= fun a42 => (.ok (.int 0)) >>= fun a43 => mkL [a33, a42, a43]) >>= fun a48 => U.isl a48 >>= fun y49 => .ok y49 else (((.ok x_script) >>= fun a54 => (.ok x_at) >>= fun a55 => U.idx a54 a55) >>= fun a56 => U.abs a56) >>= fun x_cell_57 => (((.ok x_cell_57) >>= fun a60 => ((.ok (.int 10)) >>= fun a58 => (.ok (.int 18)) >>= fun a59 => U.pow a58 a59) >>= fun a61 => U.lt a60 a61) >>= fun a62 => U.bool? a62) >>= fun b64 => if b64 = true then ((.ok (.int 0)) >>= fun a65 => ((((.ok x_cell_57) >>= fun a66 => U.toInt a66) >>= fun a67 => (.ok (.int 1000000007)) >>= fun a68 => U.mod a67 a68) >>= fun a71 => ((.ok x_at) >>= fun a69 => (.ok (.int 101)) >>= fun a70 => U.mul a69 a70) >>= fun a72 => U.add a71 a72) >>= fun a73 => (.ok (.int 0)) >>= fun a74 => mkL [a65, a73, a74]) >>= fun a79 => U.isl a79 >>= fun y80 => .ok y80 else ((.ok x_cell_57) >>= fun a81 => (((.ok x_cell_57) >>= fun a82 => U.toInt a82) >>= fun a83 => (.ok (.int 1000000007)) >>= fun a84 => U.mod a83 a84) >>= fun a85 => (.ok (.int 0)) >>= fun a86 => mkL [a81, a85, a86]) >>= fun a91 => U.isl a91 >>= fun y92 => .ok y92
/-! ### _law_order -/
def m_law_order_loop1 : (U × U × U) → U → Res (Ctl (U × U × U) (U × U)) := fun s x =>
  U.isl s.2.2 >>= fun _ => U.isl s.2.1 >>= fun _ => ((.ok s.2.1) >>= fun a23 => U.len a23) >>= fun a24 => m_law_draw s.1 a24 >>= fun (a37, s31) => U.popAt s.2.1 a37 >>= fun (a41, s36) => U.app s.2.2 a41 >>= fun x_order_40 => .ok (.nx (s31, s36, x_order_40))
def m_law_order (x_state x_places : U) : Res (U × U) :=
  ((.ok x_places) >>= fun a1 => U.list a1) >>= fun a6 => U.isl a6 >>= fun x_left_7 => (mkL []) >>= fun a12 => U.isl a12 >>= fun x_order_13 => (((.ok x_places) >>= fun a14 => U.len a14) >>= fun a15 => U.rng1 a15) >>= fun us43 => forR m_law_order_loop1 us43 (x_state, x_left_7, x_order_13) >>= fun c44 => Ctl.fin c44 (fun s42 => .ok (s42.2.2, s42.1)) (fun r => .ok r)
/-! ### _law_set -/
def m_law_set (x_state x_size : U) : Res (U × U) :=
  ((.ok x_size) >>= fun a1 => U.rng1 a1) >>= fun us1029 => compS (fun s9 x3 => (.ok (.int 2)) >>= fun a1004 => m_law_draw s9 a1004 >>= fun (a1020, s1011) => (.ok (.int 1)) >>= fun a1021 => U.eq a1020 a1021 >>= fun a1022 => U.bool? a1022 >>= fun b1023 => if b1023 = true then (.ok x3) >>= fun y11 => .ok (some y11, s1011) else .ok (none, s1011)) us1029 x_state [] >>= fun (ys1034, s1030) => (fun y1037 => .ok (y1037, s1030)) (U.lst ys1034)
/-! ### _law_open_entries -/
def m_law_open_entries_loop1 (p_card p_shut : U) : U → U → Res (Ctl (U) U) := fun s x =>
  ((.ok p_card) >>= fun a27 => ((((.ok p_card) >>= fun a22 => U.len a22) >>= fun a23 => (.ok (.int 1)) >>= fun a24 => U.sub a23 a24) >>= fun a25 => (.ok x) >>= fun a26 => U.sub a25 a26) >>= fun a28 => U.idx a27 a28) >>= fun x_entry_29 => (((.ok x_entry_29) >>= fun a30 => (.ok p_shut) >>= fun a31 => U.notin a30 a31) >>= fun a32 => U.bool? a32) >>= fun b34 => if b34 = true then (((.ok x_entry_29) >>= fun a39 => mkL [a39]) >>= fun a40 => (.ok s) >>= fun a41 => U.add a40 a41) >>= fun x_found_42 => .ok (.nx x_found_42) else .ok (.nx s)
def m_law_open_entries (x_card x_shut : U) : Res U :=
  (mkL []) >>= fun x_found_5 => (((.ok x_card) >>= fun a6 => U.len a6) >>= fun a7 => U.rng1 a7) >>= fun us44 => forR (m_law_open_entries_loop1 x_card x_shut) us44 x_found_5 >>= fun c45 => Ctl.fin c45 (fun s43 => (.ok s43) >>= fun y50 => .ok y50) (fun r => .ok r)
/-! ### is_card -/
def m_is_card_loop1 (p_size p_place p_card : U) : Unit → U → Res (Ctl (Unit) U) := fun s x =>
  ((.ok p_card) >>= fun a15 => (.ok x) >>= fun a16 => U.idx a15 a16) >>= fun x_entry_17 => (((((.ok (.int 0)) >>= fun a29 => (.ok x_entry_17) >>= fun a30 => U.le a29 a30 >>= fun a31 => U.bool? a31 >>= fun b32 => if b32 = true then (.ok p_size) >>= fun a33 => U.lt a30 a33 else .ok (.bl false)) >>= fun a34 => U.bool? a34) >>= fun b35 => .ok (!b35)) >>= fun b36 => if b36 = true then .ok true else ((((.ok x_entry_17) >>= fun a25 => (.ok p_place) >>= fun a26 => U.eq a25 a26) >>= fun a27 => U.bool? a27) >>= fun b28 => if b28 = true then .ok true else (((.ok x_entry_17) >>= fun a22 => ((.ok p_card) >>= fun a19 => (.ok none) >>= fun l20 => ((.ok x) >>= fun a18 => U_part a18) >>= fun l21 => U.slice a19 l20 l21) >>= fun a23 => U.isin a22 a23) >>= fun a24 => U.bool? a24))) >>= fun b38 => if b38 = true then (.ok (.bl false)) >>= fun y43 => .ok (.rt y43) else .ok (.nx ())
def m_is_card (x_size x_place x_card : U) : Res U :=
  (((.ok x_card) >>= fun a1 => U.len a1) >>= fun a2 => U.rng1 a2) >>= fun us45 => forR (m_is_card_loop1 x_size x_place x_card) us45 () >>= fun c46 => Ctl.fin c46 (fun s44 => (.ok (.bl true)) >>= fun y51 => .ok y51) (fun r => .ok r)
/-! ### check_book -/
def m_check_book_loop1 (p_book : U) : Unit → U → Res (Ctl (Unit) U) := fun s x =>
  (((((.ok p_book) >>= fun a20 => U.len a20) >>= fun a21 => (.ok x) >>= fun a22 => ((.ok p_book) >>= fun a23 => (.ok x) >>= fun a24 => U.idx a23 a24) >>= fun a25 => m_is_card a21 a22 a25) >>= fun a26 => U.bool? a26) >>= fun b27 => .ok (!b27)) >>= fun b29 => if b29 = true then .bad else .ok (.nx ())
def m_check_book (x_book : U) : Res U :=
  ((((.ok (.int 1)) >>= fun a2 => ((.ok x_book) >>= fun a1 => U.len a1) >>= fun a3 => U.le a2 a3 >>= fun a4 => U.bool? a4 >>= fun b5 => if b5 = true then (.ok (.int 16)) >>= fun a6 => U.le a3 a6 else .ok (.bl false)) >>= fun a7 => U.bool? a7) >>= fun b8 => .ok (!b8)) >>= fun b10 => if b10 = true then .bad else (((.ok x_book) >>= fun a11 => U.len a11) >>= fun a12 => U.rng1 a12) >>= fun us31 => forR (m_check_book_loop1 x_book) us31 () >>= fun c32 => Ctl.fin c32 (fun s30 => .ok .non) (fun r => .ok r)
/-! ### check_places -/
def m_check_places_loop1 (p_size p_places : U) : Unit → U → Res (Ctl (Unit) U) := fun s x =>
  (((((.ok (.int 0)) >>= fun a30 => ((.ok p_places) >>= fun a28 => (.ok x) >>= fun a29 => U.idx a28 a29) >>= fun a31 => U.le a30 a31 >>= fun a32 => U.bool? a32 >>= fun b33 => if b33 = true then (.ok p_size) >>= fun a34 => U.lt a31 a34 else .ok (.bl false)) >>= fun a35 => U.bool? a35) >>= fun b36 => .ok (!b36)) >>= fun b37 => if b37 = true then .ok true else ((((.ok p_places) >>= fun a19 => (.ok x) >>= fun a20 => U.idx a19 a20) >>= fun a25 => ((.ok p_places) >>= fun a22 => (.ok none) >>= fun l23 => ((.ok x) >>= fun a21 => U_part a21) >>= fun l24 => U.slice a22 l23 l24) >>= fun a26 => U.isin a25 a26) >>= fun a27 => U.bool? a27)) >>= fun b39 => if b39 = true then .bad else .ok (.nx ())
def m_check_places (x_size x_places : U) : Res U :=
  ((((.ok (.int 1)) >>= fun a1 => (.ok x_size) >>= fun a2 => U.le a1 a2 >>= fun a3 => U.bool? a3 >>= fun b4 => if b4 = true then (.ok (.int 16)) >>= fun a5 => U.le a2 a5 else .ok (.bl false)) >>= fun a6 => U.bool? a6) >>= fun b7 => .ok (!b7)) >>= fun b9 => if b9 = true then .bad else (((.ok x_places) >>= fun a10 => U.len a10) >>= fun a11 => U.rng1 a11) >>= fun us41 => forR (m_check_places_loop1 x_size x_places) us41 () >>= fun c42 => Ctl.fin c42 (fun s40 => ((.ok x_places) >>= fun a43 => U.sortedD a43) >>= fun a48 => U.isl a48 >>= fun y49 => .ok y49) (fun r => .ok r)
/-! ### first_outside -/
def m_first_outside_loop1 (p_listed : U) : Unit → U → Res (Ctl (Unit) U) := fun s x =>
  (((.ok x) >>= fun a9 => (.ok p_listed) >>= fun a10 => U.notin a9 a10) >>= fun a11 => U.bool? a11) >>= fun b13 => if b13 = true then (.ok x) >>= fun y18 => .ok (.rt y18) else .ok (.nx ())
def m_first_outside (x_card x_listed : U) : Res U :=
  ((.ok x_card) >>= fun a1 => U.items a1) >>= fun us20 => forR (m_first_outside_loop1 x_listed) us20 () >>= fun c21 => Ctl.fin c21 (fun s19 => (.ok (.int (-1))) >>= fun y26 => .ok y26) (fun r => .ok r)
/-! ### first_open -/
def m_first_open (x_book x_place x_shut : U) : Res U :=
  ((.ok x_book) >>= fun a5 => m_check_book a5) >>= fun _ => (((.ok x_book) >>= fun a10 => U.len a10) >>= fun a11 => ((.ok x_place) >>= fun a12 => mkL [a12]) >>= fun a13 => m_check_places a11 a13) >>= fun _ => (((.ok x_book) >>= fun a18 => U.len a18) >>= fun a19 => (.ok x_shut) >>= fun a20 => m_check_places a19 a20) >>= fun _ => (((.ok x_book) >>= fun a25 => (.ok x_place) >>= fun a26 => U.idx a25 a26) >>= fun a27 => (.ok x_shut) >>= fun a28 => m_first_outside a27 a28) >>= fun y29 => .ok y29
/-! ### _law_whole -/
def m_law_whole (x_thing : U) : Res U :=
  (((.ok x_thing) >>= fun a8 => U.isi "int" a8) >>= fun a9 => U.bool? a9 >>= fun b10 => if b10 = true then (((.ok x_thing) >>= fun a5 => U.isi "bool" a5) >>= fun a6 => U.bool? a6 >>= fun b7 => .ok (.bl (!b7))) else .ok (.bl false)) >>= fun y11 => .ok y11
/-! ### _law_same_row -/
def m_law_same_row_loop1 (p_told p_due : U) : Unit → U → Res (Ctl (Unit) U) := fun s x =>
  ((((((.ok p_told) >>= fun a33 => (.ok x) >>= fun a34 => U.idx a33 a34) >>= fun a35 => m_law_whole a35) >>= fun a36 => U.bool? a36) >>= fun b37 => .ok (!b37)) >>= fun b38 => if b38 = true then .ok true else ((((.ok p_told) >>= fun a26 => (.ok x) >>= fun a27 => U.idx a26 a27) >>= fun a30 => ((.ok p_due) >>= fun a28 => (.ok x) >>= fun a29 => U.idx a28 a29) >>= fun a31 => U.ne a30 a31) >>= fun a32 => U.bool? a32)) >>= fun b40 => if b40 = true then (.ok (.bl false)) >>= fun y45 => .ok (.rt y45) else .ok (.nx ())
def m_law_same_row (x_told x_due : U) : Res U :=
  (((((.ok x_told) >>= fun a6 => U.isi "list" a6) >>= fun a7 => U.bool? a7) >>= fun b8 => .ok (!b8)) >>= fun b9 => if b9 = true then .ok true else ((((.ok x_told) >>= fun a1 => U.len a1) >>= fun a3 => ((.ok x_due) >>= fun a2 => U.len a2) >>= fun a4 => U.ne a3 a4) >>= fun a5 => U.bool? a5)) >>= fun b11 => if b11 = true then (.ok (.bl false)) >>= fun y16 => .ok y16 else (((.ok x_due) >>= fun a17 => U.len a17) >>= fun a18 => U.rng1 a18) >>= fun us47 => forR (m_law_same_row_loop1 x_told x_due) us47 () >>= fun c48 => Ctl.fin c48 (fun s46 => (.ok (.bl true)) >>= fun y53 => .ok y53) (fun r => .ok r)
/-! ### _law_same_book -/
def m_law_same_book_loop1 (p_told p_due : U) : Unit → U → Res (Ctl (Unit) U) := fun s x =>
  (((((.ok p_told) >>= fun a26 => (.ok x) >>= fun a27 => U.idx a26 a27) >>= fun a28 => ((.ok p_due) >>= fun a29 => (.ok x) >>= fun a30 => U.idx a29 a30) >>= fun a31 => m_law_same_row a28 a31) >>= fun a32 => U.bool? a32) >>= fun b33 => .ok (!b33)) >>= fun b35 => if b35 = true then (.ok (.bl false)) >>= fun y40 => .ok (.rt y40) else .ok (.nx ())
def m_law_same_book (x_told x_due : U) : Res U :=
  (((((.ok x_told) >>= fun a6 => U.isi "list" a6) >>= fun a7 => U.bool? a7) >>= fun b8 => .ok (!b8)) >>= fun b9 => if b9 = true then .ok true else ((((.ok x_told) >>= fun a1 => U.len a1) >>= fun a3 => ((.ok x_due) >>= fun a2 => U.len a2) >>= fun a4 => U.ne a3 a4) >>= fun a5 => U.bool? a5)) >>= fun b11 => if b11 = true then (.ok (.bl false)) >>= fun y16 => .ok y16 else (((.ok x_due) >>= fun a17 => U.len a17) >>= fun a18 => U.rng1 a18) >>= fun us42 => forR (m_law_same_book_loop1 x_told x_due) us42 () >>= fun c43 => Ctl.fin c43 (fun s41 => (.ok (.bl true)) >>= fun y48 => .ok y48) (fun r => .ok r)
/-! ### _law_shuts_along -/
def m_law_shuts_along_loop1 (p_book p_place p_shut p_handed p_due : U) : U → U → Res (Ctl (U) U) := fun s x =>
  ((.ok p_handed) >>= fun a51 => (.ok p_place) >>= fun a52 => (.ok s) >>= fun a53 => m_first_open a51 a52 a53) >>= fun a54 => U.scal a54 >>= fun x_told_55 => (((((.ok x_told_55) >>= fun a61 => m_law_whole a61) >>= fun a62 => U.bool? a62) >>= fun b63 => .ok (!b63)) >>= fun b64 => if b64 = true then .ok true else (((.ok x_told_55) >>= fun a58 => ((.ok p_due) >>= fun a56 => (.ok x) >>= fun a57 => U.idx a56 a57) >>= fun a59 => U.ne a58 a59) >>= fun a60 => U.bool? a60)) >>= fun b66 => if b66 = true then (.ok (.bl false)) >>= fun y71 => .ok (.rt y71) else ((((.ok s) >>= fun a82 => ((.ok p_shut) >>= fun a80 => ((.ok p_due) >>= fun a77 => (.ok none) >>= fun l78 => ((.ok x) >>= fun a76 => U_part a76) >>= fun l79 => U.slice a77 l78 l79) >>= fun a81 => U.add a80 a81) >>= fun a83 => U.ne a82 a83) >>= fun a84 => U.bool? a84) >>= fun b85 => if b85 = true then .ok true else ((((.ok p_handed) >>= fun a72 => (.ok p_book) >>= fun a73 => m_law_same_book a72 a73) >>= fun a74 => U.bool? a74) >>= fun b75 => .ok (!b75))) >>= fun b87 => if b87 = true then (.ok (.bl false)) >>= fun y92 => .ok (.rt y92) else U.isl s >>= fun _ => ((.ok p_due) >>= fun a97 => (.ok x) >>= fun a98 => U.idx a97 a98) >>= fun a101 => U.app s a101 >>= fun x_closed_100 => .ok (.nx x_closed_100)
def m_law_shuts_along (x_book x_place x_shut : U) : Res U :=
  (((.ok x_book) >>= fun a5 => U.items a5) >>= fun us12 => compA (fun x6 => ((.ok x6) >>= fun a15 => U.list a15) >>= fun y14 => .ok (some y14)) us12 [] >>= fun ys13 => .ok (.lst ys13)) >>= fun x_handed_16 => ((.ok x_shut) >>= fun a17 => U.list a17) >>= fun a22 => U.isl a22 >>= fun x_closed_23 => ((((.ok x_book) >>= fun a28 => (.ok x_place) >>= fun a29 => U.idx a28 a29) >>= fun a30 => (.ok x_shut) >>= fun a31 => m_law_open_entries a30 a31) >>= fun a34 => (((.ok (.int 1)) >>= fun a32 => U.neg a32) >>= fun a33 => mkL [a33]) >>= fun a35 => U.add a34 a35) >>= fun x_due_36 => (((.ok x_due_36) >>= fun a37 => U.len a37) >>= fun a38 => U.rng1 a38) >>= fun us103 => forR (m_law_shuts_along_loop1 x_book x_place x_shut x_handed_16 x_due_36) us103 x_closed_23 >>= fun c104 => Ctl.fin c104 (fun s102 => (.ok (.bl true)) >>= fun y109 => .ok y109) (fun r => .ok r)
/-! ### _law_ahead -/
def m_law_ahead_loop1 (p_goal : U) : U → U → Res (Ctl (U) U) := fun s x =>
  (((.ok x) >>= fun a16 => (.ok p_goal) >>= fun a17 => U.eq a16 a17) >>= fun a18 => U.bool? a18) >>= fun b20 => if b20 = true then .ok (.rt s) else U.isl s >>= fun _ => (.ok x) >>= fun a27 => U.app s a27 >>= fun x_ahead_26 => .ok (.nx x_ahead_26)
def m_law_ahead (x_card x_place x_goal : U) : Res U :=
  ((.ok x_place) >>= fun a1 => mkL [a1]) >>= fun a6 => U.isl a6 >>= fun x_ahead_7 => ((.ok x_card) >>= fun a8 => U.items a8) >>= fun us29 => forR (m_law_ahead_loop1 x_goal) us29 x_ahead_7 >>= fun c30 => Ctl.fin c30 (fun s28 => (.ok .non) >>= fun y35 => U.scal y35 >>= fun y35 => .ok y35) (fun r => .ok r)
/-! ### places_ahead -/
def m_places_ahead (x_book x_place x_goal : U) : Res U :=
  ((.ok x_book) >>= fun a5 => m_check_book a5) >>= fun _ => (((.ok x_book) >>= fun a10 => U.len a10) >>= fun a11 => ((.ok x_place) >>= fun a12 => mkL [a12]) >>= fun a13 => m_check_places a11 a13) >>= fun _ => (((.ok x_book) >>= fun a18 => U.len a18) >>= fun a19 => ((.ok x_goal) >>= fun a20 => mkL [a20]) >>= fun a21 => m_check_places a19 a21) >>= fun _ => ((.ok x_book) >>= fun a26 => (.ok x_place) >>= fun a27 => U.idx a26 a27) >>= fun x_card_28 => (((.ok x_goal) >>= fun a29 => (.ok x_place) >>= fun a30 => U.eq a29 a30) >>= fun a31 => U.bool? a31) >>= fun b33 => if b33 = true then (mkL []) >>= fun a38 => U.isl a38 >>= fun y39 => .ok y39 else (((.ok x_goal) >>= fun a40 => (.ok x_card_28) >>= fun a41 => U.notin a40 a41) >>= fun a42 => U.bool? a42) >>= fun b44 => if b44 = true then (.ok .non) >>= fun y49 => U.scal y49 >>= fun y49 => .ok y49 else (((.ok x_place) >>= fun a50 => mkL [a50]) >>= fun a58 => ((.ok x_card_28) >>= fun a55 => (.ok none) >>= fun l56 => (((.ok x_card_28) >>= fun a51 => U.isl a51 >>= fun a53 => (.ok x_goal) >>= fun a52 => U.index a53 a52) >>= fun a54 => U_part a54) >>= fun l57 => U.slice a55 l56 l57) >>= fun a59 => U.add a58 a59) >>= fun a64 => U.isl a64 >>= fun y65 => .ok y65
/-! ### _law_tells_ahead -/
def m_law_tells_ahead_loop1 (p_book p_place p_goal p_handed p_due : U) : Unit → U → Res (Ctl (Unit) U) := fun s x =>
  (.ok p_handed) >>= fun a50 => (.ok p_place) >>= fun a51 => (.ok p_goal) >>= fun a52 => m_places_ahead a50 a51 a52 >>= fun x_told_58 => ((((.ok p_handed) >>= fun a59 => (.ok p_book) >>= fun a60 => m_law_same_book a59 a60) >>= fun a61 => U.bool? a61) >>= fun b62 => .ok (!b62)) >>= fun b64 => if b64 = true then (.ok (.bl false)) >>= fun y69 => .ok (.rt y69) else (((.ok p_due) >>= fun a70 => (.ok .non) >>= fun a71 => U.isN a70 a71) >>= fun a72 => U.bool? a72) >>= fun b74 => if b74 = true then (((.ok x_told_58) >>= fun a75 => (.ok .non) >>= fun a76 => U.notN a75 a76) >>= fun a77 => U.bool? a77) >>= fun b79 => if b79 = true then (.ok (.bl false)) >>= fun y84 => .ok (.rt y84) else .ok (.nx ()) else (((.ok x_told_58) >>= fun a85 => (.ok p_due) >>= fun a86 => m_law_same_row a85 a86) >>= fun a87 => U.bool? a87) >>= fun b89 => if b89 = true then U.isl x_told_58 >>= fun _ => (.ok p_goal) >>= fun a96 => U.app x_told_58 a96 >>= fun x_told_95 => .ok (.nx ()) else (.ok (.bl false)) >>= fun y101 => .ok (.rt y101)
def m_law_tells_ahead (x_book x_place x_goal : U) : Res U :=
  (((.ok x_book) >>= fun a5 => U.items a5) >>= fun us12 => compA (fun x6 => ((.ok x6) >>= fun a15 => U.list a15) >>= fun y14 => .ok (some y14)) us12 [] >>= fun ys13 => .ok (.lst ys13)) >>= fun x_handed_16 => (((.ok x_book) >>= fun a21 => (.ok x_place) >>= fun a22 => U.idx a21 a22) >>= fun a23 => (.ok x_place) >>= fun a24 => (.ok x_goal) >>= fun a25 => m_law_ahead a23 a24 a25) >>= fun x_due_26 => ((((.ok x_place) >>= fun a28 => (.ok x_goal) >>= fun a29 => U.eq a28 a29) >>= fun a30 => U.bool? a30) >>= fun b32 => if b32 = true then (mkL []) >>= fun x_due_37 => .ok x_due_37 else .ok x_due_26) >>= fun j40 => ((.ok (.int 2)) >>= fun a41 => U.rng1 a41) >>= fun us103 => forR (m_law_tells_ahead_loop1 x_book x_place x_goal x_handed_16 j40) us103 () >>= fun c104 => Ctl.fin c104 (fun s102 => (.ok (.bl true)) >>= fun y109 => .ok y109) (fun r => .ok r)
/-! ### law -/
def m_law_loop1 (p_book p_place : U) : Unit → U → Res (Ctl (Unit) U) := fun s x =>
  ((((.ok p_book) >>= fun a97 => (.ok p_place) >>= fun a98 => (.ok x) >>= fun a99 => m_law_tells_ahead a97 a98 a99) >>= fun a100 => U.bool? a100) >>= fun b101 => .ok (!b101)) >>= fun b103 => if b103 = true then (.ok (.bl false)) >>= fun y108 => .ok (.rt y108) else .ok (.nx ())
def m_law (x_script : U) : Res U :=
  (.ok x_script) >>= fun a1 => (.ok (.int 0)) >>= fun a2 => m_law_start a1 a2 >>= fun t7 => (.ok (.int 6)) >>= fun a8 => (.ok (.int 16)) >>= fun a9 => m_law_size t7 a8 a9 >>= fun (x_size_16, _) => (.ok x_script) >>= fun a17 => (.ok (.int 1)) >>= fun a18 => m_law_start a17 a18 >>= fun t23 => (.ok x_size_16) >>= fun a24 => m_law_some_book t23 a24 >>= fun (x_book_31, _) => (.ok x_script) >>= fun a32 => (.ok (.int 3)) >>= fun a33 => m_law_start a32 a33 >>= fun x_lists_39 => (.ok x_size_16) >>= fun a40 => m_law_draw x_lists_39 a40 >>= fun (x_place_48, s47) => (.ok x_size_16) >>= fun a49 => m_law_set s47 a49 >>= fun (a117, s57) => m_law_order s57 a117 >>= fun (x_shut_70, s67) => (((((.ok x_book_31) >>= fun a76 => (.ok x_place_48) >>= fun a77 => (.ok x_shut_70) >>= fun a78 => m_law_shuts_along a76 a77 a78) >>= fun a79 => U.bool? a79) >>= fun b80 => .ok (!b80)) >>= fun b81 => if b81 = true then .ok true else ((((.ok x_book_31) >>= fun a71 => (.ok (.int 0)) >>= fun a72 => (.ok x_shut_70) >>= fun a73 => m_law_shuts_along a71 a72 a73) >>= fun a74 => U.bool? a74) >>= fun b75 => .ok (!b75))) >>= fun b83 => if b83 = true then (.ok (.bl false)) >>= fun y88 => .ok y88 else ((.ok x_size_16) >>= fun a89 => U.rng1 a89) >>= fun us110 => forR (m_law_loop1 x_book_31 x_place_48) us110 () >>= fun c111 => Ctl.fin c111 (fun s109 => (.ok (.bl true)) >>= fun y116 => .ok y116) (fun r => .ok r)
end UW

set_option Elab.async false
set_option linter.all false
set_option maxRecDepth 100000
set_option maxHeartbeats 4000000
namespace UW
open PySem PySem.Spec PyProof.Rows L2 UL
def topS (i : Nat) : Stmt := PySem.Challenge.pw_tiedrings_k00_first_open.main.body.getD i (.Pass ⟨0, 0, 0, 0⟩)
abbrev sm_law_draw : Stmt := topS 16
abbrev sm_law_size : Stmt := topS 17
abbrev sm_law_left : Stmt := topS 23
abbrev sm_law_card : Stmt := topS 24
abbrev sm_law_cards : Stmt := topS 25
abbrev sm_law_bent : Stmt := topS 27
abbrev sm_law_book : Stmt := topS 26
abbrev sm_law_sorted : Stmt := topS 21
abbrev sm_law_top_at : Stmt := topS 18
abbrev sm_law_circle : Stmt := topS 19
abbrev sm_law_gate : Stmt := topS 20
abbrev sm_law_nest : Stmt := topS 22
abbrev sm_law_some_book : Stmt := topS 28
abbrev sm_law_start : Stmt := topS 15
abbrev sm_law_order : Stmt := topS 30
abbrev sm_law_set : Stmt := topS 29
abbrev sm_law_open_entries : Stmt := topS 34
abbrev sm_is_card : Stmt := topS 9
abbrev sm_check_book : Stmt := topS 8
abbrev sm_check_places : Stmt := topS 10
abbrev sm_first_outside : Stmt := topS 11
abbrev sm_first_open : Stmt := topS 12
abbrev sm_law_whole : Stmt := topS 31
abbrev sm_law_same_row : Stmt := topS 32
abbrev sm_law_same_book : Stmt := topS 33
abbrev sm_law_shuts_along : Stmt := topS 35
abbrev sm_law_ahead : Stmt := topS 36
abbrev sm_places_ahead : Stmt := topS 13
abbrev sm_law_tells_ahead : Stmt := topS 37
abbrev sm_law : Stmt := topS 38
structure Ad where
  am_law_draw : Addr
  dm_law_draw : FuncData
  am_law_size : Addr
  dm_law_size : FuncData
  am_law_left : Addr
  dm_law_left : FuncData
  am_law_card : Addr
  dm_law_card : FuncData
  am_law_cards : Addr
  dm_law_cards : FuncData
  am_law_bent : Addr
  dm_law_bent : FuncData
  am_law_book : Addr
  dm_law_book : FuncData
  am_law_sorted : Addr
  dm_law_sorted : FuncData
  am_law_top_at : Addr
  dm_law_top_at : FuncData
  am_law_circle : Addr
  dm_law_circle : FuncData
  am_law_gate : Addr
  dm_law_gate : FuncData
  am_law_nest : Addr
  dm_law_nest : FuncData
  am_law_some_book : Addr
  dm_law_some_book : FuncData
  am_law_start : Addr
  dm_law_start : FuncData
  am_law_order : Addr
  dm_law_order : FuncData
  am_law_set : Addr
  dm_law_set : FuncData
  am_law_open_entries : Addr
  dm_law_open_entries : FuncData
  am_is_card : Addr
  dm_is_card : FuncData
  am_check_book : Addr
  dm_check_book : FuncData
  am_check_places : Addr
  dm_check_places : FuncData
  am_first_outside : Addr
  dm_first_outside : FuncData
  am_first_open : Addr
  dm_first_open : FuncData
  am_law_whole : Addr
  dm_law_whole : FuncData
  am_law_same_row : Addr
  dm_law_same_row : FuncData
  am_law_same_book : Addr
  dm_law_same_book : FuncData
  am_law_shuts_along : Addr
  dm_law_shuts_along : FuncData
  am_law_ahead : Addr
  dm_law_ahead : FuncData
  am_places_ahead : Addr
  dm_places_ahead : FuncData
  am_law_tells_ahead : Addr
  dm_law_tells_ahead : FuncData
  am_law : Addr
  dm_law : FuncData
structure Txt (K : PySem.W.Frag) (mg : Str → Option Value) (A : Ad) : Prop where
  n_abs : mg "abs" = none
  n_bool : mg "bool" = none
  n_int : mg "int" = none
  n_isinstance : mg "isinstance" = none
  n_len : mg "len" = none
  n_list : mg "list" = none
  n_range : mg "range" = none
  n_sorted : mg "sorted" = none
  n_tuple : mg "tuple" = none
  c_HOME : ∃ t, mg "HOME" = some (.int (-1) t)
  c_MOST : ∃ t, mg "MOST" = some (.int 16 t)
  gm_law_draw : mg "_law_draw" = some (.ref A.am_law_draw)
  Fm_law_draw : Fun K "_law_draw" "_law_draw" sm_law_draw A.am_law_draw A.dm_law_draw
  bm_law_draw : Binds K A.dm_law_draw ["state", "many"] []
  gm_law_size : mg "_law_size" = some (.ref A.am_law_size)
  Fm_law_size : Fun K "_law_size" "_law_size" sm_law_size A.am_law_size A.dm_law_size
  bm_law_size : Binds K A.dm_law_size ["state", "small", "large"] []
  gm_law_left : mg "_law_left" = some (.ref A.am_law_left)
  Fm_law_left : Fun K "_law_left" "_law_left" sm_law_left A.am_law_left A.dm_law_left
  bm_law_left : Binds K A.dm_law_left ["nodes", "named"] []
  gm_law_card : mg "_law_card" = some (.ref A.am_law_card)
  Fm_law_card : Fun K "_law_card" "_law_card" sm_law_card A.am_law_card A.dm_law_card
  bm_law_card : Binds K A.dm_law_card ["nodes", "place"] []
  gm_law_cards : mg "_law_cards" = some (.ref A.am_law_cards)
  Fm_law_cards : Fun K "_law_cards" "_law_cards" sm_law_cards A.am_law_cards A.dm_law_cards
  bm_law_cards : Binds K A.dm_law_cards ["nodes", "size"] []
  gm_law_bent : mg "_law_bent" = some (.ref A.am_law_bent)
  Fm_law_bent : Fun K "_law_bent" "_law_bent" sm_law_bent A.am_law_bent A.dm_law_bent
  bm_law_bent : Binds K A.dm_law_bent ["state", "book"] []
  gm_law_book : mg "_law_book" = some (.ref A.am_law_book)
  Fm_law_book : Fun K "_law_book" "_law_book" sm_law_book A.am_law_book A.dm_law_book
  bm_law_book : Binds K A.dm_law_book ["state", "size"] []
  gm_law_sorted : mg "_law_sorted" = some (.ref A.am_law_sorted)
  Fm_law_sorted : Fun K "_law_sorted" "_law_sorted" sm_law_sorted A.am_law_sorted A.dm_law_sorted
  bm_law_sorted : Binds K A.dm_law_sorted ["nodes"] []
  gm_law_top_at : mg "_law_top_at" = some (.ref A.am_law_top_at)
  Fm_law_top_at : Fun K "_law_top_at" "_law_top_at" sm_law_top_at A.am_law_top_at A.dm_law_top_at
  bm_law_top_at : Binds K A.dm_law_top_at ["tops", "place"] []
  gm_law_circle : mg "_law_circle" = some (.ref A.am_law_circle)
  Fm_law_circle : Fun K "_law_circle" "_law_circle" sm_law_circle A.am_law_circle A.dm_law_circle
  bm_law_circle : Binds K A.dm_law_circle ["tops"] []
  gm_law_gate : mg "_law_gate" = some (.ref A.am_law_gate)
  Fm_law_gate : Fun K "_law_gate" "_law_gate" sm_law_gate A.am_law_gate A.dm_law_gate
  bm_law_gate : Binds K A.dm_law_gate ["state", "places", "size", "closed"] []
  gm_law_nest : mg "_law_nest" = some (.ref A.am_law_nest)
  Fm_law_nest : Fun K "_law_nest" "_law_nest" sm_law_nest A.am_law_nest A.dm_law_nest
  bm_law_nest : Binds K A.dm_law_nest ["state", "size", "closed"] []
  gm_law_some_book : mg "_law_some_book" = some (.ref A.am_law_some_book)
  Fm_law_some_book : Fun K "_law_some_book" "_law_some_book" sm_law_some_book A.am_law_some_book A.dm_law_some_book
  bm_law_some_book : Binds K A.dm_law_some_book ["state", "size"] []
  gm_law_start : mg "_law_start" = some (.ref A.am_law_start)
  Fm_law_start : Fun K "_law_start" "_law_start" sm_law_start A.am_law_start A.dm_law_start
  bm_law_start : Binds K A.dm_law_start ["script", "at"] []
  gm_law_order : mg "_law_order" = some (.ref A.am_law_order)
  Fm_law_order : Fun K "_law_order" "_law_order" sm_law_order A.am_law_order A.dm_law_order
  bm_law_order : Binds K A.dm_law_order ["state", "places"] []
  gm_law_set : mg "_law_set" = some (.ref A.am_law_set)
  Fm_law_set : Fun K "_law_set" "_law_set" sm_law_set A.am_law_set A.dm_law_set
  bm_law_set : Binds K A.dm_law_set ["state", "size"] []
  gm_law_open_entries : mg "_law_open_entries" = some (.ref A.am_law_open_entries)
  Fm_law_open_entries : Fun K "_law_open_entries" "_law_open_entries" sm_law_open_entries A.am_law_open_entries A.dm_law_open_entries
  bm_law_open_entries : Binds K A.dm_law_open_entries ["card", "shut"] []
  gm_is_card : mg "is_card" = some (.ref A.am_is_card)
  Fm_is_card : Fun K "is_card" "is_card" sm_is_card A.am_is_card A.dm_is_card
  bm_is_card : Binds K A.dm_is_card ["size", "place", "card"] []
  gm_check_book : mg "check_book" = some (.ref A.am_check_book)
  Fm_check_book : Fun K "check_book" "check_book" sm_check_book A.am_check_book A.dm_check_book
  bm_check_book : Binds K A.dm_check_book ["book"] []
  gm_check_places : mg "check_places" = some (.ref A.am_check_places)
  Fm_check_places : Fun K "check_places" "check_places" sm_check_places A.am_check_places A.dm_check_places
  bm_check_places : Binds K A.dm_check_places ["size", "places"] []
  gm_first_outside : mg "first_outside" = some (.ref A.am_first_outside)
  Fm_first_outside : Fun K "first_outside" "first_outside" sm_first_outside A.am_first_outside A.dm_first_outside
  bm_first_outside : Binds K A.dm_first_outside ["card", "listed"] []
  gm_first_open : mg "first_open" = some (.ref A.am_first_open)
  Fm_first_open : Fun K "first_open" "first_open" sm_first_open A.am_first_open A.dm_first_open
  bm_first_open : Binds K A.dm_first_open ["book", "place", "shut"] []
  gm_law_whole : mg "_law_whole" = some (.ref A.am_law_whole)
  Fm_law_whole : Fun K "_law_whole" "_law_whole" sm_law_whole A.am_law_whole A.dm_law_whole
  bm_law_whole : Binds K A.dm_law_whole ["thing"] []
  gm_law_same_row : mg "_law_same_row" = some (.ref A.am_law_same_row)
  Fm_law_same_row : Fun K "_law_same_row" "_law_same_row" sm_law_same_row A.am_law_same_row A.dm_law_same_row
  bm_law_same_row : Binds K A.dm_law_same_row ["told", "due"] []
  gm_law_same_book : mg "_law_same_book" = some (.ref A.am_law_same_book)
  Fm_law_same_book : Fun K "_law_same_book" "_law_same_book" sm_law_same_book A.am_law_same_book A.dm_law_same_book
  bm_law_same_book : Binds K A.dm_law_same_book ["told", "due"] []
  gm_law_shuts_along : mg "_law_shuts_along" = some (.ref A.am_law_shuts_along)
  Fm_law_shuts_along : Fun K "_law_shuts_along" "_law_shuts_along" sm_law_shuts_along A.am_law_shuts_along A.dm_law_shuts_along
  bm_law_shuts_along : Binds K A.dm_law_shuts_along ["book", "place", "shut"] []
  gm_law_ahead : mg "_law_ahead" = some (.ref A.am_law_ahead)
  Fm_law_ahead : Fun K "_law_ahead" "_law_ahead" sm_law_ahead A.am_law_ahead A.dm_law_ahead
  bm_law_ahead : Binds K A.dm_law_ahead ["card", "place", "goal"] []
  gm_places_ahead : mg "places_ahead" = some (.ref A.am_places_ahead)
  Fm_places_ahead : Fun K "places_ahead" "places_ahead" sm_places_ahead A.am_places_ahead A.dm_places_ahead
  bm_places_ahead : Binds K A.dm_places_ahead ["book", "place", "goal"] []
  gm_law_tells_ahead : mg "_law_tells_ahead" = some (.ref A.am_law_tells_ahead)
  Fm_law_tells_ahead : Fun K "_law_tells_ahead" "_law_tells_ahead" sm_law_tells_ahead A.am_law_tells_ahead A.dm_law_tells_ahead
  bm_law_tells_ahead : Binds K A.dm_law_tells_ahead ["book", "place", "goal"] []
  gm_law : mg "law" = some (.ref A.am_law)
  Fm_law : Fun K "law" "law" sm_law A.am_law A.dm_law
  bm_law : Binds K A.dm_law ["script"] []
def Nm_law_draw : List Str := ["state", "many", "digit", "one", "two", "three"]
def Ppm_law_draw : List Str := ["state", "many"]
theorem scm_law_draw : FnScope Nm_law_draw Ppm_law_draw (defScope sm_law_draw) := ⟨rfl, rfl, rfl, by decide +kernel, rfl, by decide +kernel, by decide +kernel⟩
theorem okm_law_draw {P : Program} {w : World} {K : PySem.W.Frag} {mg : Str → Option Value} {base : Heap} {A : Ad} (T : Txt K mg A) : FnOk P w K mg base CX0 2 A.am_law_draw A.dm_law_draw Ppm_law_draw (SpS K noX 2 (ar2 m_law_draw)) := by
  refine T.Fm_law_draw.ok scm_law_draw (fun vs H Q E h => h.len) (fun cdv A outer s H vs Q E hr h => ?_)
  refine ⟨_, (pss_cons (ps_if (pt_cmpR (k_gt K) (pe_ix (k_idx K) (pv 0) pe_int (fun _ _ => rfl)) pe_int (nomark _)) (pss_cons (ps_set (i := 2) scm_law_draw.nd rfl (Or.inl rfl) (pe_op (k_mod K) (pe_callTy (k_int K) (by rfl) T.n_int (by decide +kernel) (pa_cons (pe_ix (k_idx K) (pv 0) pe_int (fun _ _ => rfl)) pa_nil)) (pv 1)))
      (pss_cons (ps_asg (pe_op (k_fdiv K) (pe_ix (k_idx K) (pv 0) pe_int (fun _ _ => rfl)) (pv 1)) (pg_sub (pv 0) pe_int set_list))
      (pss_cons (ps_ret (pv 2))
      pss_nil))) pss_nil)
      (pss_cons (ps_asg (pe_op (k_add K) (pe_ix (k_idx K) (pv 0) pe_int (fun _ _ => rfl)) pe_int) (pg_sub (pv 0) pe_int set_list))
      (pss_cons (ps_set (i := 3) scm_law_draw.nd rfl (Or.inl rfl) (pe_op (k_mod K) (pe_callTy (k_int K) (by rfl) T.n_int (by decide +kernel) (pa_cons (pe_op (k_add K) (pe_op (k_add K) (pe_op (k_mul K) (pe_ix (k_idx K) (pv 0) pe_int (fun _ _ => rfl)) pe_int) (pe_op (k_mul K) (pe_ix (k_idx K) (pv 0) pe_int (fun _ _ => rfl)) pe_int)) pe_int) pa_nil)) pe_int))
      (pss_cons (ps_set (i := 4) scm_law_draw.nd rfl (Or.inl rfl) (pe_op (k_mod K) (pe_callTy (k_int K) (by rfl) T.n_int (by decide +kernel) (pa_cons (pe_op (k_add K) (pe_op (k_add K) (pe_op (k_mul K) (pv 3) (pv 3)) (pe_op (k_mul K) (pe_ix (k_idx K) (pv 0) pe_int (fun _ _ => rfl)) pe_int)) pe_int) pa_nil)) pe_int))
      (pss_cons (ps_set (i := 5) scm_law_draw.nd rfl (Or.inl rfl) (pe_op (k_mod K) (pe_callTy (k_int K) (by rfl) T.n_int (by decide +kernel) (pa_cons (pe_op (k_add K) (pe_op (k_mul K) (pv 4) (pv 4)) (pv 3)) pa_nil)) pe_int))
      (pss_cons (ps_ret (pe_op (k_mod K) (pe_callTy (k_int K) (by rfl) T.n_int (by decide +kernel) (pa_cons (pe_op (k_fdiv K) (pv 5) pe_int) pa_nil)) (pv 1)))
      pss_nil)))))), ?_⟩
  refine start0_S h fun F h us X P pv w0 vs' c o ev hn rl hX hk hP => ?_
  subst ev
  have hn := Nat.succ.inj hn
  obtain ⟨v_many, u_many, vs, us, rfl, rfl, hn, r_many, rl⟩ := repl1 hn rl
  obtain ⟨rfl, rfl⟩ := repl0 hn rl
  have hrt : ∀ r v H, P r → RS _ pv r v H → Q v H := fun r v H p ⟨_, _, l, j, c, o, hj, q⟩ => hP j _ _ _ _ _ l p c o hj q
  clear hP
  change (m_law_draw w0 u_many).Len P X at hk
  unfold m_law_draw at hk
  refine c_start [some pv, some v_many, none, none, none, none] rfl ?_
  refine c_if ?_
  refine x_t c (et_test (ev_op2 nx_gt (ev_op2 nx_idx (ev_own rfl (o.read (i := 0) rfl)) (ev_i).u).u (ev_i).u).u) hX hk fun b F H c sb6 hk => ?_
  replace o := o.mono sb6
  replace r_many := r_many.mono sb6
  refine c_way hk (fun hk => ?_) (fun hk => ?_)
  · refine c_setL (fun y => [some pv, some v_many, some y, none, none, none]) (fun _ => rfl) ?_
    refine x_val c (ev_op2 nx_mod (ev_cb nx_int (ev_op2 nx_idx (ev_own rfl (o.read (i := 0) rfl)) (ev_i).u).u).u (ev_var rfl r_many).u) hX hk fun u9 v8 F H c sb11 r10 hk => ?_
    replace o := o.mono sb11
    replace r_many := r_many.mono sb11
    refine c_setAt ?_
    refine x_val c (ev_op2 nx_fdiv (ev_op2 nx_idx (ev_own rfl (o.read (i := 0) rfl)) (ev_i).u).u (ev_var rfl r_many).u) hX hk fun u19 v18 F H c sb21 r20 hk => ?_
    replace o := o.mono sb21
    replace r_many := r_many.mono sb21
    replace r10 := r10.mono sb21
    refine c_var rfl ?_
    refine x_val c ev_i hX hk fun u27 v26 F H c sb29 r28 hk => ?_
    replace o := o.mono sb29
    replace r_many := r_many.mono sb29
    replace r10 := r10.mono sb29
    replace r20 := r20.mono sb29
    refine x_setAt 0 c o rfl r20 (.inl r28) hk fun w30 h H c o hk => ?_
    refine c_ret ?_
    refine x_val c (ev_var rfl r10) hX hk fun u35 v34 F H c sb37 r36 hk => ?_
    replace o := o.mono sb37
    replace r_many := r_many.mono sb37
    replace r10 := r10.mono sb37
    exact hrt _ _ _ hk ⟨_, _, _, 0, c, o, rfl, r36⟩
  · refine c_nx2 ?_
    refine c_setAt ?_
    refine x_val c (ev_on2 nx_add (ev_op2 nx_idx (ev_own rfl (o.read (i := 0) rfl)) (ev_i).u).u (ev_i).u) hX hk fun u40 v39 F H c sb42 r41 hk => ?_
    replace o := o.mono sb42
    replace r_many := r_many.mono sb42
    refine c_var rfl ?_
    refine x_val c ev_i hX hk fun u48 v47 F H c sb50 r49 hk => ?_
    replace o := o.mono sb50
    replace r_many := r_many.mono sb50
    replace r41 := r41.mono sb50
    refine x_setAt 0 c o rfl r41 (.inl r49) hk fun w51 h H c o hk => ?_
    refine c_setL (fun y => [some pv, some v_many, none, some y, none, none]) (fun _ => rfl) ?_
    refine x_val c (ev_op2 nx_mod (ev_cb nx_int (ev_on2 nx_add (ev_on2 nx_add (ev_on2 nx_mul (ev_op2 nx_idx (ev_own rfl (o.read (i := 0) rfl)) (ev_i).u).u (ev_i).u).u (ev_on2 nx_mul (ev_op2 nx_idx (ev_own rfl (o.read (i := 0) rfl)) (ev_i).u).u (ev_i).u).u).u (ev_i).u).u).u (ev_i).u) hX hk fun u56 v55 F H c sb58 r57 hk => ?_
    replace o := o.mono sb58
    replace r_many := r_many.mono sb58
    refine c_setL (fun y => [some pv, some v_many, none, some v55, some y, none]) (fun _ => rfl) ?_
    refine x_val c (ev_op2 nx_mod (ev_cb nx_int (ev_on2 nx_add (ev_on2 nx_add (ev_on2 nx_mul (ev_var rfl r57).u (ev_var rfl r57).u).u (ev_on2 nx_mul (ev_op2 nx_idx (ev_own rfl (o.read (i := 0) rfl)) (ev_i).u).u (ev_i).u).u).u (ev_i).u).u).u (ev_i).u) hX hk fun u76 v75 F H c sb78 r77 hk => ?_
    replace o := o.mono sb78
    replace r_many := r_many.mono sb78
    replace r57 := r57.mono sb78
    refine c_setL (fun y => [some pv, some v_many, none, some v55, some v75, some y]) (fun _ => rfl) ?_
    refine x_val c (ev_op2 nx_mod (ev_cb nx_int (ev_on2 nx_add (ev_on2 nx_mul (ev_var rfl r77).u (ev_var rfl r77).u).u (ev_var rfl r57).u).u).u (ev_i).u) hX hk fun u94 v93 F H c sb96 r95 hk => ?_
    replace o := o.mono sb96
    replace r_many := r_many.mono sb96
    replace r57 := r57.mono sb96
    replace r77 := r77.mono sb96
    refine c_ret ?_
    refine x_val c (ev_op2 nx_mod (ev_cb nx_int (ev_op2 nx_fdiv (ev_var rfl r95).u (ev_i).u).u).u (ev_var rfl r_many).u) hX hk fun u106 v105 F H c sb108 r107 hk => ?_
    replace o := o.mono sb108
    replace r_many := r_many.mono sb108
    replace r57 := r57.mono sb108
    replace r77 := r77.mono sb108
    replace r95 := r95.mono sb108
    exact hrt _ _ _ hk ⟨_, _, _, 0, c, o, rfl, r107⟩
def Nm_law_size : List Str := ["state", "small", "large"]
def Ppm_law_size : List Str := ["state", "small", "large"]
theorem scm_law_size : FnScope Nm_law_size Ppm_law_size (defScope sm_law_size) := ⟨rfl, rfl, rfl, by decide +kernel, rfl, by decide +kernel, by decide +kernel⟩
theorem okm_law_size {P : Program} {w : World} {K : PySem.W.Frag} {mg : Str → Option Value} {base : Heap} {A : Ad} (T : Txt K mg A) : FnOk P w K mg base CX0 3 A.am_law_size A.dm_law_size Ppm_law_size (SpS K noX 3 (ar3 m_law_size)) := by
  refine T.Fm_law_size.ok scm_law_size (fun vs H Q E h => h.len) (fun cdv A outer s H vs Q E hr h => ?_)
  refine ⟨_, (pss_cons (ps_if (pt_cmpR (k_eq K hr.un64) (pe_call (okm_law_draw T) (hr.mono (by decide)) (by rfl) T.gm_law_draw T.Fm_law_draw.kp T.bm_law_draw .nil pass0 (pa_cons (pv 0) (pa_cons pe_int pa_nil))) pe_int (nomark _)) (pss_cons (ps_ret (pe_op (k_add K) pe_int (pe_call (okm_law_draw T) (hr.mono (by decide)) (by rfl) T.gm_law_draw T.Fm_law_draw.kp T.bm_law_draw .nil pass0 (pa_cons (pv 0) (pa_cons (pv 2) pa_nil)))))
      pss_nil) pss_nil)
      (pss_cons (ps_ret (pe_op (k_add K) pe_int (pe_call (okm_law_draw T) (hr.mono (by decide)) (by rfl) T.gm_law_draw T.Fm_law_draw.kp T.bm_law_draw .nil pass0 (pa_cons (pv 0) (pa_cons (pv 1) pa_nil)))))
      pss_nil)), ?_⟩
  refine start0_S h fun F h us X P pv w0 vs' c o ev hn rl hX hk hP => ?_
  subst ev
  have hn := Nat.succ.inj hn
  obtain ⟨v_small, u_small, vs, us, rfl, rfl, hn, r_small, rl⟩ := repl1 hn rl
  obtain ⟨v_large, u_large, vs, us, rfl, rfl, hn, r_large, rl⟩ := repl1 hn rl
  obtain ⟨rfl, rfl⟩ := repl0 hn rl
  have hrt : ∀ r v H, P r → RS _ pv r v H → Q v H := fun r v H p ⟨_, _, l, j, c, o, hj, q⟩ => hP j _ _ _ _ _ l p c o hj q
  clear hP
  change (m_law_size w0 u_small u_large).Len P X at hk
  unfold m_law_size at hk
  refine c_start [some pv, some v_small, some v_large] rfl ?_
  refine c_if ?_
  refine c_test ?_
  refine c_op2 ?_
  refine c_callS rfl ?_
  refine x_callS 0 c o rfl (m := ar2 m_law_draw) ar2_n (ea_cons ev_i ea_nil) hX hk fun u3 w6 v2 F h H c sb5 o r4 hk => ?_
  replace r_small := r_small.mono sb5
  replace r_large := r_large.mono sb5
  refine x_val c ev_i hX hk fun u10 v9 F H c sb12 r11 hk => ?_
  replace o := o.mono sb12
  replace r_small := r_small.mono sb12
  replace r_large := r_large.mono sb12
  replace r4 := r4.mono sb12
  refine x_ap2 c nx_eq (.inl r4) (.inl r11) hk fun u14 v13 F H c sb16 r15 hk => ?_
  replace o := o.mono sb16
  replace r_small := r_small.mono sb16
  replace r_large := r_large.mono sb16
  refine x_kt c (.inl r15) hk fun b hk => ?_
  refine c_way hk (fun hk => ?_) (fun hk => ?_)
  · refine c_ret ?_
    refine c_op2 ?_
    refine x_val c ev_i hX hk fun u22 v21 F H c sb24 r23 hk => ?_
    replace o := o.mono sb24
    replace r_small := r_small.mono sb24
    replace r_large := r_large.mono sb24
    refine c_callS rfl ?_
    refine x_callS 0 c o rfl (m := ar2 m_law_draw) ar2_n (ea_cons (ev_var rfl r_large) ea_nil) hX hk fun u27 w30 v26 F h H c sb29 o r28 hk => ?_
    replace r_small := r_small.mono sb29
    replace r_large := r_large.mono sb29
    replace r23 := r23.mono sb29
    refine x_apn2 c nx_add (.inl r23) (.inl r28) hk fun u34 v33 F H c sb36 r35 hk => ?_
    replace o := o.mono sb36
    replace r_small := r_small.mono sb36
    replace r_large := r_large.mono sb36
    exact hrt _ _ _ hk ⟨_, _, _, 0, c, o, rfl, r35⟩
  · refine c_nx2 ?_
    refine c_ret ?_
    refine c_op2 ?_
    refine x_val c ev_i hX hk fun u41 v40 F H c sb43 r42 hk => ?_
    replace o := o.mono sb43
    replace r_small := r_small.mono sb43
    replace r_large := r_large.mono sb43
    refine c_callS rfl ?_
    refine x_callS 0 c o rfl (m := ar2 m_law_draw) ar2_n (ea_cons (ev_var rfl r_small) ea_nil) hX hk fun u46 w49 v45 F h H c sb48 o r47 hk => ?_
    replace r_small := r_small.mono sb48
    replace r_large := r_large.mono sb48
    replace r42 := r42.mono sb48
    refine x_apn2 c nx_add (.inl r42) (.inl r47) hk fun u53 v52 F H c sb55 r54 hk => ?_
    replace o := o.mono sb55
    replace r_small := r_small.mono sb55
    replace r_large := r_large.mono sb55
    exact hrt _ _ _ hk ⟨_, _, _, 0, c, o, rfl, r54⟩
def Nm_law_left : List Str := ["nodes", "named", "best", "node", "whole", "place"]
def Ppm_law_left : List Str := ["nodes", "named"]
theorem scm_law_left : FnScope Nm_law_left Ppm_law_left (defScope sm_law_left) := ⟨rfl, rfl, rfl, by decide +kernel, rfl, by decide +kernel, by decide +kernel⟩
theorem okm_law_left {P : Program} {w : World} {K : PySem.W.Frag} {mg : Str → Option Value} {base : Heap} {A : Ad} (T : Txt K mg A) : FnOk P w K mg base CX0 2 A.am_law_left A.dm_law_left Ppm_law_left (SpF K noX 2 (ar2 m_law_left)) := by
  refine T.Fm_law_left.ok scm_law_left (fun vs H Q E h => h.len) (fun cdv A outer s H vs Q E hr h => ?_)
  refine ⟨_, (pss_cons (ps_set (i := 2) scm_law_left.nd rfl (Or.inl rfl) (pe_tup (pa_cons (pe_tup pa_nil) (pa_cons (pe_un (k_neg K) pe_int) pa_nil))))
      (pss_cons (ps_for PassesOwn.never rfl (kpi_seq K (pv 0)) (pg_name (i := 3) scm_law_left.nd rfl (Or.inl rfl)) (pss_cons (ps_if (PW.pt (pw_and (pt_cmpR (k_in K hr.un65) (pe_ix (k_idx K) (pv 1) (pe_un (k_neg K) pe_int) (fun _ _ => rfl)) (pe_ix (k_idx K) (pv 3) pe_int (fun _ _ => rfl)) (by rfl)) (pw_and1 (pt_cmpR (k_gt K) (pe_callB (k_len K) (by rfl) T.n_len PySem.boot_len (pa_cons (pe_ix (k_idx K) (pv 3) pe_int (fun _ _ => rfl)) pa_nil)) (pe_callB (k_len K) (by rfl) T.n_len PySem.boot_len (pa_cons (pe_ix (k_idx K) (pv 2) pe_int (fun _ _ => rfl)) pa_nil)) (nomark _))))) (pss_cons (ps_set (i := 4) scm_law_left.nd rfl (Or.inl rfl) pe_bl)
      (pss_cons (ps_for PassesOwn.never rfl (kpi_seq K (pe_ix (k_idx K) (pv 3) pe_int (fun _ _ => rfl))) (pg_name (i := 5) scm_law_left.nd rfl (Or.inl rfl)) (pss_cons (ps_if (pt_cmpR (k_notin K hr.un65) (pv 5) (pv 1) (by rfl)) (pss_cons (ps_set (i := 4) scm_law_left.nd rfl (Or.inl rfl) pe_bl)
      pss_nil) pss_nil)
      pss_nil))
      (pss_cons (ps_if (pt_val (pv 4)) (pss_cons (ps_set (i := 2) scm_law_left.nd rfl (Or.inl rfl) (pv 3))
      pss_nil) pss_nil)
      pss_nil))) pss_nil)
      pss_nil))
      (pss_cons (ps_ret (pv 2))
      pss_nil))), ?_⟩
  refine start0_F h fun F us X P c o hn rl hX hk hP => ?_
  obtain ⟨v_nodes, u_nodes, vs, us, rfl, rfl, hn, r_nodes, rl⟩ := repl1 hn rl
  obtain ⟨v_named, u_named, vs, us, rfl, rfl, hn, r_named, rl⟩ := repl1 hn rl
  obtain ⟨rfl, rfl⟩ := repl0 hn rl
  have hrt : ∀ r v H, P r → RV _ r v H → Q v H := fun r v H p ⟨_, _, c, q⟩ => hP _ _ _ _ _ p c q
  clear hP
  change (m_law_left u_nodes u_named).Len P X at hk
  unfold m_law_left at hk
  refine c_start [some v_nodes, some v_named, none, none, none, none] rfl ?_
  refine c_setL (fun y => [some v_nodes, some v_named, some y, none, none, none]) (fun _ => rfl) ?_
  refine x_val c (ev_tup (ea_cons (ev_tup ea_nil) (ea_cons (ev_un nx_neg (ev_i).u) ea_nil))) hX hk fun u2 v1 F H c sb4 r3 hk => ?_
  replace o := o.mono sb4
  replace r_nodes := r_nodes.mono sb4
  replace r_named := r_named.mono sb4
  refine x_forF (S := U) (fun s σ F h => ∃ (v10 : V) (d11 : Option V) (d12 : Option V) (d13 : Option V), σ = [some v_nodes, some v_named, some v10, d11, d12, d13] ∧ Own K F h [] ∧ Rep K F v10 s) _ c (ei_seq (ev_var rfl r_nodes)) hX hk (fun F1 sb => ⟨_, _, _, _, rfl, o.mono sb, r3.mono sb⟩) (fun _ _ _ _ _ => trivial) (fun s14 u19 v16 σ F h H c sb18 a r17 D P hk kn kb hrt => ?_) (fun s14 σ F h H c sb18 a hk => ?_) (fun r v H q rr => hrt r v H q rr)
  · obtain ⟨v10, d11, d12, d13, rfl, o, r20⟩ := a
    refine c_gn [some v_nodes, some v_named, some v10, some v16, d12, d13] rfl ?_
    unfold m_law_left_loop1 at hk
    replace r_nodes := r_nodes.mono sb18
    replace r_named := r_named.mono sb18
    refine c_if ?_
    refine x_t c (et_and (et_test (ev_op2 nx_in (ev_op2 nx_idx (ev_var rfl r_named).u (ev_un nx_neg (ev_i).u).u).u (ev_op2 nx_idx (ev_var rfl r17).u (ev_i).u).u).u) (et_test (ev_op2 nx_gt (ev_cb nx_len (ev_op2 nx_idx (ev_var rfl r17).u (ev_i).u).u).u (ev_cb nx_len (ev_op2 nx_idx (ev_var rfl r20).u (ev_i).u).u).u).u)) hX hk fun b F H c sb39 hk => ?_
    replace o := o.mono sb39
    replace r_nodes := r_nodes.mono sb39
    replace r_named := r_named.mono sb39
    replace r20 := r20.mono sb39
    replace r17 := r17.mono sb39
    refine c_way hk (fun hk => ?_) (fun hk => ?_)
    · refine c_setL (fun y => [some v_nodes, some v_named, some v10, some v16, some y, d13]) (fun _ => rfl) ?_
      refine x_val c ev_b hX hk fun u42 v41 F H c sb44 r43 hk => ?_
      replace o := o.mono sb44
      replace r_nodes := r_nodes.mono sb44
      replace r_named := r_named.mono sb44
      replace r20 := r20.mono sb44
      replace r17 := r17.mono sb44
      refine x_forF (S := U) (fun s σ F h => ∃ (v49 : V) (d50 : Option V), σ = [some v_nodes, some v_named, some v10, some v16, some v49, d50] ∧ Own K F h [] ∧ Rep K F v49 s) _ c (ei_seq (ev_op2 nx_idx (ev_var rfl r17).u (ev_i).u)) hX hk (fun F1 sb => ⟨_, _, rfl, o.mono sb, r43.mono sb⟩) (fun _ _ _ _ _ => trivial) (fun s51 u56 v53 σ F h H c sb55 a r54 D P hk kn kb hrt => ?_) (fun s51 σ F h H c sb55 a hk => ?_) (fun r v H q rr => hrt r v H q rr)
      · obtain ⟨v49, d50, rfl, o, r57⟩ := a
        refine c_gn [some v_nodes, some v_named, some v10, some v16, some v49, some v53] rfl ?_
        unfold m_law_left_loop2 at hk
        replace r_nodes := r_nodes.mono sb55
        replace r_named := r_named.mono sb55
        replace r20 := r20.mono sb55
        replace r17 := r17.mono sb55
        refine c_if ?_
        refine x_t c (et_test (ev_op2 nx_notin (ev_var rfl r54).u (ev_var rfl r_named).u).u) hX hk fun b F H c sb61 hk => ?_
        replace o := o.mono sb61
        replace r_nodes := r_nodes.mono sb61
        replace r_named := r_named.mono sb61
        replace r20 := r20.mono sb61
        replace r17 := r17.mono sb61
        replace r57 := r57.mono sb61
        replace r54 := r54.mono sb61
        refine c_way hk (fun hk => ?_) (fun hk => ?_)
        · refine c_setL (fun y => [some v_nodes, some v_named, some v10, some v16, some y, some v53]) (fun _ => rfl) ?_
          refine x_val c ev_b hX hk fun u64 v63 F H c sb66 r65 hk => ?_
          replace o := o.mono sb66
          replace r_nodes := r_nodes.mono sb66
          replace r_named := r_named.mono sb66
          replace r20 := r20.mono sb66
          replace r17 := r17.mono sb66
          replace r57 := r57.mono sb66
          replace r54 := r54.mono sb66
          refine c_nx2 ?_
          refine c_nx ?_
          exact (kn _ _ _ _ _ hk c (sb61.trans sb66) ⟨_, _, rfl, o, r65⟩).1
        · refine c_nx2 ?_
          refine c_nx ?_
          exact (kn _ _ _ _ _ hk c sb61 ⟨_, _, rfl, o, r57⟩).1
      obtain ⟨v49, d50, rfl, o, r57⟩ := a
      replace r_nodes := r_nodes.mono sb55
      replace r_named := r_named.mono sb55
      replace r20 := r20.mono sb55
      replace r17 := r17.mono sb55
      replace r43 := r43.mono sb55
      refine c_if ?_
      refine x_t c (et_B (ev_var rfl r57).u) hX hk fun b F H c sb72 hk => ?_
      replace o := o.mono sb72
      replace r_nodes := r_nodes.mono sb72
      replace r_named := r_named.mono sb72
      replace r20 := r20.mono sb72
      replace r17 := r17.mono sb72
      replace r57 := r57.mono sb72
      refine c_way hk (fun hk => ?_) (fun hk => ?_)
      · refine c_setL (fun y => [some v_nodes, some v_named, some y, some v16, some v49, d50]) (fun _ => rfl) ?_
        refine x_val c (ev_var rfl r17) hX hk fun u75 v74 F H c sb77 r76 hk => ?_
        replace o := o.mono sb77
        replace r_nodes := r_nodes.mono sb77
        replace r_named := r_named.mono sb77
        replace r20 := r20.mono sb77
        replace r17 := r17.mono sb77
        replace r57 := r57.mono sb77
        refine c_nx2 ?_
        refine c_nx2 ?_
        refine c_nx ?_
        exact (kn _ _ _ _ _ hk c (sb39.trans (sb44.trans (sb55.trans (sb72.trans sb77)))) ⟨_, _, _, _, rfl, o, r76⟩).1
      · refine c_nx2 ?_
        refine c_nx2 ?_
        refine c_nx ?_
        exact (kn _ _ _ _ _ hk c (sb39.trans (sb44.trans (sb55.trans sb72))) ⟨_, _, _, _, rfl, o, r20⟩).1
    · refine c_nx2 ?_
      refine c_nx ?_
      exact (kn _ _ _ _ _ hk c sb39 ⟨_, _, _, _, rfl, o, r20⟩).1
  obtain ⟨v10, d11, d12, d13, rfl, o, r20⟩ := a
  replace r_nodes := r_nodes.mono sb18
  replace r_named := r_named.mono sb18
  replace r3 := r3.mono sb18
  refine c_ret ?_
  refine x_val c (ev_var rfl r20) hX hk fun u83 v82 F H c sb85 r84 hk => ?_
  replace o := o.mono sb85
  replace r_nodes := r_nodes.mono sb85
  replace r_named := r_named.mono sb85
  replace r20 := r20.mono sb85
  exact hrt _ _ _ hk ⟨_, _, c, r84⟩
def Nm_law_card : List Str := ["nodes", "place", "named", "turn", "gate"]
def Ppm_law_card : List Str := ["nodes", "place"]
theorem scm_law_card : FnScope Nm_law_card Ppm_law_card (defScope sm_law_card) := ⟨rfl, rfl, rfl, by decide +kernel, rfl, by decide +kernel, by decide +kernel⟩
theorem okm_law_card {P : Program} {w : World} {K : PySem.W.Frag} {mg : Str → Option Value} {base : Heap} {A : Ad} (T : Txt K mg A) : FnOk P w K mg base CX0 3 A.am_law_card A.dm_law_card Ppm_law_card (SpN K noX 2 (ar2 m_law_card)) := by
  refine T.Fm_law_card.ok scm_law_card (fun vs H Q E h => h.len) (fun cdv A outer s H vs Q E hr h => ?_)
  refine ⟨_, (pss_cons (ps_set (i := 2) scm_law_card.nd rfl (Or.inl rfl) (pe_lst (pa_cons (pv 1) pa_nil)))
      (pss_cons (ps_for PassesOwn.never rfl (pi_range1 rfl T.n_range (pa_cons (pe_callB (k_len K) (by rfl) T.n_len PySem.boot_len (pa_cons (pv 0) pa_nil)) pa_nil)) (pg_name (i := 3) scm_law_card.nd rfl (Or.inl rfl)) (pss_cons (ps_set (i := 4) scm_law_card.nd rfl (Or.inl rfl) (pe_ix (k_idx K) (pe_call (okm_law_left T) (hr.mono (by decide)) (by rfl) T.gm_law_left T.Fm_law_left.kp T.bm_law_left .nil pass0 (pa_cons (pv 0) (pa_cons (pv 2) pa_nil))) pe_int (fun _ _ => rfl)))
      (pss_cons (ps_if (pt_cmpR (k_lt K) (pv 4) pe_int (nomark _)) (pss_cons ps_break
      pss_nil) pss_nil)
      (pss_cons (ps_expr (kpe_bm K PySem.F.plainAttrs_list PySem.F.slot_list_append PySem.F.type_list_append mt_append (pv 2) (pa_cons (pv 4) pa_nil)))
      pss_nil))))
      (pss_cons (ps_ret (pe_slice (k_slice K) (pv 2) (po_some pe_int) po_none))
      pss_nil))), ?_⟩
  refine start0_N h fun F us X P c o hn rl hX hk hP => ?_
  obtain ⟨v_nodes, u_nodes, vs, us, rfl, rfl, hn, r_nodes, rl⟩ := repl1 hn rl
  obtain ⟨v_place, u_place, vs, us, rfl, rfl, hn, r_place, rl⟩ := repl1 hn rl
  obtain ⟨rfl, rfl⟩ := repl0 hn rl
  have hrt : ∀ r v H, P r → RN _ r v H → Q v H := fun r v H p ⟨_, _, l, j, c, o, hj⟩ => hP j _ _ _ _ _ l p c o hj
  clear hP
  change (m_law_card u_nodes u_place).Len P X at hk
  unfold m_law_card at hk
  refine c_start [some v_nodes, some v_place, none, none, none] rfl ?_
  refine c_setL (fun y => [some v_nodes, some v_place, some y, none, none]) (fun _ => rfl) ?_
  refine x_new c o (en_lst (ea_cons (ev_var rfl r_place) ea_nil)) hX hk fun u3 v2 F h H c sb4 o hk => ?_
  replace r_nodes := r_nodes.mono sb4
  replace r_place := r_place.mono sb4
  refine x_forF (S := U) (fun s σ F h => ∃ (d10 : Option V) (d11 : Option V), σ = [some v_nodes, some v_place, some v2, d10, d11] ∧ Own K F h [(v2, s)]) _ c (ei_rng1 (ev_cb nx_len (ev_var rfl r_nodes).u).u) hX hk (fun F1 sb => ⟨_, _, rfl, o.mono sb⟩) (fun _ _ _ _ _ => trivial) (fun s12 u17 v14 σ F h H c sb16 a r15 D P hk kn kb hrt => ?_) (fun s12 σ F h H c sb16 a hk => ?_) (fun r v H q rr => hrt r v H q rr)
  · obtain ⟨d10, d11, rfl, o⟩ := a
    refine c_gn [some v_nodes, some v_place, some v2, some v14, d11] rfl ?_
    unfold m_law_card_loop1 at hk
    replace r_nodes := r_nodes.mono sb16
    replace r_place := r_place.mono sb16
    refine c_setL (fun y => [some v_nodes, some v_place, some v2, some v14, some y]) (fun _ => rfl) ?_
    refine x_scal c o (fun Fz sz hz => (ev_op2 nx_idx (ev_call (m := ar2 m_law_left) ar2_n (ea_cons (ev_var rfl (r_nodes.mono sz)) (ea_cons (ev_var rfl (hz 0 _ _ rfl)) ea_nil))).u (ev_i).u)) hX hk fun u19 v18 F H c sb21 r20 hk => ?_
    replace o := o.mono sb21
    replace r_nodes := r_nodes.mono sb21
    replace r_place := r_place.mono sb21
    replace r15 := r15.mono sb21
    refine c_if ?_
    refine x_t c (et_test (ev_op2 nx_lt (ev_var rfl r20).u (ev_i).u).u) hX hk fun b F H c sb31 hk => ?_
    replace o := o.mono sb31
    replace r_nodes := r_nodes.mono sb31
    replace r_place := r_place.mono sb31
    replace r15 := r15.mono sb31
    replace r20 := r20.mono sb31
    refine c_way hk (fun hk => ?_) (fun hk => ?_)
    · refine c_brk ?_
      exact kb _ _ _ _ _ hk c (sb21.trans sb31) ⟨_, _, rfl, o⟩
    · refine c_nx2 ?_
      refine x_ty (j := 0) c o rfl hk fun ty hk => ?_
      refine c_app rfl ty ?_
      refine x_val c (ev_var rfl r20) hX hk fun u34 v33 F H c sb36 r35 hk => ?_
      replace o := o.mono sb36
      replace r_nodes := r_nodes.mono sb36
      replace r_place := r_place.mono sb36
      replace r15 := r15.mono sb36
      replace r20 := r20.mono sb36
      refine (x_app 0 c o rfl r35 hk fun w37 h H c o hk => ?_).2
      refine c_nx ?_
      exact (kn _ _ _ _ _ hk c (sb21.trans (sb31.trans sb36)) ⟨_, _, rfl, o⟩).1
  obtain ⟨d10, d11, rfl, o⟩ := a
  replace r_nodes := r_nodes.mono sb16
  replace r_place := r_place.mono sb16
  refine c_ret ?_
  refine x_frz 0 c o rfl fun F h c sb44 o r43 => ?_
  replace r_nodes := r_nodes.mono sb44
  replace r_place := r_place.mono sb44
  refine x_new c o (en_sl (ev_var rfl r43).u (eo_some ev_i.u) eo_none) hX hk fun u50 v49 F h H c sb51 o hk => ?_
  replace r_nodes := r_nodes.mono sb51
  replace r_place := r_place.mono sb51
  replace r43 := r43.mono sb51
  exact hrt _ _ _ hk ⟨_, _, _, 0, c, o, rfl⟩
def Nm_law_cards : List Str := ["nodes", "size", "place"]
def Ppm_law_cards : List Str := ["nodes", "size"]
theorem scm_law_cards : FnScope Nm_law_cards Ppm_law_cards (defScope sm_law_cards) := ⟨rfl, rfl, rfl, by decide +kernel, rfl, by decide +kernel, by decide +kernel⟩
theorem okm_law_cards {P : Program} {w : World} {K : PySem.W.Frag} {mg : Str → Option Value} {base : Heap} {A : Ad} (T : Txt K mg A) : FnOk P w K mg base CX0 4 A.am_law_cards A.dm_law_cards Ppm_law_cards (SpN K noX 2 (ar2 m_law_cards)) := by
  refine T.Fm_law_cards.ok scm_law_cards (fun vs H Q E h => h.len) (fun cdv A outer s H vs Q E hr h => ?_)
  refine ⟨_, (pss_cons (ps_ret (pe_lc (own := [("place", 2)]) (g := (gName 2)) rfl scm_law_cards.nd (pi_range1 rfl T.n_range (pa_cons (pv 1) pa_nil)) (blkOk_by (N := Nm_law_cards) (sc := defScope sm_law_cards) (by decide +kernel)) (fun _ _ _ _ _ => pg_name (i := 2) scm_law_cards.nd rfl (Or.inl rfl)) (fun _ _ _ _ _ => pts_nil) (fun _ _ _ _ _ => (pe_call (okm_law_card T) (hr.mono (by decide)) (by rfl) T.gm_law_card T.Fm_law_card.kp T.bm_law_card .nil pass0 (pa_cons (pv 0) (pa_cons (pv 2) pa_nil))))))
      pss_nil), ?_⟩
  refine start0_N h fun F us X P c o hn rl hX hk hP => ?_
  obtain ⟨v_nodes, u_nodes, vs, us, rfl, rfl, hn, r_nodes, rl⟩ := repl1 hn rl
  obtain ⟨v_size, u_size, vs, us, rfl, rfl, hn, r_size, rl⟩ := repl1 hn rl
  obtain ⟨rfl, rfl⟩ := repl0 hn rl
  have hrt : ∀ r v H, P r → RN _ r v H → Q v H := fun r v H p ⟨_, _, l, j, c, o, hj⟩ => hP j _ _ _ _ _ l p c o hj
  clear hP
  change (m_law_cards u_nodes u_size).Len P X at hk
  unfold m_law_cards at hk
  refine c_start [some v_nodes, some v_size, none] rfl ?_
  refine c_ret ?_
  refine x_new c o (en_lc (ei_rng1 (ev_var rfl r_size).u) (fun _ _ => trivial) (ec_all (fun _ => rfl) (fun x2 v3 F5 H6 r4 sb7 => (ev_callN (m := ar2 m_law_card) ar2_n (ea_cons (ev_var rfl (r_nodes.mono sb7)) (ea_cons (ev_var rfl r4) ea_nil)))))) hX hk fun u14 v13 F h H c sb15 o hk => ?_
  replace r_nodes := r_nodes.mono sb15
  replace r_size := r_size.mono sb15
  exact hrt _ _ _ hk ⟨_, _, _, 0, c, o, rfl⟩
def Nm_law_bent : List Str := ["state", "book", "size", "place", "card", "kind", "k", "left", "found", "other"]
def Ppm_law_bent : List Str := ["state", "book"]
theorem scm_law_bent : FnScope Nm_law_bent Ppm_law_bent (defScope sm_law_bent) := ⟨rfl, rfl, rfl, by decide +kernel, rfl, by decide +kernel, by decide +kernel⟩
theorem okm_law_bent {P : Program} {w : World} {K : PySem.W.Frag} {mg : Str → Option Value} {base : Heap} {A : Ad} (T : Txt K mg A) : FnOk P w K mg base CX0 3 A.am_law_bent A.dm_law_bent Ppm_law_bent (SpSN K noX 2 (ar2 m_law_bent)) := by
  refine T.Fm_law_bent.ok scm_law_bent (fun vs H Q E h => h.len) (fun cdv A outer s H vs Q E hr h => ?_)
  refine ⟨_, (pss_cons (ps_set (i := 2) scm_law_bent.nd rfl (Or.inl rfl) (pe_callB (k_len K) (by rfl) T.n_len PySem.boot_len (pa_cons (pv 1) pa_nil)))
      (pss_cons (ps_set (i := 3) scm_law_bent.nd rfl (Or.inr rfl) (pe_call (okm_law_draw T) (hr.mono (by decide)) (by rfl) T.gm_law_draw T.Fm_law_draw.kp T.bm_law_draw .nil pass0 (pa_cons (pv 0) (pa_cons (pv 2) pa_nil))))
      (pss_cons (ps_set (i := 4) scm_law_bent.nd rfl (Or.inr rfl) (pe_callTy (k_list K) (by rfl) T.n_list (by decide +kernel) (pa_cons (pe_ix (k_idx K) (pv 1) (pv 3) (fun _ _ => rfl)) pa_nil)))
      (pss_cons (ps_set (i := 5) scm_law_bent.nd rfl (Or.inl rfl) (pe_call (okm_law_draw T) (hr.mono (by decide)) (by rfl) T.gm_law_draw T.Fm_law_draw.kp T.bm_law_draw .nil pass0 (pa_cons (pv 0) (pa_cons pe_int pa_nil))))
      (pss_cons (ps_if (PW.pt (pw_and (pt_cmpR (k_eq K hr.un64) (pv 5) pe_int (nomark _)) (pw_and1 (pt_cmpR (k_gt K) (pe_callB (k_len K) (by rfl) T.n_len PySem.boot_len (pa_cons (pv 4) pa_nil)) pe_int (nomark _))))) (pss_cons (ps_set (i := 6) scm_law_bent.nd rfl (Or.inl rfl) (pe_call (okm_law_draw T) (hr.mono (by decide)) (by rfl) T.gm_law_draw T.Fm_law_draw.kp T.bm_law_draw .nil pass0 (pa_cons (pv 0) (pa_cons (pe_op (k_sub K) (pe_callB (k_len K) (by rfl) T.n_len PySem.boot_len (pa_cons (pv 4) pa_nil)) pe_int) pa_nil))))
      (pss_cons (ps_set (i := 4) scm_law_bent.nd rfl (Or.inr rfl) (pe_op (k_add K) (pe_op (k_add K) (pe_slice (k_slice K) (pv 4) po_none (po_some (pv 6))) (pe_lst (pa_cons (pe_ix (k_idx K) (pv 4) (pe_op (k_add K) (pv 6) pe_int) (fun _ _ => rfl)) (pa_cons (pe_ix (k_idx K) (pv 4) (pv 6) (fun _ _ => rfl)) pa_nil)))) (pe_slice (k_slice K) (pv 4) (po_some (pe_op (k_add K) (pv 6) pe_int)) po_none)))
      pss_nil)) (pss_cons (ps_if (pt_cmpR (k_eq K hr.un64) (pv 5) pe_int (nomark _)) (pss_cons (ps_set (i := 4) scm_law_bent.nd rfl (Or.inr rfl) (pe_slice (k_slice K) (pv 4) po_none (po_some (pe_call (okm_law_draw T) (hr.mono (by decide)) (by rfl) T.gm_law_draw T.Fm_law_draw.kp T.bm_law_draw .nil pass0 (pa_cons (pv 0) (pa_cons (pe_op (k_add K) (pe_callB (k_len K) (by rfl) T.n_len PySem.boot_len (pa_cons (pv 4) pa_nil)) pe_int) pa_nil))))))
      pss_nil) (pss_cons (ps_setLc (i := 7) (own := [("other", 9)]) (g := (gName 9)) rfl scm_law_bent.nd rfl rfl (sw_true rfl rfl rfl (by decide +kernel)) (pi_range1 rfl T.n_range (pa_cons (pv 2) pa_nil)) (blkOk_by (N := Nm_law_bent) (sc := defScope sm_law_bent) (by decide +kernel)) (fun _ _ _ _ _ => pg_name (i := 9) scm_law_bent.nd rfl (Or.inl rfl)) (fun _ _ _ _ _ => pts_one (PW.pt (pw_and (pt_cmpR (k_ne K hr.un64) (pv 9) (pv 3) (nomark _)) (pw_and1 (pt_cmpR (k_notin K hr.un65) (pv 9) (pv 4) (by rfl)))))) (fun _ _ _ _ _ => (pv 9)))
      (pss_cons (ps_if (pt_cmpR (k_gt K) (pe_callB (k_len K) (by rfl) T.n_len PySem.boot_len (pa_cons (pv 7) pa_nil)) pe_int (nomark _)) (pss_cons (ps_set (i := 4) scm_law_bent.nd rfl (Or.inr rfl) (pe_op (k_add K) (pv 4) (pe_lst (pa_cons (pe_ix (k_idx K) (pv 7) (pe_call (okm_law_draw T) (hr.mono (by decide)) (by rfl) T.gm_law_draw T.Fm_law_draw.kp T.bm_law_draw .nil pass0 (pa_cons (pv 0) (pa_cons (pe_callB (k_len K) (by rfl) T.n_len PySem.boot_len (pa_cons (pv 7) pa_nil)) pa_nil))) (fun _ _ => rfl)) pa_nil))))
      pss_nil) pss_nil)
      pss_nil)))
      pss_nil))
      (pss_cons (ps_set (i := 8) scm_law_bent.nd rfl (Or.inl rfl) (pe_lst pa_nil))
      (pss_cons (ps_for PassesOwn.never rfl (pi_range1 rfl T.n_range (pa_cons (pv 2) pa_nil)) (pg_name (i := 6) scm_law_bent.nd rfl (Or.inl rfl)) (pss_cons (ps_if (pt_cmpR (k_eq K hr.un64) (pv 6) (pv 3) (nomark _)) (pss_cons (ps_expr (kpe_bm K PySem.F.plainAttrs_list PySem.F.slot_list_append PySem.F.type_list_append mt_append (pv 8) (pa_cons (pv 4) pa_nil)))
      pss_nil) (pss_cons (ps_expr (kpe_bm K PySem.F.plainAttrs_list PySem.F.slot_list_append PySem.F.type_list_append mt_append (pv 8) (pa_cons (pe_callTy (k_list K) (by rfl) T.n_list (by decide +kernel) (pa_cons (pe_ix (k_idx K) (pv 1) (pv 6) (fun _ _ => rfl)) pa_nil)) pa_nil)))
      pss_nil))
      pss_nil))
      (pss_cons (ps_ret (pv 8))
      pss_nil)))))))), ?_⟩
  refine start0_SN h fun F h us X P pv w0 vs' c o ev hn rl hX hk hP => ?_
  subst ev
  have hn := Nat.succ.inj hn
  obtain ⟨v_book, u_book, vs, us, rfl, rfl, hn, r_book, rl⟩ := repl1 hn rl
  obtain ⟨rfl, rfl⟩ := repl0 hn rl
  have hrt : ∀ r v H, P r → RSN _ pv r v H → Q v H := fun r v H p ⟨_, _, l, i, j, c, o, hi, hj⟩ => hP i j _ _ _ _ _ l p c o hi hj
  clear hP
  change (m_law_bent w0 u_book).Len P X at hk
  unfold m_law_bent at hk
  refine c_start [some pv, some v_book, none, none, none, none, none, none, none, none] rfl ?_
  refine c_setL (fun y => [some pv, some v_book, some y, none, none, none, none, none, none, none]) (fun _ => rfl) ?_
  refine x_val c (ev_cb nx_len (ev_var rfl r_book).u) hX hk fun u2 v1 F H c sb4 r3 hk => ?_
  replace o := o.mono sb4
  replace r_book := r_book.mono sb4
  refine c_setL (fun y => [some pv, some v_book, some v1, some y, none, none, none, none, none, none]) (fun _ => rfl) ?_
  refine c_callS rfl ?_
  refine x_callS 0 c o rfl (m := ar2 m_law_draw) ar2_n (ea_cons (ev_var rfl r3) ea_nil) hX hk fun u9 w12 v8 F h H c sb11 o r10 hk => ?_
  replace r_book := r_book.mono sb11
  replace r3 := r3.mono sb11
  refine c_setL (fun y => [some pv, some v_book, some v1, some v8, some y, none, none, none, none, none]) (fun _ => rfl) ?_
  refine x_val c (ev_cbn nx_list (ev_op2 nx_idx (ev_var rfl r_book).u (ev_var rfl r10).u).u) hX hk fun u17 v16 F H c sb19 r18 hk => ?_
  replace o := o.mono sb19
  replace r_book := r_book.mono sb19
  replace r3 := r3.mono sb19
  replace r10 := r10.mono sb19
  refine c_setL (fun y => [some pv, some v_book, some v1, some v8, some v16, some y, none, none, none, none]) (fun _ => rfl) ?_
  refine c_callS rfl ?_
  refine x_callS 0 c o rfl (m := ar2 m_law_draw) ar2_n (ea_cons ev_i ea_nil) hX hk fun u26 w29 v25 F h H c sb28 o r27 hk => ?_
  replace r_book := r_book.mono sb28
  replace r3 := r3.mono sb28
  replace r10 := r10.mono sb28
  replace r18 := r18.mono sb28
  refine x_join (J := U × U) (fun j σ F h => ∃ (v34 : V) (d35 : Option V) (d36 : Option V), σ = [some pv, some v_book, some v1, some v8, some v34, some v25, d35, d36, none, none] ∧ Own K F h [(pv, j.1)] ∧ Rep K F v34 j.2) c hk (fun D P hk kj => ?_) ?_
  · refine c_ifN ?_
    refine x_t c (et_and (et_test (ev_op2 nx_eq (ev_var rfl r27).u (ev_i).u).u) (et_test (ev_op2 nx_gt (ev_cb nx_len (ev_var rfl r18).u).u (ev_i).u).u)) hX hk fun b F H c sb45 hk => ?_
    replace o := o.mono sb45
    replace r_book := r_book.mono sb45
    replace r3 := r3.mono sb45
    replace r10 := r10.mono sb45
    replace r18 := r18.mono sb45
    replace r27 := r27.mono sb45
    refine c_way hk (fun hk => ?_) (fun hk => ?_)
    · refine c_setL (fun y => [some pv, some v_book, some v1, some v8, some v16, some v25, some y, none, none, none]) (fun _ => rfl) ?_
      refine c_callS rfl ?_
      refine x_callS 0 c o rfl (m := ar2 m_law_draw) ar2_n (ea_cons (ev_op2 nx_sub (ev_cb nx_len (ev_var rfl r18).u).u (ev_i).u) ea_nil) hX hk fun u52 w55 v51 F h H c sb54 o r53 hk => ?_
      replace r_book := r_book.mono sb54
      replace r3 := r3.mono sb54
      replace r10 := r10.mono sb54
      replace r18 := r18.mono sb54
      replace r27 := r27.mono sb54
      refine c_setL (fun y => [some pv, some v_book, some v1, some v8, some y, some v25, some v51, none, none, none]) (fun _ => rfl) ?_
      refine x_val c (ev_on2 nx_add (ev_on2 nx_add (ev_sl (ev_var rfl r18).u eo_none (eo_some (ev_var rfl r53).u)).u (ev_lst (ea_cons (ev_op2 nx_idx (ev_var rfl r18).u (ev_on2 nx_add (ev_var rfl r53).u (ev_i).u).u) (ea_cons (ev_op2 nx_idx (ev_var rfl r18).u (ev_var rfl r53).u) ea_nil))).u).u (ev_sl (ev_var rfl r18).u (eo_some (ev_on2 nx_add (ev_var rfl r53).u (ev_i).u).u) eo_none).u) hX hk fun u60 v59 F H c sb62 r61 hk => ?_
      replace o := o.mono sb62
      replace r_book := r_book.mono sb62
      replace r3 := r3.mono sb62
      replace r10 := r10.mono sb62
      replace r18 := r18.mono sb62
      replace r27 := r27.mono sb62
      replace r53 := r53.mono sb62
      refine c_nx ?_
      exact kj _ _ _ _ _ hk c (sb45.trans (sb54.trans sb62)) ⟨_, _, _, rfl, o, r61⟩
    · refine c_if ?_
      refine x_t c (et_test (ev_op2 nx_eq (ev_var rfl r27).u (ev_i).u).u) hX hk fun b F H c sb89 hk => ?_
      replace o := o.mono sb89
      replace r_book := r_book.mono sb89
      replace r3 := r3.mono sb89
      replace r10 := r10.mono sb89
      replace r18 := r18.mono sb89
      replace r27 := r27.mono sb89
      refine c_way hk (fun hk => ?_) (fun hk => ?_)
      · refine c_setL (fun y => [some pv, some v_book, some v1, some v8, some y, some v25, none, none, none, none]) (fun _ => rfl) ?_
        refine c_sl ?_
        refine x_val c (ev_var rfl r18) hX hk fun u92 v91 F H c sb94 r93 hk => ?_
        replace o := o.mono sb94
        replace r_book := r_book.mono sb94
        replace r3 := r3.mono sb94
        replace r10 := r10.mono sb94
        replace r18 := r18.mono sb94
        replace r27 := r27.mono sb94
        refine c_nopart ?_
        refine c_part ?_
        refine c_callS rfl ?_
        refine x_callS 0 c o rfl (m := ar2 m_law_draw) ar2_n (ea_cons (ev_on2 nx_add (ev_cb nx_len (ev_var rfl r18).u).u (ev_i).u) ea_nil) hX hk fun u100 w103 v99 F h H c sb102 o r101 hk => ?_
        replace r_book := r_book.mono sb102
        replace r3 := r3.mono sb102
        replace r10 := r10.mono sb102
        replace r18 := r18.mono sb102
        replace r27 := r27.mono sb102
        replace r93 := r93.mono sb102
        refine x_part c (.inl r101) hk fun i106 hk => ?_
        refine x_sl c (.inl r93) hk fun u108 v107 F H c sb110 r109 hk => ?_
        replace o := o.mono sb110
        replace r_book := r_book.mono sb110
        replace r3 := r3.mono sb110
        replace r10 := r10.mono sb110
        replace r18 := r18.mono sb110
        replace r27 := r27.mono sb110
        refine c_nx2 ?_
        refine c_nx ?_
        exact kj _ _ _ _ _ hk c (sb45.trans (sb89.trans (sb94.trans (sb102.trans sb110)))) ⟨_, _, _, rfl, o, r109⟩
      · refine c_setL (fun y => [some pv, some v_book, some v1, some v8, some v16, some v25, none, some y, none, none]) (fun _ => rfl) ?_
        refine x_val c (ev_lc (ei_rng1 (ev_var rfl r3).u) (fun _ _ => trivial) (ec_if (fun _ => rfl) (fun x120 v121 F123 H124 r122 sb125 => (et_and (et_test (ev_op2 nx_ne (ev_var rfl r122).u (ev_var rfl (r10.mono sb125)).u).u) (et_test (ev_op2 nx_notin (ev_var rfl r122).u (ev_var rfl (r18.mono sb125)).u).u))) (fun x120 v121 F123 H124 r122 sb125 => (ev_var rfl r122)))) hX hk fun u116 v115 F H c sb118 r117 hk => ?_
        replace o := o.mono sb118
        replace r_book := r_book.mono sb118
        replace r3 := r3.mono sb118
        replace r10 := r10.mono sb118
        replace r18 := r18.mono sb118
        replace r27 := r27.mono sb118
        refine c_if ?_
        refine x_t c (et_test (ev_op2 nx_gt (ev_cb nx_len (ev_var rfl r117).u).u (ev_i).u).u) hX hk fun b F H c sb142 hk => ?_
        replace o := o.mono sb142
        replace r_book := r_book.mono sb142
        replace r3 := r3.mono sb142
        replace r10 := r10.mono sb142
        replace r18 := r18.mono sb142
        replace r27 := r27.mono sb142
        replace r117 := r117.mono sb142
        refine c_way hk (fun hk => ?_) (fun hk => ?_)
        · refine c_setL (fun y => [some pv, some v_book, some v1, some v8, some y, some v25, none, some v115, none, none]) (fun _ => rfl) ?_
          refine c_op2 ?_
          refine x_val c (ev_var rfl r18) hX hk fun u145 v144 F H c sb147 r146 hk => ?_
          replace o := o.mono sb147
          replace r_book := r_book.mono sb147
          replace r3 := r3.mono sb147
          replace r10 := r10.mono sb147
          replace r18 := r18.mono sb147
          replace r27 := r27.mono sb147
          replace r117 := r117.mono sb147
          refine c_lst ?_
          refine c_cons ?_
          refine c_op2 ?_
          refine x_val c (ev_var rfl r117) hX hk fun u149 v148 F H c sb151 r150 hk => ?_
          replace o := o.mono sb151
          replace r_book := r_book.mono sb151
          replace r3 := r3.mono sb151
          replace r10 := r10.mono sb151
          replace r18 := r18.mono sb151
          replace r27 := r27.mono sb151
          replace r117 := r117.mono sb151
          replace r146 := r146.mono sb151
          refine c_callS rfl ?_
          refine x_callS 0 c o rfl (m := ar2 m_law_draw) ar2_n (ea_cons (ev_cb nx_len (ev_var rfl r117).u) ea_nil) hX hk fun u155 w158 v154 F h H c sb157 o r156 hk => ?_
          replace r_book := r_book.mono sb157
          replace r3 := r3.mono sb157
          replace r10 := r10.mono sb157
          replace r18 := r18.mono sb157
          replace r27 := r27.mono sb157
          replace r117 := r117.mono sb157
          replace r146 := r146.mono sb157
          replace r150 := r150.mono sb157
          refine x_ap2 c nx_idx (.inl r150) (.inl r156) hk fun u162 v161 F H c sb164 r163 hk => ?_
          replace o := o.mono sb164
          replace r_book := r_book.mono sb164
          replace r3 := r3.mono sb164
          replace r10 := r10.mono sb164
          replace r18 := r18.mono sb164
          replace r27 := r27.mono sb164
          replace r117 := r117.mono sb164
          replace r146 := r146.mono sb164
          refine c_nil ?_
          refine x_mkL (vs := [v161]) c (.cons r163 .nil) hk fun u168 v167 F H c sb170 r169 hk => ?_
          replace o := o.mono sb170
          replace r_book := r_book.mono sb170
          replace r3 := r3.mono sb170
          replace r10 := r10.mono sb170
          replace r18 := r18.mono sb170
          replace r27 := r27.mono sb170
          replace r117 := r117.mono sb170
          replace r146 := r146.mono sb170
          refine x_apn2 c nx_add (.inl r146) (.inl r169) hk fun u172 v171 F H c sb174 r173 hk => ?_
          replace o := o.mono sb174
          replace r_book := r_book.mono sb174
          replace r3 := r3.mono sb174
          replace r10 := r10.mono sb174
          replace r18 := r18.mono sb174
          replace r27 := r27.mono sb174
          replace r117 := r117.mono sb174
          refine c_nx2 ?_
          refine c_nx2 ?_
          refine c_nx ?_
          exact kj _ _ _ _ _ hk c (sb45.trans (sb89.trans (sb118.trans (sb142.trans (sb147.trans (sb151.trans (sb157.trans (sb164.trans (sb170.trans sb174))))))))) ⟨_, _, _, rfl, o, r173⟩
        · refine c_nx2 ?_
          refine c_nx2 ?_
          refine c_nx ?_
          exact kj _ _ _ _ _ hk c (sb45.trans (sb89.trans (sb118.trans sb142))) ⟨_, _, _, rfl, o, r18⟩
  rintro j _ F h H c sb179 ⟨v34, d35, d36, rfl, o, r180⟩ hk
  replace r_book := r_book.mono sb179
  replace r3 := r3.mono sb179
  replace r10 := r10.mono sb179
  replace r18 := r18.mono sb179
  replace r27 := r27.mono sb179
  refine c_setL (fun y => [some pv, some v_book, some v1, some v8, some v34, some v25, d35, d36, some y, none]) (fun _ => rfl) ?_
  refine x_new c o (en_lst ea_nil) hX hk fun u183 v182 F h H c sb184 o hk => ?_
  replace r_book := r_book.mono sb184
  replace r3 := r3.mono sb184
  replace r10 := r10.mono sb184
  replace r180 := r180.mono sb184
  replace r27 := r27.mono sb184
  refine x_forF (S := U) (fun s σ F h => ∃ (d189 : Option V), σ = [some pv, some v_book, some v1, some v8, some v34, some v25, d189, d36, some v182, none] ∧ Own K F h [(v182, s), (pv, j.1)]) _ c (ei_rng1 (ev_var rfl r3).u) hX hk (fun F1 sb => ⟨_, rfl, o.mono sb⟩) (fun _ _ _ _ _ => trivial) (fun s190 u195 v192 σ F h H c sb194 a r193 D P hk kn kb hrt => ?_) (fun s190 σ F h H c sb194 a hk => ?_) (fun r v H q rr => hrt r v H q rr)
  · obtain ⟨d189, rfl, o⟩ := a
    refine c_gn [some pv, some v_book, some v1, some v8, some v34, some v25, some v192, d36, some v182, none] rfl ?_
    unfold m_law_bent_loop1 at hk
    replace r_book := r_book.mono sb194
    replace r3 := r3.mono sb194
    replace r10 := r10.mono sb194
    replace r180 := r180.mono sb194
    replace r27 := r27.mono sb194
    refine c_if ?_
    refine x_t c (et_test (ev_op2 nx_eq (ev_var rfl r193).u (ev_var rfl r10).u).u) hX hk fun b F H c sb199 hk => ?_
    replace o := o.mono sb199
    replace r_book := r_book.mono sb199
    replace r3 := r3.mono sb199
    replace r10 := r10.mono sb199
    replace r180 := r180.mono sb199
    replace r27 := r27.mono sb199
    replace r193 := r193.mono sb199
    refine c_way hk (fun hk => ?_) (fun hk => ?_)
    · refine x_ty (j := 0) c o rfl hk fun ty hk => ?_
      refine c_app rfl ty ?_
      refine x_val c (ev_var rfl r180) hX hk fun u202 v201 F H c sb204 r203 hk => ?_
      replace o := o.mono sb204
      replace r_book := r_book.mono sb204
      replace r3 := r3.mono sb204
      replace r10 := r10.mono sb204
      replace r180 := r180.mono sb204
      replace r27 := r27.mono sb204
      replace r193 := r193.mono sb204
      refine (x_app 0 c o rfl r203 hk fun w205 h H c o hk => ?_).2
      refine c_nx2 ?_
      refine c_nx ?_
      exact (kn _ _ _ _ _ hk c (sb199.trans sb204) ⟨_, rfl, o⟩).1
    · refine x_ty (j := 0) c o rfl hk fun ty hk => ?_
      refine c_app rfl ty ?_
      refine x_val c (ev_cbn nx_list (ev_op2 nx_idx (ev_var rfl r_book).u (ev_var rfl r193).u).u) hX hk fun u209 v208 F H c sb211 r210 hk => ?_
      replace o := o.mono sb211
      replace r_book := r_book.mono sb211
      replace r3 := r3.mono sb211
      replace r10 := r10.mono sb211
      replace r180 := r180.mono sb211
      replace r27 := r27.mono sb211
      replace r193 := r193.mono sb211
      refine (x_app 0 c o rfl r210 hk fun w215 h H c o hk => ?_).2
      refine c_nx2 ?_
      refine c_nx ?_
      exact (kn _ _ _ _ _ hk c (sb199.trans sb211) ⟨_, rfl, o⟩).1
  obtain ⟨d189, rfl, o⟩ := a
  replace r_book := r_book.mono sb194
  replace r3 := r3.mono sb194
  replace r10 := r10.mono sb194
  replace r180 := r180.mono sb194
  replace r27 := r27.mono sb194
  refine c_ret ?_
  refine c_var rfl ?_
  exact hrt _ _ _ hk ⟨_, _, _, 0, 0, c, o, rfl, rfl⟩
def Nm_law_book : List Str := ["state", "size", "book", "place", "left", "card", "turn", "pick", "other"]
def Ppm_law_book : List Str := ["state", "size"]
theorem scm_law_book : FnScope Nm_law_book Ppm_law_book (defScope sm_law_book) := ⟨rfl, rfl, rfl, by decide +kernel, rfl, by decide +kernel, by decide +kernel⟩
theorem okm_law_book {P : Program} {w : World} {K : PySem.W.Frag} {mg : Str → Option Value} {base : Heap} {A : Ad} (T : Txt K mg A) : FnOk P w K mg base CX0 3 A.am_law_book A.dm_law_book Ppm_law_book (SpSN K noX 2 (ar2 m_law_book)) := by
  refine T.Fm_law_book.ok scm_law_book (fun vs H Q E h => h.len) (fun cdv A outer s H vs Q E hr h => ?_)
  refine ⟨_, (pss_cons (ps_set (i := 2) scm_law_book.nd rfl (Or.inl rfl) (pe_lst pa_nil))
      (pss_cons (ps_for PassesOwn.never rfl (pi_range1 rfl T.n_range (pa_cons (pv 1) pa_nil)) (pg_name (i := 3) scm_law_book.nd rfl (Or.inr rfl)) (pss_cons (ps_setLc (i := 4) (own := [("other", 8)]) (g := (gName 8)) rfl scm_law_book.nd rfl rfl (sw_true rfl rfl rfl (by decide +kernel)) (pi_range1 rfl T.n_range (pa_cons (pv 1) pa_nil)) (blkOk_by (N := Nm_law_book) (sc := defScope sm_law_book) (by decide +kernel)) (fun _ _ _ _ _ => pg_name (i := 8) scm_law_book.nd rfl (Or.inl rfl)) (fun _ _ _ _ _ => pts_one (pt_cmpR (k_ne K hr.un64) (pv 8) (pv 3) (nomark _))) (fun _ _ _ _ _ => (pv 8)))
      (pss_cons (ps_set (i := 5) scm_law_book.nd rfl (Or.inl rfl) (pe_lst pa_nil))
      (pss_cons (ps_for PassesOwn.never rfl (pi_range1 rfl T.n_range (pa_cons (pe_op (k_sub K) (pv 1) pe_int) pa_nil)) (pg_name (i := 6) scm_law_book.nd rfl (Or.inl rfl)) (pss_cons (ps_set (i := 7) scm_law_book.nd rfl (Or.inl rfl) (pe_call (okm_law_draw T) (hr.mono (by decide)) (by rfl) T.gm_law_draw T.Fm_law_draw.kp T.bm_law_draw .nil pass0 (pa_cons (pv 0) (pa_cons (pe_op (k_add K) (pe_callB (k_len K) (by rfl) T.n_len PySem.boot_len (pa_cons (pv 4) pa_nil)) pe_int) pa_nil))))
      (pss_cons (ps_if (pt_cmpR (k_eq K hr.un64) (pv 7) (pe_callB (k_len K) (by rfl) T.n_len PySem.boot_len (pa_cons (pv 4) pa_nil)) (nomark _)) (pss_cons ps_break
      pss_nil) pss_nil)
      (pss_cons (ps_expr (kpe_bm K PySem.F.plainAttrs_list PySem.F.slot_list_append PySem.F.type_list_append mt_append (pv 5) (pa_cons (kpe_bm K PySem.F.plainAttrs_list PySem.F.slot_list_pop PySem.F.type_list_pop mt_popAt (pv 4) (pa_cons (pv 7) pa_nil)) pa_nil)))
      pss_nil))))
      (pss_cons (ps_expr (kpe_bm K PySem.F.plainAttrs_list PySem.F.slot_list_append PySem.F.type_list_append mt_append (pv 2) (pa_cons (pv 5) pa_nil)))
      pss_nil)))))
      (pss_cons (ps_ret (pv 2))
      pss_nil))), ?_⟩
  refine start0_SN h fun F h us X P pv w0 vs' c o ev hn rl hX hk hP => ?_
  subst ev
  have hn := Nat.succ.inj hn
  obtain ⟨v_size, u_size, vs, us, rfl, rfl, hn, r_size, rl⟩ := repl1 hn rl
  obtain ⟨rfl, rfl⟩ := repl0 hn rl
  have hrt : ∀ r v H, P r → RSN _ pv r v H → Q v H := fun r v H p ⟨_, _, l, i, j, c, o, hi, hj⟩ => hP i j _ _ _ _ _ l p c o hi hj
  clear hP
  change (m_law_book w0 u_size).Len P X at hk
  unfold m_law_book at hk
  refine c_start [some pv, some v_size, none, none, none, none, none, none, none] rfl ?_
  refine c_setL (fun y => [some pv, some v_size, some y, none, none, none, none, none, none]) (fun _ => rfl) ?_
  refine x_new c o (en_lst ea_nil) hX hk fun u2 v1 F h H c sb3 o hk => ?_
  replace r_size := r_size.mono sb3
  refine x_forF (S := U × U) (fun s σ F h => ∃ (d8 : Option V) (d9 : Option V) (d10 : Option V) (d11 : Option V) (d12 : Option V), σ = [some pv, some v_size, some v1, d8, d9, d10, d11, d12, none] ∧ Own K F h [(v1, s.2), (pv, s.1)]) _ c (ei_rng1 (ev_var rfl r_size).u) hX hk (fun F1 sb => ⟨_, _, _, _, _, rfl, o.mono sb⟩) (fun _ _ _ _ _ => trivial) (fun s13 u18 v15 σ F h H c sb17 a r16 D P hk kn kb hrt => ?_) (fun s13 σ F h H c sb17 a hk => ?_) (fun r v H q rr => hrt r v H q rr)
  · obtain ⟨d8, d9, d10, d11, d12, rfl, o⟩ := a
    refine c_gn [some pv, some v_size, some v1, some v15, d9, d10, d11, d12, none] rfl ?_
    unfold m_law_book_loop1 at hk
    replace r_size := r_size.mono sb17
    refine c_setL (fun y => [some pv, some v_size, some v1, some v15, some y, d10, d11, d12, none]) (fun _ => rfl) ?_
    refine x_new c o (en_lc (ei_rng1 (ev_var rfl r_size).u) (fun _ _ => trivial) (ec_if (fun _ => rfl) (fun x20 v21 F23 H24 r22 sb25 => (et_test (ev_op2 nx_ne (ev_var rfl r22).u (ev_var rfl (r16.mono sb25)).u).u)) (fun x20 v21 F23 H24 r22 sb25 => (ev_var rfl r22)))) hX hk fun u34 v33 F h H c sb35 o hk => ?_
    replace r_size := r_size.mono sb35
    replace r16 := r16.mono sb35
    refine c_setL (fun y => [some pv, some v_size, some v1, some v15, some v33, some y, d11, d12, none]) (fun _ => rfl) ?_
    refine x_new c o (en_lst ea_nil) hX hk fun u40 v39 F h H c sb41 o hk => ?_
    replace r_size := r_size.mono sb41
    replace r16 := r16.mono sb41
    refine x_forF (S := U × U × U) (fun s σ F h => ∃ (d48 : Option V) (d49 : Option V), σ = [some pv, some v_size, some v1, some v15, some v33, some v39, d48, d49, none] ∧ Own K F h [(v39, s.2.2), (v33, s.2.1), (v1, s13.2), (pv, s.1)]) _ c (ei_rng1 (ev_op2 nx_sub (ev_var rfl r_size).u (ev_i).u).u) hX hk (fun F1 sb => ⟨_, _, rfl, o.mono sb⟩) (fun _ _ _ _ _ => trivial) (fun s50 u55 v52 σ F h H c sb54 a r53 D P hk kn kb hrt => ?_) (fun s50 σ F h H c sb54 a hk => ?_) (fun r v H q rr => hrt r v H q rr)
    · obtain ⟨d48, d49, rfl, o⟩ := a
      refine c_gn [some pv, some v_size, some v1, some v15, some v33, some v39, some v52, d49, none] rfl ?_
      unfold m_law_book_loop2 at hk
      replace r_size := r_size.mono sb54
      replace r16 := r16.mono sb54
      refine c_setL (fun y => [some pv, some v_size, some v1, some v15, some v33, some v39, some v52, some y, none]) (fun _ => rfl) ?_
      refine c_callS rfl ?_
      refine x_callS 3 c o rfl (m := ar2 m_law_draw) ar2_n (ea_cons (ev_on2 nx_add (ev_cb nx_len (ev_own rfl (o.read (i := 1) rfl))).u (ev_i).u) ea_nil) hX hk fun u61 w64 v60 F h H c sb63 o r62 hk => ?_
      replace r_size := r_size.mono sb63
      replace r16 := r16.mono sb63
      replace r53 := r53.mono sb63
      refine c_if ?_
      refine x_t c (et_test (ev_op2 nx_eq (ev_var rfl r62).u (ev_cb nx_len (ev_own rfl (o.read (i := 2) rfl))).u).u) hX hk fun b F H c sb72 hk => ?_
      replace o := o.mono sb72
      replace r_size := r_size.mono sb72
      replace r16 := r16.mono sb72
      replace r53 := r53.mono sb72
      replace r62 := r62.mono sb72
      refine c_way hk (fun hk => ?_) (fun hk => ?_)
      · refine c_brk ?_
        replace o := o.front 3 rfl
        replace o := o.front 3 rfl
        replace o := o.front 3 rfl
        exact kb _ _ _ _ _ hk c (sb63.trans sb72) ⟨_, _, rfl, o⟩
      · refine c_nx2 ?_
        refine x_ty (j := 1) c o rfl hk fun ty hk => ?_
        refine c_app rfl ty ?_
        refine x_ty (j := 2) c o rfl hk fun ty hk => ?_
        refine c_bm rfl ty ?_
        refine x_val c (ev_var rfl r62) hX hk fun u75 v74 F H c sb77 r76 hk => ?_
        replace o := o.mono sb77
        replace r_size := r_size.mono sb77
        replace r16 := r16.mono sb77
        replace r53 := r53.mono sb77
        replace r62 := r62.mono sb77
        refine x_popAt 2 c o rfl (.inl r76) hk fun u79 w81 v78 h H c o r80 hk => ?_
        refine (x_app 1 c o rfl r80 hk fun w85 h H c o hk => ?_).2
        refine c_nx ?_
        replace o := o.front 3 rfl
        replace o := o.front 3 rfl
        replace o := o.front 3 rfl
        exact (kn _ _ _ _ _ hk c (sb63.trans (sb72.trans sb77)) ⟨_, _, rfl, o⟩).1
    obtain ⟨d48, d49, rfl, o⟩ := a
    replace r_size := r_size.mono sb54
    replace r16 := r16.mono sb54
    refine x_frz 0 c o rfl fun F h c sb92 o r91 => ?_
    replace r_size := r_size.mono sb92
    replace r16 := r16.mono sb92
    refine x_ty (j := 1) c o rfl hk fun ty hk => ?_
    refine c_app rfl ty ?_
    refine x_val c (ev_var rfl r91) hX hk fun u94 v93 F H c sb96 r95 hk => ?_
    replace o := o.mono sb96
    replace r_size := r_size.mono sb96
    replace r16 := r16.mono sb96
    replace r91 := r91.mono sb96
    refine (x_app 1 c o rfl r95 hk fun w97 h H c o hk => ?_).2
    refine c_nx ?_
    refine x_drop 0 c o rfl fun h c o => ?_
    exact (kn _ _ _ _ _ hk c (sb35.trans (sb41.trans (sb54.trans (sb92.trans sb96)))) ⟨_, _, _, _, _, rfl, o⟩).1
  obtain ⟨d8, d9, d10, d11, d12, rfl, o⟩ := a
  replace r_size := r_size.mono sb17
  refine c_ret ?_
  refine c_var rfl ?_
  exact hrt _ _ _ hk ⟨_, _, _, 0, 0, c, o, rfl, rfl⟩
def Nm_law_sorted : List Str := ["nodes", "rows", "node", "row"]
def Ppm_law_sorted : List Str := ["nodes"]
theorem scm_law_sorted : FnScope Nm_law_sorted Ppm_law_sorted (defScope sm_law_sorted) := ⟨rfl, rfl, rfl, by decide +kernel, rfl, by decide +kernel, by decide +kernel⟩
theorem okm_law_sorted {P : Program} {w : World} {K : PySem.W.Frag} {mg : Str → Option Value} {base : Heap} {A : Ad} (T : Txt K mg A) : FnOk P w K mg base CX0 2 A.am_law_sorted A.dm_law_sorted Ppm_law_sorted (SpN K noX 1 (ar1 m_law_sorted)) := by
  refine T.Fm_law_sorted.ok scm_law_sorted (fun vs H Q E h => h.len) (fun cdv A outer s H vs Q E hr h => ?_)
  refine ⟨_, (pss_cons (ps_set (i := 1) scm_law_sorted.nd rfl (Or.inl rfl) (pe_callB (k_sortedD K hr.un200) (by rfl) T.n_sorted (by decide +kernel) (pa_cons (pe_lc (own := [("node", 2)]) (g := (gName 2)) rfl scm_law_sorted.nd (kpi_seq K (pv 0)) (blkOk_by (N := Nm_law_sorted) (sc := defScope sm_law_sorted) (by decide +kernel)) (fun _ _ _ _ _ => pg_name (i := 2) scm_law_sorted.nd rfl (Or.inl rfl)) (fun _ _ _ _ _ => pts_nil) (fun _ _ _ _ _ => (pe_tup (pa_cons (pe_callB (k_len K) (by rfl) T.n_len PySem.boot_len (pa_cons (pe_ix (k_idx K) (pv 2) pe_int (fun _ _ => rfl)) pa_nil)) (pa_cons (pe_ix (k_idx K) (pv 2) pe_int (fun _ _ => rfl)) (pa_cons (pe_ix (k_idx K) (pv 2) pe_int (fun _ _ => rfl)) pa_nil)))))) pa_nil)))
      (pss_cons (ps_ret (pe_lc (own := [("row", 3)]) (g := (gName 3)) rfl scm_law_sorted.nd (kpi_seq K (pv 1)) (blkOk_by (N := Nm_law_sorted) (sc := defScope sm_law_sorted) (by decide +kernel)) (fun _ _ _ _ _ => pg_name (i := 3) scm_law_sorted.nd rfl (Or.inl rfl)) (fun _ _ _ _ _ => pts_nil) (fun _ _ _ _ _ => (pe_tup (pa_cons (pe_ix (k_idx K) (pv 3) pe_int (fun _ _ => rfl)) (pa_cons (pe_ix (k_idx K) (pv 3) pe_int (fun _ _ => rfl)) pa_nil))))))
      pss_nil)), ?_⟩
  refine start0_N h fun F us X P c o hn rl hX hk hP => ?_
  obtain ⟨v_nodes, u_nodes, vs, us, rfl, rfl, hn, r_nodes, rl⟩ := repl1 hn rl
  obtain ⟨rfl, rfl⟩ := repl0 hn rl
  have hrt : ∀ r v H, P r → RN _ r v H → Q v H := fun r v H p ⟨_, _, l, j, c, o, hj⟩ => hP j _ _ _ _ _ l p c o hj
  clear hP
  change (m_law_sorted u_nodes).Len P X at hk
  unfold m_law_sorted at hk
  refine c_start [some v_nodes, none, none, none] rfl ?_
  refine c_setL (fun y => [some v_nodes, some y, none, none]) (fun _ => rfl) ?_
  refine x_val c (ev_cbn nx_sortedD (ev_lc (ei_seq (ev_var rfl r_nodes)) (fun _ _ => trivial) (ec_all (fun _ => rfl) (fun x6 v7 F9 H10 r8 sb11 => (ev_tup (ea_cons (ev_cb nx_len (ev_op2 nx_idx (ev_var rfl r8).u (ev_i).u).u) (ea_cons (ev_op2 nx_idx (ev_var rfl r8).u (ev_i).u) (ea_cons (ev_op2 nx_idx (ev_var rfl r8).u (ev_i).u) ea_nil))))))).u) hX hk fun u2 v1 F H c sb4 r3 hk => ?_
  replace o := o.mono sb4
  replace r_nodes := r_nodes.mono sb4
  refine c_ret ?_
  refine x_new c o (en_lc (ei_seq (ev_var rfl r3)) (fun _ _ => trivial) (ec_all (fun _ => rfl) (fun x28 v29 F31 H32 r30 sb33 => (ev_tup (ea_cons (ev_op2 nx_idx (ev_var rfl r30).u (ev_i).u) (ea_cons (ev_op2 nx_idx (ev_var rfl r30).u (ev_i).u) ea_nil)))))) hX hk fun u44 v43 F h H c sb45 o hk => ?_
  replace r_nodes := r_nodes.mono sb45
  replace r3 := r3.mono sb45
  exact hrt _ _ _ hk ⟨_, _, _, 0, c, o, rfl⟩
def Nm_law_top_at : List Str := ["tops", "place", "k"]
def Ppm_law_top_at : List Str := ["tops", "place"]
theorem scm_law_top_at : FnScope Nm_law_top_at Ppm_law_top_at (defScope sm_law_top_at) := ⟨rfl, rfl, rfl, by decide +kernel, rfl, by decide +kernel, by decide +kernel⟩
theorem okm_law_top_at {P : Program} {w : World} {K : PySem.W.Frag} {mg : Str → Option Value} {base : Heap} {A : Ad} (T : Txt K mg A) : FnOk P w K mg base CX0 2 A.am_law_top_at A.dm_law_top_at Ppm_law_top_at (SpF K noX 2 (ar2 m_law_top_at)) := by
  refine T.Fm_law_top_at.ok scm_law_top_at (fun vs H Q E h => h.len) (fun cdv A outer s H vs Q E hr h => ?_)
  refine ⟨_, (pss_cons (ps_for PassesOwn.never rfl (pi_range1 rfl T.n_range (pa_cons (pe_callB (k_len K) (by rfl) T.n_len PySem.boot_len (pa_cons (pv 0) pa_nil)) pa_nil)) (pg_name (i := 2) scm_law_top_at.nd rfl (Or.inl rfl)) (pss_cons (ps_if (pt_cmpR (k_in K hr.un65) (pv 1) (pe_ix (k_idx K) (pe_ix (k_idx K) (pv 0) (pv 2) (fun _ _ => rfl)) pe_int (fun _ _ => rfl)) (by rfl)) (pss_cons (ps_ret (pv 2))
      pss_nil) pss_nil)
      pss_nil))
      (pss_cons (ps_ret (pe_un (k_neg K) pe_int))
      pss_nil)), ?_⟩
  refine start0_F h fun F us X P c o hn rl hX hk hP => ?_
  obtain ⟨v_tops, u_tops, vs, us, rfl, rfl, hn, r_tops, rl⟩ := repl1 hn rl
  obtain ⟨v_place, u_place, vs, us, rfl, rfl, hn, r_place, rl⟩ := repl1 hn rl
  obtain ⟨rfl, rfl⟩ := repl0 hn rl
  have hrt : ∀ r v H, P r → RV _ r v H → Q v H := fun r v H p ⟨_, _, c, q⟩ => hP _ _ _ _ _ p c q
  clear hP
  change (m_law_top_at u_tops u_place).Len P X at hk
  unfold m_law_top_at at hk
  refine c_start [some v_tops, some v_place, none] rfl ?_
  refine x_forF (S := Unit) (fun s σ F h => ∃ (d3 : Option V), σ = [some v_tops, some v_place, d3] ∧ Own K F h []) _ c (ei_rng1 (ev_cb nx_len (ev_var rfl r_tops).u).u) hX hk (fun F1 sb => ⟨_, rfl, o.mono sb⟩) (fun _ _ _ _ _ => trivial) (fun s4 u9 v6 σ F h H c sb8 a r7 D P hk kn kb hrt => ?_) (fun s4 σ F h H c sb8 a hk => ?_) (fun r v H q rr => hrt r v H q rr)
  · obtain ⟨d3, rfl, o⟩ := a
    refine c_gn [some v_tops, some v_place, some v6] rfl ?_
    unfold m_law_top_at_loop1 at hk
    replace r_tops := r_tops.mono sb8
    replace r_place := r_place.mono sb8
    refine c_if ?_
    refine x_t c (et_test (ev_op2 nx_in (ev_var rfl r_place).u (ev_op2 nx_idx (ev_op2 nx_idx (ev_var rfl r_tops).u (ev_var rfl r7).u).u (ev_i).u).u).u) hX hk fun b F H c sb17 hk => ?_
    replace o := o.mono sb17
    replace r_tops := r_tops.mono sb17
    replace r_place := r_place.mono sb17
    replace r7 := r7.mono sb17
    refine c_way hk (fun hk => ?_) (fun hk => ?_)
    · refine c_ret ?_
      refine x_val c (ev_var rfl r7) hX hk fun u20 v19 F H c sb22 r21 hk => ?_
      replace o := o.mono sb22
      replace r_tops := r_tops.mono sb22
      replace r_place := r_place.mono sb22
      replace r7 := r7.mono sb22
      exact hrt _ _ _ hk ⟨_, _, c, r21⟩
    · refine c_nx2 ?_
      refine c_nx ?_
      exact (kn _ _ _ _ _ hk c sb17 ⟨_, rfl, o⟩).1
  obtain ⟨d3, rfl, o⟩ := a
  replace r_tops := r_tops.mono sb8
  replace r_place := r_place.mono sb8
  refine c_ret ?_
  refine x_val c (ev_un nx_neg (ev_i).u) hX hk fun u28 v27 F H c sb30 r29 hk => ?_
  replace o := o.mono sb30
  replace r_tops := r_tops.mono sb30
  replace r_place := r_place.mono sb30
  exact hrt _ _ _ hk ⟨_, _, c, r29⟩
def Nm_law_circle : List Str := ["tops", "first", "row", "turn", "gate", "after"]
def Ppm_law_circle : List Str := ["tops"]
theorem scm_law_circle : FnScope Nm_law_circle Ppm_law_circle (defScope sm_law_circle) := ⟨rfl, rfl, rfl, by decide +kernel, rfl, by decide +kernel, by decide +kernel⟩
theorem okm_law_circle {P : Program} {w : World} {K : PySem.W.Frag} {mg : Str → Option Value} {base : Heap} {A : Ad} (T : Txt K mg A) : FnOk P w K mg base CX0 3 A.am_law_circle A.dm_law_circle Ppm_law_circle (SpN K noX 1 (ar1 m_law_circle)) := by
  refine T.Fm_law_circle.ok scm_law_circle (fun vs H Q E h => h.len) (fun cdv A outer s H vs Q E hr h => ?_)
  refine ⟨_, (pss_cons (ps_for PassesOwn.never rfl (pi_range1 rfl T.n_range (pa_cons (pe_callB (k_len K) (by rfl) T.n_len PySem.boot_len (pa_cons (pv 0) pa_nil)) pa_nil)) (pg_name (i := 1) scm_law_circle.nd rfl (Or.inl rfl)) (pss_cons (ps_set (i := 2) scm_law_circle.nd rfl (Or.inl rfl) (pe_lst (pa_cons (pv 1) pa_nil)))
      (pss_cons (ps_for PassesOwn.never rfl (pi_range1 rfl T.n_range (pa_cons (pe_callB (k_len K) (by rfl) T.n_len PySem.boot_len (pa_cons (pv 0) pa_nil)) pa_nil)) (pg_name (i := 3) scm_law_circle.nd rfl (Or.inl rfl)) (pss_cons (ps_set (i := 4) scm_law_circle.nd rfl (Or.inl rfl) (pe_ix (k_idx K) (pe_ix (k_idx K) (pv 0) (pe_ix (k_idx K) (pv 2) (pe_un (k_neg K) pe_int) (fun _ _ => rfl)) (fun _ _ => rfl)) pe_int (fun _ _ => rfl)))
      (pss_cons (ps_if (pt_cmpR (k_lt K) (pv 4) pe_int (nomark _)) (pss_cons ps_break
      pss_nil) pss_nil)
      (pss_cons (ps_set (i := 5) scm_law_circle.nd rfl (Or.inl rfl) (pe_call (okm_law_top_at T) (hr.mono (by decide)) (by rfl) T.gm_law_top_at T.Fm_law_top_at.kp T.bm_law_top_at .nil pass0 (pa_cons (pv 0) (pa_cons (pv 4) pa_nil))))
      (pss_cons (ps_if (pt_cmpR (k_eq K hr.un64) (pv 5) (pv 1) (nomark _)) (pss_cons (ps_ret (pv 2))
      pss_nil) pss_nil)
      (pss_cons (ps_if (pt_cmpR (k_in K hr.un65) (pv 5) (pv 2) (by rfl)) (pss_cons ps_break
      pss_nil) pss_nil)
      (pss_cons (ps_expr (kpe_bm K PySem.F.plainAttrs_list PySem.F.slot_list_append PySem.F.type_list_append mt_append (pv 2) (pa_cons (pv 5) pa_nil)))
      pss_nil)))))))
      pss_nil)))
      (pss_cons (ps_ret (pe_lst pa_nil))
      pss_nil)), ?_⟩
  refine start0_N h fun F us X P c o hn rl hX hk hP => ?_
  obtain ⟨v_tops, u_tops, vs, us, rfl, rfl, hn, r_tops, rl⟩ := repl1 hn rl
  obtain ⟨rfl, rfl⟩ := repl0 hn rl
  have hrt : ∀ r v H, P r → RN _ r v H → Q v H := fun r v H p ⟨_, _, l, j, c, o, hj⟩ => hP j _ _ _ _ _ l p c o hj
  clear hP
  change (m_law_circle u_tops).Len P X at hk
  unfold m_law_circle at hk
  refine c_start [some v_tops, none, none, none, none, none] rfl ?_
  refine x_forF (S := Unit) (fun s σ F h => ∃ (d3 : Option V) (d4 : Option V) (d5 : Option V) (d6 : Option V) (d7 : Option V), σ = [some v_tops, d3, d4, d5, d6, d7] ∧ Own K F h []) _ c (ei_rng1 (ev_cb nx_len (ev_var rfl r_tops).u).u) hX hk (fun F1 sb => ⟨_, _, _, _, _, rfl, o.mono sb⟩) (fun _ _ _ _ _ => trivial) (fun s8 u13 v10 σ F h H c sb12 a r11 D P hk kn kb hrt => ?_) (fun s8 σ F h H c sb12 a hk => ?_) (fun r v H q rr => hrt r v H q rr)
  · obtain ⟨d3, d4, d5, d6, d7, rfl, o⟩ := a
    refine c_gn [some v_tops, some v10, d4, d5, d6, d7] rfl ?_
    unfold m_law_circle_loop1 at hk
    replace r_tops := r_tops.mono sb12
    refine c_setL (fun y => [some v_tops, some v10, some y, d5, d6, d7]) (fun _ => rfl) ?_
    refine x_new c o (en_lst (ea_cons (ev_var rfl r11) ea_nil)) hX hk fun u16 v15 F h H c sb17 o hk => ?_
    replace r_tops := r_tops.mono sb17
    replace r11 := r11.mono sb17
    refine x_forF (S := U) (fun s σ F h => ∃ (d23 : Option V) (d24 : Option V) (d25 : Option V), σ = [some v_tops, some v10, some v15, d23, d24, d25] ∧ Own K F h [(v15, s)]) _ c (ei_rng1 (ev_cb nx_len (ev_var rfl r_tops).u).u) hX hk (fun F1 sb => ⟨_, _, _, rfl, o.mono sb⟩) (fun _ _ _ _ _ => trivial) (fun s26 u31 v28 σ F h H c sb30 a r29 D P hk kn kb hrt => ?_) (fun s26 σ F h H c sb30 a hk => ?_) (fun r v H q rr => hrt r v H q rr)
    · obtain ⟨d23, d24, d25, rfl, o⟩ := a
      refine c_gn [some v_tops, some v10, some v15, some v28, d24, d25] rfl ?_
      unfold m_law_circle_loop2 at hk
      replace r_tops := r_tops.mono sb30
      replace r11 := r11.mono sb30
      refine c_setL (fun y => [some v_tops, some v10, some v15, some v28, some y, d25]) (fun _ => rfl) ?_
      refine x_val c (ev_op2 nx_idx (ev_op2 nx_idx (ev_var rfl r_tops).u (ev_op2 nx_idx (ev_own rfl (o.read (i := 0) rfl)) (ev_un nx_neg (ev_i).u).u).u).u (ev_i).u) hX hk fun u33 v32 F H c sb35 r34 hk => ?_
      replace o := o.mono sb35
      replace r_tops := r_tops.mono sb35
      replace r11 := r11.mono sb35
      replace r29 := r29.mono sb35
      refine c_if ?_
      refine x_t c (et_test (ev_op2 nx_lt (ev_var rfl r34).u (ev_i).u).u) hX hk fun b F H c sb47 hk => ?_
      replace o := o.mono sb47
      replace r_tops := r_tops.mono sb47
      replace r11 := r11.mono sb47
      replace r29 := r29.mono sb47
      replace r34 := r34.mono sb47
      refine c_way hk (fun hk => ?_) (fun hk => ?_)
      · refine c_brk ?_
        exact kb _ _ _ _ _ hk c (sb35.trans sb47) ⟨_, _, _, rfl, o⟩
      · refine c_nx2 ?_
        refine c_setL (fun y => [some v_tops, some v10, some v15, some v28, some v32, some y]) (fun _ => rfl) ?_
        refine x_val c (ev_call (m := ar2 m_law_top_at) ar2_n (ea_cons (ev_var rfl r_tops) (ea_cons (ev_var rfl r34) ea_nil))) hX hk fun u50 v49 F H c sb52 r51 hk => ?_
        replace o := o.mono sb52
        replace r_tops := r_tops.mono sb52
        replace r11 := r11.mono sb52
        replace r29 := r29.mono sb52
        replace r34 := r34.mono sb52
        refine c_if ?_
        refine x_t c (et_test (ev_op2 nx_eq (ev_var rfl r51).u (ev_var rfl r11).u).u) hX hk fun b F H c sb59 hk => ?_
        replace o := o.mono sb59
        replace r_tops := r_tops.mono sb59
        replace r11 := r11.mono sb59
        replace r29 := r29.mono sb59
        replace r34 := r34.mono sb59
        replace r51 := r51.mono sb59
        refine c_way hk (fun hk => ?_) (fun hk => ?_)
        · refine c_ret ?_
          refine c_var rfl ?_
          exact hrt _ _ _ hk ⟨_, _, _, 0, c, o, rfl⟩
        · refine c_nx2 ?_
          refine c_if ?_
          refine x_t c (et_test (ev_op2 nx_in (ev_var rfl r51).u (ev_own rfl (o.read (i := 0) rfl))).u) hX hk fun b F H c sb64 hk => ?_
          replace o := o.mono sb64
          replace r_tops := r_tops.mono sb64
          replace r11 := r11.mono sb64
          replace r29 := r29.mono sb64
          replace r34 := r34.mono sb64
          replace r51 := r51.mono sb64
          refine c_way hk (fun hk => ?_) (fun hk => ?_)
          · refine c_brk ?_
            exact kb _ _ _ _ _ hk c (sb35.trans (sb47.trans (sb52.trans (sb59.trans sb64)))) ⟨_, _, _, rfl, o⟩
          · refine c_nx2 ?_
            refine x_ty (j := 0) c o rfl hk fun ty hk => ?_
            refine c_app rfl ty ?_
            refine x_val c (ev_var rfl r51) hX hk fun u67 v66 F H c sb69 r68 hk => ?_
            replace o := o.mono sb69
            replace r_tops := r_tops.mono sb69
            replace r11 := r11.mono sb69
            replace r29 := r29.mono sb69
            replace r34 := r34.mono sb69
            replace r51 := r51.mono sb69
            refine (x_app 0 c o rfl r68 hk fun w70 h H c o hk => ?_).2
            refine c_nx ?_
            exact (kn _ _ _ _ _ hk c (sb35.trans (sb47.trans (sb52.trans (sb59.trans (sb64.trans sb69))))) ⟨_, _, _, rfl, o⟩).1
    obtain ⟨d23, d24, d25, rfl, o⟩ := a
    replace r_tops := r_tops.mono sb30
    replace r11 := r11.mono sb30
    refine c_nx ?_
    refine x_drop 0 c o rfl fun h c o => ?_
    exact (kn _ _ _ _ _ hk c (sb17.trans sb30) ⟨_, _, _, _, _, rfl, o⟩).1
  obtain ⟨d3, d4, d5, d6, d7, rfl, o⟩ := a
  replace r_tops := r_tops.mono sb12
  refine c_ret ?_
  refine x_new c o (en_lst ea_nil) hX hk fun u80 v79 F h H c sb81 o hk => ?_
  replace r_tops := r_tops.mono sb81
  exact hrt _ _ _ hk ⟨_, _, _, 0, c, o, rfl⟩
def Nm_law_gate : List Str := ["state", "places", "size", "closed", "outside", "pick", "place"]
def Ppm_law_gate : List Str := ["state", "places", "size", "closed"]
theorem scm_law_gate : FnScope Nm_law_gate Ppm_law_gate (defScope sm_law_gate) := ⟨rfl, rfl, rfl, by decide +kernel, rfl, by decide +kernel, by decide +kernel⟩
theorem okm_law_gate {P : Program} {w : World} {K : PySem.W.Frag} {mg : Str → Option Value} {base : Heap} {A : Ad} (T : Txt K mg A) : FnOk P w K mg base CX0 3 A.am_law_gate A.dm_law_gate Ppm_law_gate (SpS K noX 4 (ar4 m_law_gate)) := by
  refine T.Fm_law_gate.ok scm_law_gate (fun vs H Q E h => h.len) (fun cdv A outer s H vs Q E hr h => ?_)
  refine ⟨_, (pss_cons (ps_setLc (i := 4) (own := [("place", 6)]) (g := (gName 6)) rfl scm_law_gate.nd rfl rfl (sw_true rfl rfl rfl (by decide +kernel)) (pi_range1 rfl T.n_range (pa_cons (pv 2) pa_nil)) (blkOk_by (N := Nm_law_gate) (sc := defScope sm_law_gate) (by decide +kernel)) (fun _ _ _ _ _ => pg_name (i := 6) scm_law_gate.nd rfl (Or.inl rfl)) (fun _ _ _ _ _ => pts_one (pt_cmpR (k_notin K hr.un65) (pv 6) (pv 1) (by rfl))) (fun _ _ _ _ _ => (pv 6)))
      (pss_cons (ps_if (PW.pt (pw_and (pt_val (pv 3)) (pw_and1 (pt_cmpR (k_gt K) (pe_callB (k_len K) (by rfl) T.n_len PySem.boot_len (pa_cons (pv 4) pa_nil)) pe_int (nomark _))))) (pss_cons (ps_ret (pe_ix (k_idx K) (pv 4) (pe_call (okm_law_draw T) (hr.mono (by decide)) (by rfl) T.gm_law_draw T.Fm_law_draw.kp T.bm_law_draw .nil pass0 (pa_cons (pv 0) (pa_cons (pe_callB (k_len K) (by rfl) T.n_len PySem.boot_len (pa_cons (pv 4) pa_nil)) pa_nil))) (fun _ _ => rfl)))
      pss_nil) pss_nil)
      (pss_cons (ps_set (i := 5) scm_law_gate.nd rfl (Or.inl rfl) (pe_call (okm_law_draw T) (hr.mono (by decide)) (by rfl) T.gm_law_draw T.Fm_law_draw.kp T.bm_law_draw .nil pass0 (pa_cons (pv 0) (pa_cons (pe_op (k_add K) (pe_callB (k_len K) (by rfl) T.n_len PySem.boot_len (pa_cons (pv 4) pa_nil)) pe_int) pa_nil))))
      (pss_cons (ps_if (pt_cmpR (k_eq K hr.un64) (pv 5) (pe_callB (k_len K) (by rfl) T.n_len PySem.boot_len (pa_cons (pv 4) pa_nil)) (nomark _)) (pss_cons (ps_ret (pe_un (k_neg K) pe_int))
      pss_nil) pss_nil)
      (pss_cons (ps_ret (pe_ix (k_idx K) (pv 4) (pv 5) (fun _ _ => rfl)))
      pss_nil))))), ?_⟩
  refine start0_S h fun F h us X P pv w0 vs' c o ev hn rl hX hk hP => ?_
  subst ev
  have hn := Nat.succ.inj hn
  obtain ⟨v_places, u_places, vs, us, rfl, rfl, hn, r_places, rl⟩ := repl1 hn rl
  obtain ⟨v_size, u_size, vs, us, rfl, rfl, hn, r_size, rl⟩ := repl1 hn rl
  obtain ⟨v_closed, u_closed, vs, us, rfl, rfl, hn, r_closed, rl⟩ := repl1 hn rl
  obtain ⟨rfl, rfl⟩ := repl0 hn rl
  have hrt : ∀ r v H, P r → RS _ pv r v H → Q v H := fun r v H p ⟨_, _, l, j, c, o, hj, q⟩ => hP j _ _ _ _ _ l p c o hj q
  clear hP
  change (m_law_gate w0 u_places u_size u_closed).Len P X at hk
  unfold m_law_gate at hk
  refine c_start [some pv, some v_places, some v_size, some v_closed, none, none, none] rfl ?_
  refine c_setL (fun y => [some pv, some v_places, some v_size, some v_closed, some y, none, none]) (fun _ => rfl) ?_
  refine x_val c (ev_lc (ei_rng1 (ev_var rfl r_size).u) (fun _ _ => trivial) (ec_if (fun _ => rfl) (fun x6 v7 F9 H10 r8 sb11 => (et_test (ev_op2 nx_notin (ev_var rfl r8).u (ev_var rfl (r_places.mono sb11)).u).u)) (fun x6 v7 F9 H10 r8 sb11 => (ev_var rfl r8)))) hX hk fun u2 v1 F H c sb4 r3 hk => ?_
  replace o := o.mono sb4
  replace r_places := r_places.mono sb4
  replace r_size := r_size.mono sb4
  replace r_closed := r_closed.mono sb4
  refine c_if ?_
  refine x_t c (et_and (et_B (ev_var rfl r_closed).u) (et_test (ev_op2 nx_gt (ev_cb nx_len (ev_var rfl r3).u).u (ev_i).u).u)) hX hk fun b F H c sb26 hk => ?_
  replace o := o.mono sb26
  replace r_places := r_places.mono sb26
  replace r_size := r_size.mono sb26
  replace r_closed := r_closed.mono sb26
  replace r3 := r3.mono sb26
  refine c_way hk (fun hk => ?_) (fun hk => ?_)
  · refine c_ret ?_
    refine c_op2 ?_
    refine x_val c (ev_var rfl r3) hX hk fun u29 v28 F H c sb31 r30 hk => ?_
    replace o := o.mono sb31
    replace r_places := r_places.mono sb31
    replace r_size := r_size.mono sb31
    replace r_closed := r_closed.mono sb31
    replace r3 := r3.mono sb31
    refine c_callS rfl ?_
    refine x_callS 0 c o rfl (m := ar2 m_law_draw) ar2_n (ea_cons (ev_cb nx_len (ev_var rfl r3).u) ea_nil) hX hk fun u35 w38 v34 F h H c sb37 o r36 hk => ?_
    replace r_places := r_places.mono sb37
    replace r_size := r_size.mono sb37
    replace r_closed := r_closed.mono sb37
    replace r3 := r3.mono sb37
    replace r30 := r30.mono sb37
    refine x_ap2 c nx_idx (.inl r30) (.inl r36) hk fun u42 v41 F H c sb44 r43 hk => ?_
    replace o := o.mono sb44
    replace r_places := r_places.mono sb44
    replace r_size := r_size.mono sb44
    replace r_closed := r_closed.mono sb44
    replace r3 := r3.mono sb44
    exact hrt _ _ _ hk ⟨_, _, _, 0, c, o, rfl, r43⟩
  · refine c_nx2 ?_
    refine c_setL (fun y => [some pv, some v_places, some v_size, some v_closed, some v1, some y, none]) (fun _ => rfl) ?_
    refine c_callS rfl ?_
    refine x_callS 0 c o rfl (m := ar2 m_law_draw) ar2_n (ea_cons (ev_on2 nx_add (ev_cb nx_len (ev_var rfl r3).u).u (ev_i).u) ea_nil) hX hk fun u53 w56 v52 F h H c sb55 o r54 hk => ?_
    replace r_places := r_places.mono sb55
    replace r_size := r_size.mono sb55
    replace r_closed := r_closed.mono sb55
    replace r3 := r3.mono sb55
    refine c_if ?_
    refine x_t c (et_test (ev_op2 nx_eq (ev_var rfl r54).u (ev_cb nx_len (ev_var rfl r3).u).u).u) hX hk fun b F H c sb64 hk => ?_
    replace o := o.mono sb64
    replace r_places := r_places.mono sb64
    replace r_size := r_size.mono sb64
    replace r_closed := r_closed.mono sb64
    replace r3 := r3.mono sb64
    replace r54 := r54.mono sb64
    refine c_way hk (fun hk => ?_) (fun hk => ?_)
    · refine c_ret ?_
      refine x_val c (ev_un nx_neg (ev_i).u) hX hk fun u67 v66 F H c sb69 r68 hk => ?_
      replace o := o.mono sb69
      replace r_places := r_places.mono sb69
      replace r_size := r_size.mono sb69
      replace r_closed := r_closed.mono sb69
      replace r3 := r3.mono sb69
      replace r54 := r54.mono sb69
      exact hrt _ _ _ hk ⟨_, _, _, 0, c, o, rfl, r68⟩
    · refine c_nx2 ?_
      refine c_ret ?_
      refine x_val c (ev_op2 nx_idx (ev_var rfl r3).u (ev_var rfl r54).u) hX hk fun u73 v72 F H c sb75 r74 hk => ?_
      replace o := o.mono sb75
      replace r_places := r_places.mono sb75
      replace r_size := r_size.mono sb75
      replace r_closed := r_closed.mono sb75
      replace r3 := r3.mono sb75
      replace r54 := r54.mono sb75
      exact hrt _ _ _ hk ⟨_, _, _, 0, c, o, rfl, r74⟩
def Nm_law_nest : List Str := ["state", "size", "closed", "nodes", "tops", "turn", "row", "places", "k", "ring", "place"]
def Ppm_law_nest : List Str := ["state", "size", "closed"]
theorem scm_law_nest : FnScope Nm_law_nest Ppm_law_nest (defScope sm_law_nest) := ⟨rfl, rfl, rfl, by decide +kernel, rfl, by decide +kernel, by decide +kernel⟩
theorem okm_law_nest {P : Program} {w : World} {K : PySem.W.Frag} {mg : Str → Option Value} {base : Heap} {A : Ad} (T : Txt K mg A) : FnOk P w K mg base CX0 4 A.am_law_nest A.dm_law_nest Ppm_law_nest (SpSN K noX 3 (ar3 m_law_nest)) := by
  refine T.Fm_law_nest.ok scm_law_nest (fun vs H Q E h => h.len) (fun cdv A outer s H vs Q E hr h => ?_)
  refine ⟨_, (pss_cons (ps_setLc (i := 3) (own := [("place", 10)]) (g := (gName 10)) rfl scm_law_nest.nd rfl rfl (sw_true rfl rfl rfl (by decide +kernel)) (pi_range1 rfl T.n_range (pa_cons (pv 1) pa_nil)) (blkOk_by (N := Nm_law_nest) (sc := defScope sm_law_nest) (by decide +kernel)) (fun _ _ _ _ _ => pg_name (i := 10) scm_law_nest.nd rfl (Or.inl rfl)) (fun _ _ _ _ _ => pts_nil) (fun _ _ _ _ _ => (pe_tup (pa_cons (pe_tup (pa_cons (pv 10) pa_nil)) (pa_cons (pe_call (okm_law_gate T) (hr.mono (by decide)) (by rfl) T.gm_law_gate T.Fm_law_gate.kp T.bm_law_gate .nil pass0 (pa_cons (pv 0) (pa_cons (pe_tup (pa_cons (pv 10) pa_nil)) (pa_cons (pv 1) (pa_cons (pv 2) pa_nil))))) pa_nil)))))
      (pss_cons (ps_set (i := 4) scm_law_nest.nd rfl (Or.inr rfl) (pe_callTy (k_list K) (by rfl) T.n_list (by decide +kernel) (pa_cons (pv 3) pa_nil)))
      (pss_cons (ps_for PassesOwn.never rfl (pi_range1 rfl T.n_range (pa_cons (pv 1) pa_nil)) (pg_name (i := 5) scm_law_nest.nd rfl (Or.inl rfl)) (pss_cons (ps_set (i := 6) scm_law_nest.nd rfl (Or.inr rfl) (pe_call (okm_law_circle T) (hr.mono (by decide)) (by rfl) T.gm_law_circle T.Fm_law_circle.kp T.bm_law_circle .nil pass0 (pa_cons (pv 4) pa_nil)))
      (pss_cons (ps_if (pt_cmpR (k_eq K hr.un64) (pe_callB (k_len K) (by rfl) T.n_len PySem.boot_len (pa_cons (pv 6) pa_nil)) pe_int (nomark _)) (pss_cons ps_break
      pss_nil) pss_nil)
      (pss_cons (ps_set (i := 7) scm_law_nest.nd rfl (Or.inl rfl) (pe_lst pa_nil))
      (pss_cons (ps_for PassesOwn.never rfl (kpi_seq K (pv 6)) (pg_name (i := 8) scm_law_nest.nd rfl (Or.inl rfl)) (pss_cons (ps_set (i := 7) scm_law_nest.nd rfl (Or.inl rfl) (pe_op (k_add K) (pv 7) (pe_callTy (k_list K) (by rfl) T.n_list (by decide +kernel) (pa_cons (pe_ix (k_idx K) (pe_ix (k_idx K) (pv 4) (pv 8) (fun _ _ => rfl)) pe_int (fun _ _ => rfl)) pa_nil))))
      pss_nil))
      (pss_cons (ps_set (i := 7) scm_law_nest.nd rfl (Or.inl rfl) (pe_callTy (k_tuple K) (by rfl) T.n_tuple (by decide +kernel) (pa_cons (pe_callB (k_sortedD K hr.un200) (by rfl) T.n_sorted (by decide +kernel) (pa_cons (pv 7) pa_nil)) pa_nil)))
      (pss_cons (ps_set (i := 9) scm_law_nest.nd rfl (Or.inl rfl) (pe_tup (pa_cons (pv 7) (pa_cons (pe_call (okm_law_gate T) (hr.mono (by decide)) (by rfl) T.gm_law_gate T.Fm_law_gate.kp T.bm_law_gate .nil pass0 (pa_cons (pv 0) (pa_cons (pv 7) (pa_cons (pv 1) (pa_cons (pv 2) pa_nil))))) pa_nil))))
      (pss_cons (ps_set (i := 4) scm_law_nest.nd rfl (Or.inr rfl) (pe_op (k_add K) (pe_lc (own := [("k", 8)]) (g := (gName 8)) rfl scm_law_nest.nd (pi_range1 rfl T.n_range (pa_cons (pe_callB (k_len K) (by rfl) T.n_len PySem.boot_len (pa_cons (pv 4) pa_nil)) pa_nil)) (blkOk_by (N := Nm_law_nest) (sc := defScope sm_law_nest) (by decide +kernel)) (fun _ _ _ _ _ => pg_name (i := 8) scm_law_nest.nd rfl (Or.inl rfl)) (fun _ _ _ _ _ => pts_one (pt_cmpR (k_notin K hr.un65) (pv 8) (pv 6) (by rfl))) (fun _ _ _ _ _ => (pe_ix (k_idx K) (pv 4) (pv 8) (fun _ _ => rfl)))) (pe_lst (pa_cons (pv 9) pa_nil))))
      (pss_cons (ps_expr (kpe_bm K PySem.F.plainAttrs_list PySem.F.slot_list_append PySem.F.type_list_append mt_append (pv 3) (pa_cons (pv 9) pa_nil)))
      pss_nil)))))))))
      (pss_cons (ps_ret (pe_call (okm_law_sorted T) (hr.mono (by decide)) (by rfl) T.gm_law_sorted T.Fm_law_sorted.kp T.bm_law_sorted .nil pass0 (pa_cons (pv 3) pa_nil)))
      pss_nil)))), ?_⟩
  refine start0_SN h fun F h us X P pv w0 vs' c o ev hn rl hX hk hP => ?_
  subst ev
  have hn := Nat.succ.inj hn
  obtain ⟨v_size, u_size, vs, us, rfl, rfl, hn, r_size, rl⟩ := repl1 hn rl
  obtain ⟨v_closed, u_closed, vs, us, rfl, rfl, hn, r_closed, rl⟩ := repl1 hn rl
  obtain ⟨rfl, rfl⟩ := repl0 hn rl
  have hrt : ∀ r v H, P r → RSN _ pv r v H → Q v H := fun r v H p ⟨_, _, l, i, j, c, o, hi, hj⟩ => hP i j _ _ _ _ _ l p c o hi hj
  clear hP
  change (m_law_nest w0 u_size u_closed).Len P X at hk
  unfold m_law_nest at hk
  refine c_start [some pv, some v_size, some v_closed, none, none, none, none, none, none, none, none] rfl ?_
  refine c_setL (fun y => [some pv, some v_size, some v_closed, some y, none, none, none, none, none, none, none]) (fun _ => rfl) ?_
  refine x_lc (S := U) (fun s2 F h => Own K F h [(pv, s2)]) c (ei_rng1 (ev_var rfl r_size).u) hX hk (fun F1 sb => o.mono sb) (fun _ _ _ _ => trivial) (fun s8 u7 v6 F h H c cold sb4 o r5 P hn hy hX hk kn ky => ?_) (fun s8 ys p xs F h H c ex o hp rl hk => ?_)
  · refine ⟨rfl, ?_⟩
    have r_size := r_size.mono sb4
    have r_closed := r_closed.mono sb4
    clear cold
    refine c_yes (iteT ?_)
    refine c_tup ?_
    refine c_cons ?_
    refine x_val c (ev_tup (ea_cons (ev_var rfl r5) ea_nil)) hX hk fun u1005 v1004 F H c sb1007 r1006 hk => ?_
    replace o := o.mono sb1007
    replace r_size := r_size.mono sb1007
    replace r_closed := r_closed.mono sb1007
    replace r5 := r5.mono sb1007
    refine c_cons ?_
    refine c_callS rfl ?_
    refine x_callS 0 c o rfl (m := ar4 m_law_gate) ar4_n (ea_cons (ev_tup (ea_cons (ev_var rfl r5) ea_nil)) (ea_cons (ev_var rfl r_size) (ea_cons (ev_var rfl r_closed) ea_nil))) hX hk fun u1014 w1017 v1013 F h H c sb1016 o r1015 hk => ?_
    replace r_size := r_size.mono sb1016
    replace r_closed := r_closed.mono sb1016
    replace r5 := r5.mono sb1016
    replace r1006 := r1006.mono sb1016
    refine c_nil ?_
    refine x_mkT (vs := [v1004, v1013]) c (.cons r1006 (.cons r1015 .nil)) hk fun u1021 v1020 F H c sb1023 r1022 hk => ?_
    replace o := o.mono sb1023
    replace r_size := r_size.mono sb1023
    replace r_closed := r_closed.mono sb1023
    replace r5 := r5.mono sb1023
    exact ky _ _ _ _ _ _ hk c o r1022
  have sb1026 := ex.sub
  replace r_size := r_size.mono sb1026
  replace r_closed := r_closed.mono sb1026
  refine x_newL c o hp rl fun h H c o => ?_
  refine c_setL (fun y => [some pv, some v_size, some v_closed, some (.ref p), some y, none, none, none, none, none, none]) (fun _ => rfl) ?_
  refine x_val c (ev_cbn nx_list (ev_own rfl (o.read (i := 0) rfl))) hX hk fun u1037 v1036 F H c sb1039 r1038 hk => ?_
  replace o := o.mono sb1039
  replace r_size := r_size.mono sb1039
  replace r_closed := r_closed.mono sb1039
  refine x_forF (S := U × U × U) (fun s σ F h => ∃ (v1043 : V) (d1044 : Option V) (d1045 : Option V) (d1046 : Option V) (d1047 : Option V) (d1048 : Option V), σ = [some pv, some v_size, some v_closed, some (.ref p), some v1043, d1044, d1045, d1046, d1047, d1048, none] ∧ Own K F h [((.ref p), s.2.1), (pv, s.1)] ∧ Rep K F v1043 s.2.2) _ c (ei_rng1 (ev_var rfl r_size).u) hX hk (fun F1 sb => ⟨_, _, _, _, _, _, rfl, o.mono sb, r1038.mono sb⟩) (fun _ _ _ _ _ => trivial) (fun s1049 u1054 v1051 σ F h H c sb1053 a r1052 D P hk kn kb hrt => ?_) (fun s1049 σ F h H c sb1053 a hk => ?_) (fun r v H q rr => hrt r v H q rr)
  · obtain ⟨v1043, d1044, d1045, d1046, d1047, d1048, rfl, o, r1055⟩ := a
    refine c_gn [some pv, some v_size, some v_closed, some (.ref p), some v1043, some v1051, d1045, d1046, d1047, d1048, none] rfl ?_
    unfold m_law_nest_loop1 at hk
    replace r_size := r_size.mono sb1053
    replace r_closed := r_closed.mono sb1053
    refine c_setL (fun y => [some pv, some v_size, some v_closed, some (.ref p), some v1043, some v1051, some y, d1046, d1047, d1048, none]) (fun _ => rfl) ?_
    refine x_val c (ev_callN (m := ar1 m_law_circle) ar1_n (ea_cons (ev_var rfl r1055) ea_nil)) hX hk fun u1057 v1056 F H c sb1059 r1058 hk => ?_
    replace o := o.mono sb1059
    replace r_size := r_size.mono sb1059
    replace r_closed := r_closed.mono sb1059
    replace r1055 := r1055.mono sb1059
    replace r1052 := r1052.mono sb1059
    refine c_if ?_
    refine x_t c (et_test (ev_op2 nx_eq (ev_cb nx_len (ev_var rfl r1058).u).u (ev_i).u).u) hX hk fun b F H c sb1066 hk => ?_
    replace o := o.mono sb1066
    replace r_size := r_size.mono sb1066
    replace r_closed := r_closed.mono sb1066
    replace r1055 := r1055.mono sb1066
    replace r1052 := r1052.mono sb1066
    replace r1058 := r1058.mono sb1066
    refine c_way hk (fun hk => ?_) (fun hk => ?_)
    · refine c_brk ?_
      exact kb _ _ _ _ _ hk c (sb1059.trans sb1066) ⟨_, _, _, _, _, _, rfl, o, r1055⟩
    · refine c_nx2 ?_
      refine c_setL (fun y => [some pv, some v_size, some v_closed, some (.ref p), some v1043, some v1051, some v1056, some y, d1047, d1048, none]) (fun _ => rfl) ?_
      refine x_val c (ev_lst ea_nil) hX hk fun u1069 v1068 F H c sb1071 r1070 hk => ?_
      replace o := o.mono sb1071
      replace r_size := r_size.mono sb1071
      replace r_closed := r_closed.mono sb1071
      replace r1055 := r1055.mono sb1071
      replace r1052 := r1052.mono sb1071
      replace r1058 := r1058.mono sb1071
      refine x_forF (S := U) (fun s σ F h => ∃ (v1074 : V) (d1075 : Option V), σ = [some pv, some v_size, some v_closed, some (.ref p), some v1043, some v1051, some v1056, some v1074, d1075, d1048, none] ∧ Own K F h [((.ref p), s1049.2.1), (pv, s1049.1)] ∧ Rep K F v1074 s) _ c (ei_seq (ev_var rfl r1058)) hX hk (fun F1 sb => ⟨_, _, rfl, o.mono sb, r1070.mono sb⟩) (fun _ _ _ _ _ => trivial) (fun s1076 u1081 v1078 σ F h H c sb1080 a r1079 D P hk kn kb hrt => ?_) (fun s1076 σ F h H c sb1080 a hk => ?_) (fun r v H q rr => hrt r v H q rr)
      · obtain ⟨v1074, d1075, rfl, o, r1082⟩ := a
        refine c_gn [some pv, some v_size, some v_closed, some (.ref p), some v1043, some v1051, some v1056, some v1074, some v1078, d1048, none] rfl ?_
        unfold m_law_nest_loop2 at hk
        replace r_size := r_size.mono sb1080
        replace r_closed := r_closed.mono sb1080
        replace r1055 := r1055.mono sb1080
        replace r1052 := r1052.mono sb1080
        replace r1058 := r1058.mono sb1080
        refine c_setL (fun y => [some pv, some v_size, some v_closed, some (.ref p), some v1043, some v1051, some v1056, some y, some v1078, d1048, none]) (fun _ => rfl) ?_
        refine x_val c (ev_on2 nx_add (ev_var rfl r1082).u (ev_cbn nx_list (ev_op2 nx_idx (ev_op2 nx_idx (ev_var rfl r1055).u (ev_var rfl r1079).u).u (ev_i).u).u).u) hX hk fun u1084 v1083 F H c sb1086 r1085 hk => ?_
        replace o := o.mono sb1086
        replace r_size := r_size.mono sb1086
        replace r_closed := r_closed.mono sb1086
        replace r1055 := r1055.mono sb1086
        replace r1052 := r1052.mono sb1086
        replace r1058 := r1058.mono sb1086
        replace r1082 := r1082.mono sb1086
        replace r1079 := r1079.mono sb1086
        refine c_nx ?_
        exact (kn _ _ _ _ _ hk c sb1086 ⟨_, _, rfl, o, r1085⟩).1
      obtain ⟨v1074, d1075, rfl, o, r1082⟩ := a
      replace r_size := r_size.mono sb1080
      replace r_closed := r_closed.mono sb1080
      replace r1055 := r1055.mono sb1080
      replace r1052 := r1052.mono sb1080
      replace r1058 := r1058.mono sb1080
      replace r1070 := r1070.mono sb1080
      refine c_setL (fun y => [some pv, some v_size, some v_closed, some (.ref p), some v1043, some v1051, some v1056, some y, d1075, d1048, none]) (fun _ => rfl) ?_
      refine x_val c (ev_cb nx_tuple (ev_cbn nx_sortedD (ev_var rfl r1082).u).u) hX hk fun u1099 v1098 F H c sb1101 r1100 hk => ?_
      replace o := o.mono sb1101
      replace r_size := r_size.mono sb1101
      replace r_closed := r_closed.mono sb1101
      replace r1055 := r1055.mono sb1101
      replace r1052 := r1052.mono sb1101
      replace r1058 := r1058.mono sb1101
      replace r1082 := r1082.mono sb1101
      refine c_setL (fun y => [some pv, some v_size, some v_closed, some (.ref p), some v1043, some v1051, some v1056, some v1098, d1075, some y, none]) (fun _ => rfl) ?_
      refine c_tup ?_
      refine c_cons ?_
      refine x_val c (ev_var rfl r1100) hX hk fun u1106 v1105 F H c sb1108 r1107 hk => ?_
      replace o := o.mono sb1108
      replace r_size := r_size.mono sb1108
      replace r_closed := r_closed.mono sb1108
      replace r1055 := r1055.mono sb1108
      replace r1052 := r1052.mono sb1108
      replace r1058 := r1058.mono sb1108
      replace r1100 := r1100.mono sb1108
      refine c_cons ?_
      refine c_callS rfl ?_
      refine x_callS 1 c o rfl (m := ar4 m_law_gate) ar4_n (ea_cons (ev_var rfl r1100) (ea_cons (ev_var rfl r_size) (ea_cons (ev_var rfl r_closed) ea_nil))) hX hk fun u1113 w1116 v1112 F h H c sb1115 o r1114 hk => ?_
      replace r_size := r_size.mono sb1115
      replace r_closed := r_closed.mono sb1115
      replace r1055 := r1055.mono sb1115
      replace r1052 := r1052.mono sb1115
      replace r1058 := r1058.mono sb1115
      replace r1100 := r1100.mono sb1115
      replace r1107 := r1107.mono sb1115
      refine c_nil ?_
      refine x_mkT (vs := [v1105, v1112]) c (.cons r1107 (.cons r1114 .nil)) hk fun u1120 v1119 F H c sb1122 r1121 hk => ?_
      replace o := o.mono sb1122
      replace r_size := r_size.mono sb1122
      replace r_closed := r_closed.mono sb1122
      replace r1055 := r1055.mono sb1122
      replace r1052 := r1052.mono sb1122
      replace r1058 := r1058.mono sb1122
      replace r1100 := r1100.mono sb1122
      refine c_setL (fun y => [some pv, some v_size, some v_closed, some (.ref p), some y, some v1051, some v1056, some v1098, d1075, some v1119, none]) (fun _ => rfl) ?_
      refine x_val c (ev_on2 nx_add (ev_lc (ei_rng1 (ev_cb nx_len (ev_var rfl r1055).u).u) (fun _ _ => trivial) (ec_if (fun _ => rfl) (fun x1130 v1131 F1133 H1134 r1132 sb1135 => (et_test (ev_op2 nx_notin (ev_var rfl r1132).u (ev_var rfl (r1058.mono sb1135)).u).u)) (fun x1130 v1131 F1133 H1134 r1132 sb1135 => (ev_op2 nx_idx (ev_var rfl (r1055.mono sb1135)).u (ev_var rfl r1132).u)))).u (ev_lst (ea_cons (ev_var rfl r1121) ea_nil)).u) hX hk fun u1125 v1124 F H c sb1127 r1126 hk => ?_
      replace o := o.mono sb1127
      replace r_size := r_size.mono sb1127
      replace r_closed := r_closed.mono sb1127
      replace r1055 := r1055.mono sb1127
      replace r1052 := r1052.mono sb1127
      replace r1058 := r1058.mono sb1127
      replace r1100 := r1100.mono sb1127
      replace r1121 := r1121.mono sb1127
      refine x_ty (j := 1) c o rfl hk fun ty hk => ?_
      refine c_app rfl ty ?_
      refine x_val c (ev_var rfl r1121) hX hk fun u1150 v1149 F H c sb1152 r1151 hk => ?_
      replace o := o.mono sb1152
      replace r_size := r_size.mono sb1152
      replace r_closed := r_closed.mono sb1152
      replace r1052 := r1052.mono sb1152
      replace r1058 := r1058.mono sb1152
      replace r1100 := r1100.mono sb1152
      replace r1121 := r1121.mono sb1152
      replace r1126 := r1126.mono sb1152
      refine (x_app 1 c o rfl r1151 hk fun w1153 h H c o hk => ?_).2
      refine c_nx ?_
      replace o := o.front 1 rfl
      exact (kn _ _ _ _ _ hk c (sb1059.trans (sb1066.trans (sb1071.trans (sb1080.trans (sb1101.trans (sb1108.trans (sb1115.trans (sb1122.trans (sb1127.trans sb1152))))))))) ⟨_, _, _, _, _, _, rfl, o, r1126⟩).1
  obtain ⟨v1043, d1044, d1045, d1046, d1047, d1048, rfl, o, r1055⟩ := a
  replace r_size := r_size.mono sb1053
  replace r_closed := r_closed.mono sb1053
  replace r1038 := r1038.mono sb1053
  refine c_ret ?_
  refine x_frz 0 c o rfl fun F h c sb1162 o r1161 => ?_
  replace r_size := r_size.mono sb1162
  replace r_closed := r_closed.mono sb1162
  replace r1055 := r1055.mono sb1162
  refine x_callN c o (m := ar1 m_law_sorted) ar1_n (ea_cons (ev_var rfl r1161) ea_nil) hX hk fun u1165 v1164 F h H c sb1166 o hk => ?_
  replace r_size := r_size.mono sb1166
  replace r_closed := r_closed.mono sb1166
  replace r1055 := r1055.mono sb1166
  replace r1161 := r1161.mono sb1166
  exact hrt _ _ _ hk ⟨_, _, _, 0, 0, c, o, rfl, rfl⟩
def Nm_law_some_book : List Str := ["state", "size", "kind", "book"]
def Ppm_law_some_book : List Str := ["state", "size"]
theorem scm_law_some_book : FnScope Nm_law_some_book Ppm_law_some_book (defScope sm_law_some_book) := ⟨rfl, rfl, rfl, by decide +kernel, rfl, by decide +kernel, by decide +kernel⟩
theorem okm_law_some_book {P : Program} {w : World} {K : PySem.W.Frag} {mg : Str → Option Value} {base : Heap} {A : Ad} (T : Txt K mg A) : FnOk P w K mg base CX0 5 A.am_law_some_book A.dm_law_some_book Ppm_law_some_book (SpS K noX 2 (ar2 m_law_some_book)) := by
  refine T.Fm_law_some_book.ok scm_law_some_book (fun vs H Q E h => h.len) (fun cdv A outer s H vs Q E hr h => ?_)
  refine ⟨_, (pss_cons (ps_set (i := 2) scm_law_some_book.nd rfl (Or.inl rfl) (pe_call (okm_law_draw T) (hr.mono (by decide)) (by rfl) T.gm_law_draw T.Fm_law_draw.kp T.bm_law_draw .nil pass0 (pa_cons (pv 0) (pa_cons pe_int pa_nil))))
      (pss_cons (ps_if (pt_cmpR (k_eq K hr.un64) (pv 2) pe_int (nomark _)) (pss_cons (ps_ret (pe_call (okm_law_book T) (hr.mono (by decide)) (by rfl) T.gm_law_book T.Fm_law_book.kp T.bm_law_book .nil pass0 (pa_cons (pv 0) (pa_cons (pv 1) pa_nil))))
      pss_nil) pss_nil)
      (pss_cons (ps_set (i := 3) scm_law_some_book.nd rfl (Or.inl rfl) (pe_call (okm_law_cards T) (hr.mono (by decide)) (by rfl) T.gm_law_cards T.Fm_law_cards.kp T.bm_law_cards .nil pass0 (pa_cons (pe_call (okm_law_nest T) (hr.mono (by decide)) (by rfl) T.gm_law_nest T.Fm_law_nest.kp T.bm_law_nest .nil pass0 (pa_cons (pv 0) (pa_cons (pv 1) (pa_cons pe_bl pa_nil)))) (pa_cons (pv 1) pa_nil))))
      (pss_cons (ps_if (pt_cmpR (k_eq K hr.un64) (pv 2) pe_int (nomark _)) (pss_cons (ps_ret (pv 3))
      pss_nil) pss_nil)
      (pss_cons (ps_ret (pe_call (okm_law_bent T) (hr.mono (by decide)) (by rfl) T.gm_law_bent T.Fm_law_bent.kp T.bm_law_bent .nil pass0 (pa_cons (pv 0) (pa_cons (pv 3) pa_nil))))
      pss_nil))))), ?_⟩
  refine start0_S h fun F h us X P pv w0 vs' c o ev hn rl hX hk hP => ?_
  subst ev
  have hn := Nat.succ.inj hn
  obtain ⟨v_size, u_size, vs, us, rfl, rfl, hn, r_size, rl⟩ := repl1 hn rl
  obtain ⟨rfl, rfl⟩ := repl0 hn rl
  have hrt : ∀ r v H, P r → RS _ pv r v H → Q v H := fun r v H p ⟨_, _, l, j, c, o, hj, q⟩ => hP j _ _ _ _ _ l p c o hj q
  clear hP
  change (m_law_some_book w0 u_size).Len P X at hk
  unfold m_law_some_book at hk
  refine c_start [some pv, some v_size, none, none] rfl ?_
  refine c_setL (fun y => [some pv, some v_size, some y, none]) (fun _ => rfl) ?_
  refine c_callS rfl ?_
  refine x_callS 0 c o rfl (m := ar2 m_law_draw) ar2_n (ea_cons ev_i ea_nil) hX hk fun u3 w6 v2 F h H c sb5 o r4 hk => ?_
  replace r_size := r_size.mono sb5
  refine c_if ?_
  refine x_t c (et_test (ev_op2 nx_eq (ev_var rfl r4).u (ev_i).u).u) hX hk fun b F H c sb13 hk => ?_
  replace o := o.mono sb13
  replace r_size := r_size.mono sb13
  replace r4 := r4.mono sb13
  refine c_way hk (fun hk => ?_) (fun hk => ?_)
  · refine c_ret ?_
    refine c_callS rfl ?_
    refine x_callSN 0 c o rfl (m := ar2 m_law_book) ar2_n (ea_cons (ev_var rfl r_size) ea_nil) hX hk fun u17 w20 v16 F h H c sb19 o hk => ?_
    replace r_size := r_size.mono sb19
    replace r4 := r4.mono sb19
    refine x_frz 0 c o rfl fun F h c sb25 o r24 => ?_
    replace r_size := r_size.mono sb25
    replace r4 := r4.mono sb25
    exact hrt _ _ _ hk ⟨_, _, _, 0, c, o, rfl, r24⟩
  · refine c_nx2 ?_
    refine c_setL (fun y => [some pv, some v_size, some v2, some y]) (fun _ => rfl) ?_
    refine c_call ?_
    refine c_cons ?_
    refine c_callS rfl ?_
    refine x_callSN 0 c o rfl (m := ar3 m_law_nest) ar3_n (ea_cons (ev_var rfl r_size) (ea_cons ev_b ea_nil)) hX hk fun u30 w33 v29 F h H c sb32 o hk => ?_
    replace r_size := r_size.mono sb32
    replace r4 := r4.mono sb32
    refine x_frz 0 c o rfl fun F h c sb38 o r37 => ?_
    replace r_size := r_size.mono sb38
    replace r4 := r4.mono sb38
    refine c_cons ?_
    refine x_val c (ev_var rfl r_size) hX hk fun u40 v39 F H c sb42 r41 hk => ?_
    replace o := o.mono sb42
    replace r_size := r_size.mono sb42
    replace r4 := r4.mono sb42
    replace r37 := r37.mono sb42
    refine c_nil ?_
    refine x_vN (vs := [v29, v39]) c o (m := ar2 m_law_cards) ar2_n (.cons r37 (.cons r41 .nil)) hX hk fun u44 v43 F h H c sb46 o hk => ?_
    replace r_size := r_size.mono sb46
    replace r4 := r4.mono sb46
    refine x_frz 0 c o rfl fun F h c sb49 o r48 => ?_
    replace r_size := r_size.mono sb49
    replace r4 := r4.mono sb49
    refine c_if ?_
    refine x_t c (et_test (ev_op2 nx_eq (ev_var rfl r4).u (ev_i).u).u) hX hk fun b F H c sb54 hk => ?_
    replace o := o.mono sb54
    replace r_size := r_size.mono sb54
    replace r4 := r4.mono sb54
    replace r48 := r48.mono sb54
    refine c_way hk (fun hk => ?_) (fun hk => ?_)
    · refine c_ret ?_
      refine x_val c (ev_var rfl r48) hX hk fun u57 v56 F H c sb59 r58 hk => ?_
      replace o := o.mono sb59
      replace r_size := r_size.mono sb59
      replace r4 := r4.mono sb59
      replace r48 := r48.mono sb59
      exact hrt _ _ _ hk ⟨_, _, _, 0, c, o, rfl, r58⟩
    · refine c_nx2 ?_
      refine c_ret ?_
      refine c_callS rfl ?_
      refine x_callSN 0 c o rfl (m := ar2 m_law_bent) ar2_n (ea_cons (ev_var rfl r48) ea_nil) hX hk fun u63 w66 v62 F h H c sb65 o hk => ?_
      replace r_size := r_size.mono sb65
      replace r4 := r4.mono sb65
      replace r48 := r48.mono sb65
      refine x_frz 0 c o rfl fun F h c sb71 o r70 => ?_
      replace r_size := r_size.mono sb71
      replace r4 := r4.mono sb71
      replace r48 := r48.mono sb71
      exact hrt _ _ _ hk ⟨_, _, _, 0, c, o, rfl, r70⟩
def Nm_law_start : List Str := ["script", "at", "first", "cell"]
def Ppm_law_start : List Str := ["script", "at"]
theorem scm_law_start : FnScope Nm_law_start Ppm_law_start (defScope sm_law_start) := ⟨rfl, rfl, rfl, by decide +kernel, rfl, by decide +kernel, by decide +kernel⟩
theorem okm_law_start {P : Program} {w : World} {K : PySem.W.Frag} {mg : Str → Option Value} {base : Heap} {A : Ad} (T : Txt K mg A) : FnOk P w K mg base CX0 2 A.am_law_start A.dm_law_start Ppm_law_start (SpN K noX 2 (ar2 m_law_start)) := by
  refine T.Fm_law_start.ok scm_law_start (fun vs H Q E h => h.len) (fun cdv A outer s H vs Q E hr h => ?_)
  refine ⟨_, (pss_cons (ps_set (i := 2) scm_law_start.nd rfl (Or.inl rfl) pe_int)
      (pss_cons (ps_if (pt_cmpR (k_gt K) (pe_callB (k_len K) (by rfl) T.n_len PySem.boot_len (pa_cons (pv 0) pa_nil)) pe_int (nomark _)) (pss_cons (ps_set (i := 2) scm_law_start.nd rfl (Or.inl rfl) (pe_op (k_mod K) (pe_callTy (k_int K) (by rfl) T.n_int (by decide +kernel) (pa_cons (pe_callB (k_abs K) (by rfl) T.n_abs (by decide +kernel) (pa_cons (pe_ix (k_idx K) (pv 0) pe_int (fun _ _ => rfl)) pa_nil)) pa_nil)) pe_int))
      pss_nil) pss_nil)
      (pss_cons (ps_if (pt_cmpR (k_ge K) (pv 1) (pe_callB (k_len K) (by rfl) T.n_len PySem.boot_len (pa_cons (pv 0) pa_nil)) (nomark _)) (pss_cons (ps_ret (pe_lst (pa_cons pe_int (pa_cons (pe_op (k_add K) (pe_op (k_add K) (pe_op (k_mul K) (pv 2) pe_int) (pe_op (k_mul K) (pv 1) pe_int)) pe_int) (pa_cons pe_int pa_nil)))))
      pss_nil) pss_nil)
      (pss_cons (ps_set (i := 3) scm_law_start.nd rfl (Or.inl rfl) (pe_callB (k_abs K) (by rfl) T.n_abs (by decide +kernel) (pa_cons (pe_ix (k_idx K) (pv 0) (pv 1) (fun _ _ => rfl)) pa_nil)))
      (pss_cons (ps_if (pt_cmpR (k_lt K) (pv 3) (pe_op (k_pow K) pe_int pe_int) (nomark _)) (pss_cons (ps_ret (pe_lst (pa_cons pe_int (pa_cons (pe_op (k_add K) (pe_op (k_mod K) (pe_callTy (k_int K) (by rfl) T.n_int (by decide +kernel) (pa_cons (pv 3) pa_nil)) pe_int) (pe_op (k_mul K) (pv 1) pe_int)) (pa_cons pe_int pa_nil)))))
      pss_nil) pss_nil)
      (pss_cons (ps_ret (pe_lst (pa_cons (pv 3) (pa_cons (pe_op (k_mod K) (pe_callTy (k_int K) (by rfl) T.n_int (by decide +kernel) (pa_cons (pv 3) pa_nil)) pe_int) (pa_cons pe_int pa_nil)))))
      pss_nil)))))), ?_⟩
  refine start0_N h fun F us X P c o hn rl hX hk hP => ?_
  obtain ⟨v_script, u_script, vs, us, rfl, rfl, hn, r_script, rl⟩ := repl1 hn rl
  obtain ⟨v_at, u_at, vs, us, rfl, rfl, hn, r_at, rl⟩ := repl1 hn rl
  obtain ⟨rfl, rfl⟩ := repl0 hn rl
  have hrt : ∀ r v H, P r → RN _ r v H → Q v H := fun r v H p ⟨_, _, l, j, c, o, hj⟩ => hP j _ _ _ _ _ l p c o hj
  clear hP
  change (m_law_start u_script u_at).Len P X at hk
  unfold m_law_start at hk
  refine c_start [some v_script, some v_at, none, none] rfl ?_
  refine c_setL (fun y => [some v_script, some v_at, some y, none]) (fun _ => rfl) ?_
  refine x_val c ev_i hX hk fun u2 v1 F H c sb4 r3 hk => ?_
  replace o := o.mono sb4
  replace r_script := r_script.mono sb4
  replace r_at := r_at.mono sb4
  refine x_join (J := U) (fun j σ F h => ∃ (v6 : V), σ = [some v_script, some v_at, some v6, none] ∧ Own K F h [] ∧ Rep K F v6 j) c hk (fun D P hk kj => ?_) ?_
  · refine c_ifN ?_
    refine x_t c (et_test (ev_op2 nx_gt (ev_cb nx_len (ev_var rfl r_script).u).u (ev_i).u).u) hX hk fun b F H c sb11 hk => ?_
    replace o := o.mono sb11
    replace r_script := r_script.mono sb11
    replace r_at := r_at.mono sb11
    replace r3 := r3.mono sb11
    refine c_way hk (fun hk => ?_) (fun hk => ?_)
    · refine c_setL (fun y => [some v_script, some v_at, some y, none]) (fun _ => rfl) ?_
      refine x_val c (ev_op2 nx_mod (ev_cb nx_int (ev_cb nx_abs (ev_op2 nx_idx (ev_var rfl r_script).u (ev_i).u).u).u).u (ev_i).u) hX hk fun u14 v13 F H c sb16 r15 hk => ?_
      replace o := o.mono sb16
      replace r_script := r_script.mono sb16
      replace r_at := r_at.mono sb16
      replace r3 := r3.mono sb16
      refine c_nx ?_
      exact kj _ _ _ _ _ hk c (sb11.trans sb16) ⟨_, rfl, o, r15⟩
    · refine c_nx ?_
      exact kj _ _ _ _ _ hk c sb11 ⟨_, rfl, o, r3⟩
  rintro j _ F h H c sb24 ⟨v6, rfl, o, r25⟩ hk
  replace r_script := r_script.mono sb24
  replace r_at := r_at.mono sb24
  replace r3 := r3.mono sb24
  refine c_if ?_
  refine x_t c (et_test (ev_op2 nx_ge (ev_var rfl r_at).u (ev_cb nx_len (ev_var rfl r_script).u).u).u) hX hk fun b F H c sb31 hk => ?_
  replace o := o.mono sb31
  replace r_script := r_script.mono sb31
  replace r_at := r_at.mono sb31
  replace r25 := r25.mono sb31
  refine c_way hk (fun hk => ?_) (fun hk => ?_)
  · refine c_ret ?_
    refine x_new c o (en_lst (ea_cons ev_i (ea_cons (ev_on2 nx_add (ev_on2 nx_add (ev_on2 nx_mul (ev_var rfl r25).u (ev_i).u).u (ev_on2 nx_mul (ev_var rfl r_at).u (ev_i).u).u).u (ev_i).u) (ea_cons ev_i ea_nil)))) hX hk fun u45 v44 F h H c sb46 o hk => ?_
    replace r_script := r_script.mono sb46
    replace r_at := r_at.mono sb46
    replace r25 := r25.mono sb46
    exact hrt _ _ _ hk ⟨_, _, _, 0, c, o, rfl⟩
  · refine c_nx2 ?_
    refine c_setL (fun y => [some v_script, some v_at, some v6, some y]) (fun _ => rfl) ?_
    refine x_val c (ev_cb nx_abs (ev_op2 nx_idx (ev_var rfl r_script).u (ev_var rfl r_at).u).u) hX hk fun u51 v50 F H c sb53 r52 hk => ?_
    replace o := o.mono sb53
    replace r_script := r_script.mono sb53
    replace r_at := r_at.mono sb53
    replace r25 := r25.mono sb53
    refine c_if ?_
    refine x_t c (et_test (ev_op2 nx_lt (ev_var rfl r52).u (ev_op2 nx_pow (ev_i).u (ev_i).u).u).u) hX hk fun b F H c sb63 hk => ?_
    replace o := o.mono sb63
    replace r_script := r_script.mono sb63
    replace r_at := r_at.mono sb63
    replace r25 := r25.mono sb63
    replace r52 := r52.mono sb63
    refine c_way hk (fun hk => ?_) (fun hk => ?_)
    · refine c_ret ?_
      refine x_new c o (en_lst (ea_cons ev_i (ea_cons (ev_on2 nx_add (ev_op2 nx_mod (ev_cb nx_int (ev_var rfl r52).u).u (ev_i).u).u (ev_on2 nx_mul (ev_var rfl r_at).u (ev_i).u).u) (ea_cons ev_i ea_nil)))) hX hk fun u76 v75 F h H c sb77 o hk => ?_
      replace r_script := r_script.mono sb77
      replace r_at := r_at.mono sb77
      replace r25 := r25.mono sb77
      replace r52 := r52.mono sb77
      exact hrt _ _ _ hk ⟨_, _, _, 0, c, o, rfl⟩
    · refine c_nx2 ?_
      refine c_ret ?_
      refine x_new c o (en_lst (ea_cons (ev_var rfl r52) (ea_cons (ev_op2 nx_mod (ev_cb nx_int (ev_var rfl r52).u).u (ev_i).u) (ea_cons ev_i ea_nil)))) hX hk fun u88 v87 F h H c sb89 o hk => ?_
      replace r_script := r_script.mono sb89
      replace r_at := r_at.mono sb89
      replace r25 := r25.mono sb89
      replace r52 := r52.mono sb89
      exact hrt _ _ _ hk ⟨_, _, _, 0, c, o, rfl⟩
def Nm_law_order : List Str := ["state", "places", "left", "order", "turn"]
def Ppm_law_order : List Str := ["state", "places"]
theorem scm_law_order : FnScope Nm_law_order Ppm_law_order (defScope sm_law_order) := ⟨rfl, rfl, rfl, by decide +kernel, rfl, by decide +kernel, by decide +kernel⟩
theorem okm_law_order {P : Program} {w : World} {K : PySem.W.Frag} {mg : Str → Option Value} {base : Heap} {A : Ad} (T : Txt K mg A) : FnOk P w K mg base CX0 3 A.am_law_order A.dm_law_order Ppm_law_order (SpSN K noX 2 (ar2 m_law_order)) := by
  refine T.Fm_law_order.ok scm_law_order (fun vs H Q E h => h.len) (fun cdv A outer s H vs Q E hr h => ?_)
  refine ⟨_, (pss_cons (ps_set (i := 2) scm_law_order.nd rfl (Or.inl rfl) (pe_callTy (k_list K) (by rfl) T.n_list (by decide +kernel) (pa_cons (pv 1) pa_nil)))
      (pss_cons (ps_set (i := 3) scm_law_order.nd rfl (Or.inl rfl) (pe_lst pa_nil))
      (pss_cons (ps_for PassesOwn.never rfl (pi_range1 rfl T.n_range (pa_cons (pe_callB (k_len K) (by rfl) T.n_len PySem.boot_len (pa_cons (pv 1) pa_nil)) pa_nil)) (pg_name (i := 4) scm_law_order.nd rfl (Or.inl rfl)) (pss_cons (ps_expr (kpe_bm K PySem.F.plainAttrs_list PySem.F.slot_list_append PySem.F.type_list_append mt_append (pv 3) (pa_cons (kpe_bm K PySem.F.plainAttrs_list PySem.F.slot_list_pop PySem.F.type_list_pop mt_popAt (pv 2) (pa_cons (pe_call (okm_law_draw T) (hr.mono (by decide)) (by rfl) T.gm_law_draw T.Fm_law_draw.kp T.bm_law_draw .nil pass0 (pa_cons (pv 0) (pa_cons (pe_callB (k_len K) (by rfl) T.n_len PySem.boot_len (pa_cons (pv 2) pa_nil)) pa_nil))) pa_nil)) pa_nil)))
      pss_nil))
      (pss_cons (ps_ret (pv 3))
      pss_nil)))), ?_⟩
  refine start0_SN h fun F h us X P pv w0 vs' c o ev hn rl hX hk hP => ?_
  subst ev
  have hn := Nat.succ.inj hn
  obtain ⟨v_places, u_places, vs, us, rfl, rfl, hn, r_places, rl⟩ := repl1 hn rl
  obtain ⟨rfl, rfl⟩ := repl0 hn rl
  have hrt : ∀ r v H, P r → RSN _ pv r v H → Q v H := fun r v H p ⟨_, _, l, i, j, c, o, hi, hj⟩ => hP i j _ _ _ _ _ l p c o hi hj
  clear hP
  change (m_law_order w0 u_places).Len P X at hk
  unfold m_law_order at hk
  refine c_start [some pv, some v_places, none, none, none] rfl ?_
  refine c_setL (fun y => [some pv, some v_places, some y, none, none]) (fun _ => rfl) ?_
  refine x_new c o (en_cbn nx_list (ev_var rfl r_places).u) hX hk fun u3 v2 F h H c sb4 o hk => ?_
  replace r_places := r_places.mono sb4
  refine c_setL (fun y => [some pv, some v_places, some v2, some y, none]) (fun _ => rfl) ?_
  refine x_new c o (en_lst ea_nil) hX hk fun u9 v8 F h H c sb10 o hk => ?_
  replace r_places := r_places.mono sb10
  refine x_forF (S := U × U × U) (fun s σ F h => ∃ (d16 : Option V), σ = [some pv, some v_places, some v2, some v8, d16] ∧ Own K F h [(v8, s.2.2), (v2, s.2.1), (pv, s.1)]) _ c (ei_rng1 (ev_cb nx_len (ev_var rfl r_places).u).u) hX hk (fun F1 sb => ⟨_, rfl, o.mono sb⟩) (fun _ _ _ _ _ => trivial) (fun s17 u22 v19 σ F h H c sb21 a r20 D P hk kn kb hrt => ?_) (fun s17 σ F h H c sb21 a hk => ?_) (fun r v H q rr => hrt r v H q rr)
  · obtain ⟨d16, rfl, o⟩ := a
    refine c_gn [some pv, some v_places, some v2, some v8, some v19] rfl ?_
    unfold m_law_order_loop1 at hk
    replace r_places := r_places.mono sb21
    refine x_ty (j := 0) c o rfl hk fun ty hk => ?_
    refine c_app rfl ty ?_
    refine x_ty (j := 1) c o rfl hk fun ty hk => ?_
    refine c_bm rfl ty ?_
    refine c_callS rfl ?_
    refine x_callS 2 c o rfl (m := ar2 m_law_draw) ar2_n (ea_cons (ev_cb nx_len (ev_own rfl (o.read (i := 1) rfl))) ea_nil) hX hk fun u26 w29 v25 F h H c sb28 o r27 hk => ?_
    replace r_places := r_places.mono sb28
    replace r20 := r20.mono sb28
    refine x_popAt 2 c o rfl (.inl r27) hk fun u33 w35 v32 h H c o r34 hk => ?_
    refine (x_app 1 c o rfl r34 hk fun w39 h H c o hk => ?_).2
    refine c_nx ?_
    replace o := o.front 2 rfl
    replace o := o.front 2 rfl
    exact (kn _ _ _ _ _ hk c sb28 ⟨_, rfl, o⟩).1
  obtain ⟨d16, rfl, o⟩ := a
  replace r_places := r_places.mono sb21
  refine c_ret ?_
  refine c_var rfl ?_
  exact hrt _ _ _ hk ⟨_, _, _, 0, 1, c, o, rfl, rfl⟩
def Nm_law_set : List Str := ["state", "size", "place"]
def Ppm_law_set : List Str := ["state", "size"]
theorem scm_law_set : FnScope Nm_law_set Ppm_law_set (defScope sm_law_set) := ⟨rfl, rfl, rfl, by decide +kernel, rfl, by decide +kernel, by decide +kernel⟩
theorem okm_law_set {P : Program} {w : World} {K : PySem.W.Frag} {mg : Str → Option Value} {base : Heap} {A : Ad} (T : Txt K mg A) : FnOk P w K mg base CX0 3 A.am_law_set A.dm_law_set Ppm_law_set (SpSN K noX 2 (ar2 m_law_set)) := by
  refine T.Fm_law_set.ok scm_law_set (fun vs H Q E h => h.len) (fun cdv A outer s H vs Q E hr h => ?_)
  refine ⟨_, (pss_cons (ps_ret (pe_lc (own := [("place", 2)]) (g := (gName 2)) rfl scm_law_set.nd (pi_range1 rfl T.n_range (pa_cons (pv 1) pa_nil)) (blkOk_by (N := Nm_law_set) (sc := defScope sm_law_set) (by decide +kernel)) (fun _ _ _ _ _ => pg_name (i := 2) scm_law_set.nd rfl (Or.inl rfl)) (fun _ _ _ _ _ => pts_one (pt_cmpR (k_eq K hr.un64) (pe_call (okm_law_draw T) (hr.mono (by decide)) (by rfl) T.gm_law_draw T.Fm_law_draw.kp T.bm_law_draw .nil pass0 (pa_cons (pv 0) (pa_cons pe_int pa_nil))) pe_int (nomark _))) (fun _ _ _ _ _ => (pv 2))))
      pss_nil), ?_⟩
  refine start0_SN h fun F h us X P pv w0 vs' c o ev hn rl hX hk hP => ?_
  subst ev
  have hn := Nat.succ.inj hn
  obtain ⟨v_size, u_size, vs, us, rfl, rfl, hn, r_size, rl⟩ := repl1 hn rl
  obtain ⟨rfl, rfl⟩ := repl0 hn rl
  have hrt : ∀ r v H, P r → RSN _ pv r v H → Q v H := fun r v H p ⟨_, _, l, i, j, c, o, hi, hj⟩ => hP i j _ _ _ _ _ l p c o hi hj
  clear hP
  change (m_law_set w0 u_size).Len P X at hk
  unfold m_law_set at hk
  refine c_start [some pv, some v_size, none] rfl ?_
  refine c_ret ?_
  refine x_lc (S := U) (fun s2 F h => Own K F h [(pv, s2)]) c (ei_rng1 (ev_var rfl r_size).u) hX hk (fun F1 sb => o.mono sb) (fun _ _ _ _ => trivial) (fun s8 u7 v6 F h H c cold sb4 o r5 P hn hy hX hk kn ky => ?_) (fun s8 ys p xs F h H c ex o hp rl hk => ?_)
  · refine ⟨rfl, ?_⟩
    have r_size := r_size.mono sb4
    clear cold
    refine c_test ?_
    refine c_op2 ?_
    refine c_callS rfl ?_
    refine x_callS 0 c o rfl (m := ar2 m_law_draw) ar2_n (ea_cons ev_i ea_nil) hX hk fun u1006 w1009 v1005 F h H c sb1008 o r1007 hk => ?_
    replace r_size := r_size.mono sb1008
    replace r5 := r5.mono sb1008
    refine x_val c ev_i hX hk fun u1013 v1012 F H c sb1015 r1014 hk => ?_
    replace o := o.mono sb1015
    replace r_size := r_size.mono sb1015
    replace r5 := r5.mono sb1015
    replace r1007 := r1007.mono sb1015
    refine x_ap2 c nx_eq (.inl r1007) (.inl r1014) hk fun u1017 v1016 F H c sb1019 r1018 hk => ?_
    replace o := o.mono sb1019
    replace r_size := r_size.mono sb1019
    replace r5 := r5.mono sb1019
    refine x_kt c (.inl r1018) hk fun b hk => ?_
    refine c_way hk (fun hk => ?_) (fun hk => ?_)
    · refine x_val c (ev_var rfl r5) hX hk fun u1025 v1024 F H c sb1027 r1026 hk => ?_
      replace o := o.mono sb1027
      replace r_size := r_size.mono sb1027
      replace r5 := r5.mono sb1027
      exact ky _ _ _ _ _ _ hk c o r1026
    · exact kn _ _ _ _ hk c o
  have sb1028 := ex.sub
  replace r_size := r_size.mono sb1028
  refine x_newL c o hp rl fun h H c o => ?_
  exact hrt _ _ _ hk ⟨_, _, _, 0, 0, c, o, rfl, rfl⟩
def Nm_law_open_entries : List Str := ["card", "shut", "found", "k", "entry"]
def Ppm_law_open_entries : List Str := ["card", "shut"]
theorem scm_law_open_entries : FnScope Nm_law_open_entries Ppm_law_open_entries (defScope sm_law_open_entries) := ⟨rfl, rfl, rfl, by decide +kernel, rfl, by decide +kernel, by decide +kernel⟩
theorem okm_law_open_entries {P : Program} {w : World} {K : PySem.W.Frag} {mg : Str → Option Value} {base : Heap} {A : Ad} (T : Txt K mg A) : FnOk P w K mg base CX0 2 A.am_law_open_entries A.dm_law_open_entries Ppm_law_open_entries (SpF K noX 2 (ar2 m_law_open_entries)) := by
  refine T.Fm_law_open_entries.ok scm_law_open_entries (fun vs H Q E h => h.len) (fun cdv A outer s H vs Q E hr h => ?_)
  refine ⟨_, (pss_cons (ps_set (i := 2) scm_law_open_entries.nd rfl (Or.inl rfl) (pe_lst pa_nil))
      (pss_cons (ps_for PassesOwn.never rfl (pi_range1 rfl T.n_range (pa_cons (pe_callB (k_len K) (by rfl) T.n_len PySem.boot_len (pa_cons (pv 0) pa_nil)) pa_nil)) (pg_name (i := 3) scm_law_open_entries.nd rfl (Or.inl rfl)) (pss_cons (ps_set (i := 4) scm_law_open_entries.nd rfl (Or.inl rfl) (pe_ix (k_idx K) (pv 0) (pe_op (k_sub K) (pe_op (k_sub K) (pe_callB (k_len K) (by rfl) T.n_len PySem.boot_len (pa_cons (pv 0) pa_nil)) pe_int) (pv 3)) (fun _ _ => rfl)))
      (pss_cons (ps_if (pt_cmpR (k_notin K hr.un65) (pv 4) (pv 1) (by rfl)) (pss_cons (ps_set (i := 2) scm_law_open_entries.nd rfl (Or.inl rfl) (pe_op (k_add K) (pe_lst (pa_cons (pv 4) pa_nil)) (pv 2)))
      pss_nil) pss_nil)
      pss_nil)))
      (pss_cons (ps_ret (pv 2))
      pss_nil))), ?_⟩
  refine start0_F h fun F us X P c o hn rl hX hk hP => ?_
  obtain ⟨v_card, u_card, vs, us, rfl, rfl, hn, r_card, rl⟩ := repl1 hn rl
  obtain ⟨v_shut, u_shut, vs, us, rfl, rfl, hn, r_shut, rl⟩ := repl1 hn rl
  obtain ⟨rfl, rfl⟩ := repl0 hn rl
  have hrt : ∀ r v H, P r → RV _ r v H → Q v H := fun r v H p ⟨_, _, c, q⟩ => hP _ _ _ _ _ p c q
  clear hP
  change (m_law_open_entries u_card u_shut).Len P X at hk
  unfold m_law_open_entries at hk
  refine c_start [some v_card, some v_shut, none, none, none] rfl ?_
  refine c_setL (fun y => [some v_card, some v_shut, some y, none, none]) (fun _ => rfl) ?_
  refine x_val c (ev_lst ea_nil) hX hk fun u2 v1 F H c sb4 r3 hk => ?_
  replace o := o.mono sb4
  replace r_card := r_card.mono sb4
  replace r_shut := r_shut.mono sb4
  refine x_forF (S := U) (fun s σ F h => ∃ (v8 : V) (d9 : Option V) (d10 : Option V), σ = [some v_card, some v_shut, some v8, d9, d10] ∧ Own K F h [] ∧ Rep K F v8 s) _ c (ei_rng1 (ev_cb nx_len (ev_var rfl r_card).u).u) hX hk (fun F1 sb => ⟨_, _, _, rfl, o.mono sb, r3.mono sb⟩) (fun _ _ _ _ _ => trivial) (fun s11 u16 v13 σ F h H c sb15 a r14 D P hk kn kb hrt => ?_) (fun s11 σ F h H c sb15 a hk => ?_) (fun r v H q rr => hrt r v H q rr)
  · obtain ⟨v8, d9, d10, rfl, o, r17⟩ := a
    refine c_gn [some v_card, some v_shut, some v8, some v13, d10] rfl ?_
    unfold m_law_open_entries_loop1 at hk
    replace r_card := r_card.mono sb15
    replace r_shut := r_shut.mono sb15
    refine c_setL (fun y => [some v_card, some v_shut, some v8, some v13, some y]) (fun _ => rfl) ?_
    refine x_val c (ev_op2 nx_idx (ev_var rfl r_card).u (ev_op2 nx_sub (ev_op2 nx_sub (ev_cb nx_len (ev_var rfl r_card).u).u (ev_i).u).u (ev_var rfl r14).u).u) hX hk fun u19 v18 F H c sb21 r20 hk => ?_
    replace o := o.mono sb21
    replace r_card := r_card.mono sb21
    replace r_shut := r_shut.mono sb21
    replace r17 := r17.mono sb21
    replace r14 := r14.mono sb21
    refine c_if ?_
    refine x_t c (et_test (ev_op2 nx_notin (ev_var rfl r20).u (ev_var rfl r_shut).u).u) hX hk fun b F H c sb33 hk => ?_
    replace o := o.mono sb33
    replace r_card := r_card.mono sb33
    replace r_shut := r_shut.mono sb33
    replace r17 := r17.mono sb33
    replace r14 := r14.mono sb33
    replace r20 := r20.mono sb33
    refine c_way hk (fun hk => ?_) (fun hk => ?_)
    · refine c_setL (fun y => [some v_card, some v_shut, some y, some v13, some v18]) (fun _ => rfl) ?_
      refine x_val c (ev_on2 nx_add (ev_lst (ea_cons (ev_var rfl r20) ea_nil)).u (ev_var rfl r17).u) hX hk fun u36 v35 F H c sb38 r37 hk => ?_
      replace o := o.mono sb38
      replace r_card := r_card.mono sb38
      replace r_shut := r_shut.mono sb38
      replace r17 := r17.mono sb38
      replace r14 := r14.mono sb38
      replace r20 := r20.mono sb38
      refine c_nx2 ?_
      refine c_nx ?_
      exact (kn _ _ _ _ _ hk c (sb21.trans (sb33.trans sb38)) ⟨_, _, _, rfl, o, r37⟩).1
    · refine c_nx2 ?_
      refine c_nx ?_
      exact (kn _ _ _ _ _ hk c (sb21.trans sb33) ⟨_, _, _, rfl, o, r17⟩).1
  obtain ⟨v8, d9, d10, rfl, o, r17⟩ := a
  replace r_card := r_card.mono sb15
  replace r_shut := r_shut.mono sb15
  replace r3 := r3.mono sb15
  refine c_ret ?_
  refine x_val c (ev_var rfl r17) hX hk fun u47 v46 F H c sb49 r48 hk => ?_
  replace o := o.mono sb49
  replace r_card := r_card.mono sb49
  replace r_shut := r_shut.mono sb49
  replace r17 := r17.mono sb49
  exact hrt _ _ _ hk ⟨_, _, c, r48⟩
def Nm_is_card : List Str := ["size", "place", "card", "index", "entry"]
def Ppm_is_card : List Str := ["size", "place", "card"]
theorem scm_is_card : FnScope Nm_is_card Ppm_is_card (defScope sm_is_card) := ⟨rfl, rfl, rfl, by decide +kernel, rfl, by decide +kernel, by decide +kernel⟩
theorem okm_is_card {P : Program} {w : World} {K : PySem.W.Frag} {mg : Str → Option Value} {base : Heap} {A : Ad} (T : Txt K mg A) : FnOk P w K mg base CX0 2 A.am_is_card A.dm_is_card Ppm_is_card (SpF K noX 3 (ar3 m_is_card)) := by
  refine T.Fm_is_card.ok scm_is_card (fun vs H Q E h => h.len) (fun cdv A outer s H vs Q E hr h => ?_)
  refine ⟨_, (pss_cons (ps_for PassesOwn.never rfl (pi_range1 rfl T.n_range (pa_cons (pe_callB (k_len K) (by rfl) T.n_len PySem.boot_len (pa_cons (pv 2) pa_nil)) pa_nil)) (pg_name (i := 3) scm_is_card.nd rfl (Or.inl rfl)) (pss_cons (ps_set (i := 4) scm_is_card.nd rfl (Or.inl rfl) (pe_ix (k_idx K) (pv 2) (pv 3) (fun _ _ => rfl)))
      (pss_cons (ps_if (PW.pt (pw_or (pt_not (pt_chain (k_le K) (k_lt K) pe_int (pv 4) (pv 0))) (pw_or (pt_cmpR (k_eq K hr.un64) (pv 4) (pv 1) (nomark _)) (pw_or1 (pt_cmpR (k_in K hr.un65) (pv 4) (pe_slice (k_slice K) (pv 2) po_none (po_some (pv 3))) (by rfl)))))) (pss_cons (ps_ret pe_bl)
      pss_nil) pss_nil)
      pss_nil)))
      (pss_cons (ps_ret pe_bl)
      pss_nil)), ?_⟩
  refine start0_F h fun F us X P c o hn rl hX hk hP => ?_
  obtain ⟨v_size, u_size, vs, us, rfl, rfl, hn, r_size, rl⟩ := repl1 hn rl
  obtain ⟨v_place, u_place, vs, us, rfl, rfl, hn, r_place, rl⟩ := repl1 hn rl
  obtain ⟨v_card, u_card, vs, us, rfl, rfl, hn, r_card, rl⟩ := repl1 hn rl
  obtain ⟨rfl, rfl⟩ := repl0 hn rl
  have hrt : ∀ r v H, P r → RV _ r v H → Q v H := fun r v H p ⟨_, _, c, q⟩ => hP _ _ _ _ _ p c q
  clear hP
  change (m_is_card u_size u_place u_card).Len P X at hk
  unfold m_is_card at hk
  refine c_start [some v_size, some v_place, some v_card, none, none] rfl ?_
  refine x_forF (S := Unit) (fun s σ F h => ∃ (d3 : Option V) (d4 : Option V), σ = [some v_size, some v_place, some v_card, d3, d4] ∧ Own K F h []) _ c (ei_rng1 (ev_cb nx_len (ev_var rfl r_card).u).u) hX hk (fun F1 sb => ⟨_, _, rfl, o.mono sb⟩) (fun _ _ _ _ _ => trivial) (fun s5 u10 v7 σ F h H c sb9 a r8 D P hk kn kb hrt => ?_) (fun s5 σ F h H c sb9 a hk => ?_) (fun r v H q rr => hrt r v H q rr)
  · obtain ⟨d3, d4, rfl, o⟩ := a
    refine c_gn [some v_size, some v_place, some v_card, some v7, d4] rfl ?_
    unfold m_is_card_loop1 at hk
    replace r_size := r_size.mono sb9
    replace r_place := r_place.mono sb9
    replace r_card := r_card.mono sb9
    refine c_setL (fun y => [some v_size, some v_place, some v_card, some v7, some y]) (fun _ => rfl) ?_
    refine x_val c (ev_op2 nx_idx (ev_var rfl r_card).u (ev_var rfl r8).u) hX hk fun u12 v11 F H c sb14 r13 hk => ?_
    replace o := o.mono sb14
    replace r_size := r_size.mono sb14
    replace r_place := r_place.mono sb14
    replace r_card := r_card.mono sb14
    replace r8 := r8.mono sb14
    refine c_if ?_
    refine x_t c (et_or (et_not (et_test (ev_chain nx_le nx_lt (ev_i).u (ev_var rfl r13).u (ev_var rfl r_size).u).u)) (et_or (et_test (ev_op2 nx_eq (ev_var rfl r13).u (ev_var rfl r_place).u).u) (et_test (ev_op2 nx_in (ev_var rfl r13).u (ev_sl (ev_var rfl r_card).u eo_none (eo_some (ev_var rfl r8).u)).u).u))) hX hk fun b F H c sb37 hk => ?_
    replace o := o.mono sb37
    replace r_size := r_size.mono sb37
    replace r_place := r_place.mono sb37
    replace r_card := r_card.mono sb37
    replace r8 := r8.mono sb37
    replace r13 := r13.mono sb37
    refine c_way hk (fun hk => ?_) (fun hk => ?_)
    · refine c_ret ?_
      refine x_val c ev_b hX hk fun u40 v39 F H c sb42 r41 hk => ?_
      replace o := o.mono sb42
      replace r_size := r_size.mono sb42
      replace r_place := r_place.mono sb42
      replace r_card := r_card.mono sb42
      replace r8 := r8.mono sb42
      replace r13 := r13.mono sb42
      exact hrt _ _ _ hk ⟨_, _, c, r41⟩
    · refine c_nx2 ?_
      refine c_nx ?_
      exact (kn _ _ _ _ _ hk c (sb14.trans sb37) ⟨_, _, rfl, o⟩).1
  obtain ⟨d3, d4, rfl, o⟩ := a
  replace r_size := r_size.mono sb9
  replace r_place := r_place.mono sb9
  replace r_card := r_card.mono sb9
  refine c_ret ?_
  refine x_val c ev_b hX hk fun u48 v47 F H c sb50 r49 hk => ?_
  replace o := o.mono sb50
  replace r_size := r_size.mono sb50
  replace r_place := r_place.mono sb50
  replace r_card := r_card.mono sb50
  exact hrt _ _ _ hk ⟨_, _, c, r49⟩
def Nm_check_book : List Str := ["book", "place"]
def Ppm_check_book : List Str := ["book"]
theorem scm_check_book : FnScope Nm_check_book Ppm_check_book (defScope sm_check_book) := ⟨rfl, rfl, rfl, by decide +kernel, rfl, by decide +kernel, by decide +kernel⟩
theorem okm_check_book {P : Program} {w : World} {K : PySem.W.Frag} {mg : Str → Option Value} {base : Heap} {A : Ad} (T : Txt K mg A) : FnOk P w K mg base CX0 3 A.am_check_book A.dm_check_book Ppm_check_book (SpF K noX 1 (ar1 m_check_book)) := by
  refine T.Fm_check_book.ok scm_check_book (fun vs H Q E h => h.len) (fun cdv A outer s H vs Q E hr h => ?_)
  refine ⟨_, (pss_cons (ps_if (pt_not (pt_chain (k_le K) (k_le K) pe_int (pe_callB (k_len K) (by rfl) T.n_len PySem.boot_len (pa_cons (pv 0) pa_nil)) (pe_globI rfl T.c_MOST))) (pss_cons ps_never
      pss_nil) pss_nil)
      (pss_cons (ps_for PassesOwn.never rfl (pi_range1 rfl T.n_range (pa_cons (pe_callB (k_len K) (by rfl) T.n_len PySem.boot_len (pa_cons (pv 0) pa_nil)) pa_nil)) (pg_name (i := 1) scm_check_book.nd rfl (Or.inl rfl)) (pss_cons (ps_if (pt_not (pt_val (pe_call (okm_is_card T) (hr.mono (by decide)) (by rfl) T.gm_is_card T.Fm_is_card.kp T.bm_is_card .nil pass0 (pa_cons (pe_callB (k_len K) (by rfl) T.n_len PySem.boot_len (pa_cons (pv 0) pa_nil)) (pa_cons (pv 1) (pa_cons (pe_ix (k_idx K) (pv 0) (pv 1) (fun _ _ => rfl)) pa_nil)))))) (pss_cons ps_never
      pss_nil) pss_nil)
      pss_nil))
      pss_nil)), ?_⟩
  refine start0_F h fun F us X P c o hn rl hX hk hP => ?_
  obtain ⟨v_book, u_book, vs, us, rfl, rfl, hn, r_book, rl⟩ := repl1 hn rl
  obtain ⟨rfl, rfl⟩ := repl0 hn rl
  have hrt : ∀ r v H, P r → RV _ r v H → Q v H := fun r v H p ⟨_, _, c, q⟩ => hP _ _ _ _ _ p c q
  clear hP
  change (m_check_book u_book).Len P X at hk
  unfold m_check_book at hk
  refine c_start [some v_book, none] rfl ?_
  refine c_if ?_
  refine x_t c (et_not (et_test (ev_chain nx_le nx_le (ev_i).u (ev_cb nx_len (ev_var rfl r_book).u).u (ev_i).u).u)) hX hk fun b F H c sb9 hk => ?_
  replace o := o.mono sb9
  replace r_book := r_book.mono sb9
  refine c_way hk (fun hk => ?_) (fun hk => ?_)
  · exact hk.elim
  · refine c_nx2 ?_
    refine x_forF (S := Unit) (fun s σ F h => ∃ (d13 : Option V), σ = [some v_book, d13] ∧ Own K F h []) _ c (ei_rng1 (ev_cb nx_len (ev_var rfl r_book).u).u) hX hk (fun F1 sb => ⟨_, rfl, o.mono sb⟩) (fun _ _ _ _ _ => trivial) (fun s14 u19 v16 σ F h H c sb18 a r17 D P hk kn kb hrt => ?_) (fun s14 σ F h H c sb18 a hk => ?_) (fun r v H q rr => hrt r v H q rr)
    · obtain ⟨d13, rfl, o⟩ := a
      refine c_gn [some v_book, some v16] rfl ?_
      unfold m_check_book_loop1 at hk
      replace r_book := r_book.mono sb18
      refine c_if ?_
      refine x_t c (et_not (et_B (ev_call (m := ar3 m_is_card) ar3_n (ea_cons (ev_cb nx_len (ev_var rfl r_book).u) (ea_cons (ev_var rfl r17) (ea_cons (ev_op2 nx_idx (ev_var rfl r_book).u (ev_var rfl r17).u) ea_nil)))).u)) hX hk fun b F H c sb28 hk => ?_
      replace o := o.mono sb28
      replace r_book := r_book.mono sb28
      replace r17 := r17.mono sb28
      refine c_way hk (fun hk => ?_) (fun hk => ?_)
      · exact hk.elim
      · refine c_nx2 ?_
        refine c_nx ?_
        exact (kn _ _ _ _ _ hk c sb28 ⟨_, rfl, o⟩).1
    obtain ⟨d13, rfl, o⟩ := a
    replace r_book := r_book.mono sb18
    refine c_nx ?_
    exact hrt _ _ _ hk ⟨_, _, c, .non⟩
def Nm_check_places : List Str := ["size", "places", "index"]
def Ppm_check_places : List Str := ["size", "places"]
theorem scm_check_places : FnScope Nm_check_places Ppm_check_places (defScope sm_check_places) := ⟨rfl, rfl, rfl, by decide +kernel, rfl, by decide +kernel, by decide +kernel⟩
theorem okm_check_places {P : Program} {w : World} {K : PySem.W.Frag} {mg : Str → Option Value} {base : Heap} {A : Ad} (T : Txt K mg A) : FnOk P w K mg base CX0 2 A.am_check_places A.dm_check_places Ppm_check_places (SpN K noX 2 (ar2 m_check_places)) := by
  refine T.Fm_check_places.ok scm_check_places (fun vs H Q E h => h.len) (fun cdv A outer s H vs Q E hr h => ?_)
  refine ⟨_, (pss_cons (ps_if (pt_not (pt_chain (k_le K) (k_le K) pe_int (pv 0) (pe_globI rfl T.c_MOST))) (pss_cons ps_never
      pss_nil) pss_nil)
      (pss_cons (ps_for PassesOwn.never rfl (pi_range1 rfl T.n_range (pa_cons (pe_callB (k_len K) (by rfl) T.n_len PySem.boot_len (pa_cons (pv 1) pa_nil)) pa_nil)) (pg_name (i := 2) scm_check_places.nd rfl (Or.inl rfl)) (pss_cons (ps_if (PW.pt (pw_or (pt_not (pt_chain (k_le K) (k_lt K) pe_int (pe_ix (k_idx K) (pv 1) (pv 2) (fun _ _ => rfl)) (pv 0))) (pw_or1 (pt_cmpR (k_in K hr.un65) (pe_ix (k_idx K) (pv 1) (pv 2) (fun _ _ => rfl)) (pe_slice (k_slice K) (pv 1) po_none (po_some (pv 2))) (by rfl))))) (pss_cons ps_never
      pss_nil) pss_nil)
      pss_nil))
      (pss_cons (ps_ret (pe_callB (k_sortedD K hr.un200) (by rfl) T.n_sorted (by decide +kernel) (pa_cons (pv 1) pa_nil)))
      pss_nil))), ?_⟩
  refine start0_N h fun F us X P c o hn rl hX hk hP => ?_
  obtain ⟨v_size, u_size, vs, us, rfl, rfl, hn, r_size, rl⟩ := repl1 hn rl
  obtain ⟨v_places, u_places, vs, us, rfl, rfl, hn, r_places, rl⟩ := repl1 hn rl
  obtain ⟨rfl, rfl⟩ := repl0 hn rl
  have hrt : ∀ r v H, P r → RN _ r v H → Q v H := fun r v H p ⟨_, _, l, j, c, o, hj⟩ => hP j _ _ _ _ _ l p c o hj
  clear hP
  change (m_check_places u_size u_places).Len P X at hk
  unfold m_check_places at hk
  refine c_start [some v_size, some v_places, none] rfl ?_
  refine c_if ?_
  refine x_t c (et_not (et_test (ev_chain nx_le nx_le (ev_i).u (ev_var rfl r_size).u (ev_i).u).u)) hX hk fun b F H c sb8 hk => ?_
  replace o := o.mono sb8
  replace r_size := r_size.mono sb8
  replace r_places := r_places.mono sb8
  refine c_way hk (fun hk => ?_) (fun hk => ?_)
  · exact hk.elim
  · refine c_nx2 ?_
    refine x_forF (S := Unit) (fun s σ F h => ∃ (d12 : Option V), σ = [some v_size, some v_places, d12] ∧ Own K F h []) _ c (ei_rng1 (ev_cb nx_len (ev_var rfl r_places).u).u) hX hk (fun F1 sb => ⟨_, rfl, o.mono sb⟩) (fun _ _ _ _ _ => trivial) (fun s13 u18 v15 σ F h H c sb17 a r16 D P hk kn kb hrt => ?_) (fun s13 σ F h H c sb17 a hk => ?_) (fun r v H q rr => hrt r v H q rr)
    · obtain ⟨d12, rfl, o⟩ := a
      refine c_gn [some v_size, some v_places, some v15] rfl ?_
      unfold m_check_places_loop1 at hk
      replace r_size := r_size.mono sb17
      replace r_places := r_places.mono sb17
      refine c_if ?_
      refine x_t c (et_or (et_not (et_test (ev_chain nx_le nx_lt (ev_i).u (ev_op2 nx_idx (ev_var rfl r_places).u (ev_var rfl r16).u).u (ev_var rfl r_size).u).u)) (et_test (ev_op2 nx_in (ev_op2 nx_idx (ev_var rfl r_places).u (ev_var rfl r16).u).u (ev_sl (ev_var rfl r_places).u eo_none (eo_some (ev_var rfl r16).u)).u).u)) hX hk fun b F H c sb38 hk => ?_
      replace o := o.mono sb38
      replace r_size := r_size.mono sb38
      replace r_places := r_places.mono sb38
      replace r16 := r16.mono sb38
      refine c_way hk (fun hk => ?_) (fun hk => ?_)
      · exact hk.elim
      · refine c_nx2 ?_
        refine c_nx ?_
        exact (kn _ _ _ _ _ hk c sb38 ⟨_, rfl, o⟩).1
    obtain ⟨d12, rfl, o⟩ := a
    replace r_size := r_size.mono sb17
    replace r_places := r_places.mono sb17
    refine c_ret ?_
    refine x_new c o (en_cbn nx_sortedD (ev_var rfl r_places).u) hX hk fun u45 v44 F h H c sb46 o hk => ?_
    replace r_size := r_size.mono sb46
    replace r_places := r_places.mono sb46
    exact hrt _ _ _ hk ⟨_, _, _, 0, c, o, rfl⟩
def Nm_first_outside : List Str := ["card", "listed", "entry"]
def Ppm_first_outside : List Str := ["card", "listed"]
theorem scm_first_outside : FnScope Nm_first_outside Ppm_first_outside (defScope sm_first_outside) := ⟨rfl, rfl, rfl, by decide +kernel, rfl, by decide +kernel, by decide +kernel⟩
theorem okm_first_outside {P : Program} {w : World} {K : PySem.W.Frag} {mg : Str → Option Value} {base : Heap} {A : Ad} (T : Txt K mg A) : FnOk P w K mg base CX0 2 A.am_first_outside A.dm_first_outside Ppm_first_outside (SpF K noX 2 (ar2 m_first_outside)) := by
  refine T.Fm_first_outside.ok scm_first_outside (fun vs H Q E h => h.len) (fun cdv A outer s H vs Q E hr h => ?_)
  refine ⟨_, (pss_cons (ps_for PassesOwn.never rfl (kpi_seq K (pv 0)) (pg_name (i := 2) scm_first_outside.nd rfl (Or.inl rfl)) (pss_cons (ps_if (pt_cmpR (k_notin K hr.un65) (pv 2) (pv 1) (by rfl)) (pss_cons (ps_ret (pv 2))
      pss_nil) pss_nil)
      pss_nil))
      (pss_cons (ps_ret (pe_globI rfl T.c_HOME))
      pss_nil)), ?_⟩
  refine start0_F h fun F us X P c o hn rl hX hk hP => ?_
  obtain ⟨v_card, u_card, vs, us, rfl, rfl, hn, r_card, rl⟩ := repl1 hn rl
  obtain ⟨v_listed, u_listed, vs, us, rfl, rfl, hn, r_listed, rl⟩ := repl1 hn rl
  obtain ⟨rfl, rfl⟩ := repl0 hn rl
  have hrt : ∀ r v H, P r → RV _ r v H → Q v H := fun r v H p ⟨_, _, c, q⟩ => hP _ _ _ _ _ p c q
  clear hP
  change (m_first_outside u_card u_listed).Len P X at hk
  unfold m_first_outside at hk
  refine c_start [some v_card, some v_listed, none] rfl ?_
  refine x_forF (S := Unit) (fun s σ F h => ∃ (d2 : Option V), σ = [some v_card, some v_listed, d2] ∧ Own K F h []) _ c (ei_seq (ev_var rfl r_card)) hX hk (fun F1 sb => ⟨_, rfl, o.mono sb⟩) (fun _ _ _ _ _ => trivial) (fun s3 u8 v5 σ F h H c sb7 a r6 D P hk kn kb hrt => ?_) (fun s3 σ F h H c sb7 a hk => ?_) (fun r v H q rr => hrt r v H q rr)
  · obtain ⟨d2, rfl, o⟩ := a
    refine c_gn [some v_card, some v_listed, some v5] rfl ?_
    unfold m_first_outside_loop1 at hk
    replace r_card := r_card.mono sb7
    replace r_listed := r_listed.mono sb7
    refine c_if ?_
    refine x_t c (et_test (ev_op2 nx_notin (ev_var rfl r6).u (ev_var rfl r_listed).u).u) hX hk fun b F H c sb12 hk => ?_
    replace o := o.mono sb12
    replace r_card := r_card.mono sb12
    replace r_listed := r_listed.mono sb12
    replace r6 := r6.mono sb12
    refine c_way hk (fun hk => ?_) (fun hk => ?_)
    · refine c_ret ?_
      refine x_val c (ev_var rfl r6) hX hk fun u15 v14 F H c sb17 r16 hk => ?_
      replace o := o.mono sb17
      replace r_card := r_card.mono sb17
      replace r_listed := r_listed.mono sb17
      replace r6 := r6.mono sb17
      exact hrt _ _ _ hk ⟨_, _, c, r16⟩
    · refine c_nx2 ?_
      refine c_nx ?_
      exact (kn _ _ _ _ _ hk c sb12 ⟨_, rfl, o⟩).1
  obtain ⟨d2, rfl, o⟩ := a
  replace r_card := r_card.mono sb7
  replace r_listed := r_listed.mono sb7
  refine c_ret ?_
  refine x_val c ev_i hX hk fun u23 v22 F H c sb25 r24 hk => ?_
  replace o := o.mono sb25
  replace r_card := r_card.mono sb25
  replace r_listed := r_listed.mono sb25
  exact hrt _ _ _ hk ⟨_, _, c, r24⟩
def Nm_first_open : List Str := ["book", "place", "shut"]
def Ppm_first_open : List Str := ["book", "place", "shut"]
theorem scm_first_open : FnScope Nm_first_open Ppm_first_open (defScope sm_first_open) := ⟨rfl, rfl, rfl, by decide +kernel, rfl, by decide +kernel, by decide +kernel⟩
theorem okm_first_open {P : Program} {w : World} {K : PySem.W.Frag} {mg : Str → Option Value} {base : Heap} {A : Ad} (T : Txt K mg A) : FnOk P w K mg base CX0 4 A.am_first_open A.dm_first_open Ppm_first_open (SpF K noX 3 (ar3 m_first_open)) := by
  refine T.Fm_first_open.ok scm_first_open (fun vs H Q E h => h.len) (fun cdv A outer s H vs Q E hr h => ?_)
  refine ⟨_, (pss_cons (ps_expr (pe_call (okm_check_book T) (hr.mono (by decide)) (by rfl) T.gm_check_book T.Fm_check_book.kp T.bm_check_book .nil pass0 (pa_cons (pv 0) pa_nil)))
      (pss_cons (ps_expr (pe_call (okm_check_places T) (hr.mono (by decide)) (by rfl) T.gm_check_places T.Fm_check_places.kp T.bm_check_places .nil pass0 (pa_cons (pe_callB (k_len K) (by rfl) T.n_len PySem.boot_len (pa_cons (pv 0) pa_nil)) (pa_cons (pe_lst (pa_cons (pv 1) pa_nil)) pa_nil))))
      (pss_cons (ps_expr (pe_call (okm_check_places T) (hr.mono (by decide)) (by rfl) T.gm_check_places T.Fm_check_places.kp T.bm_check_places .nil pass0 (pa_cons (pe_callB (k_len K) (by rfl) T.n_len PySem.boot_len (pa_cons (pv 0) pa_nil)) (pa_cons (pv 2) pa_nil))))
      (pss_cons (ps_ret (pe_call (okm_first_outside T) (hr.mono (by decide)) (by rfl) T.gm_first_outside T.Fm_first_outside.kp T.bm_first_outside .nil pass0 (pa_cons (pe_ix (k_idx K) (pv 0) (pv 1) (fun _ _ => rfl)) (pa_cons (pv 2) pa_nil))))
      pss_nil)))), ?_⟩
  refine start0_F h fun F us X P c o hn rl hX hk hP => ?_
  obtain ⟨v_book, u_book, vs, us, rfl, rfl, hn, r_book, rl⟩ := repl1 hn rl
  obtain ⟨v_place, u_place, vs, us, rfl, rfl, hn, r_place, rl⟩ := repl1 hn rl
  obtain ⟨v_shut, u_shut, vs, us, rfl, rfl, hn, r_shut, rl⟩ := repl1 hn rl
  obtain ⟨rfl, rfl⟩ := repl0 hn rl
  have hrt : ∀ r v H, P r → RV _ r v H → Q v H := fun r v H p ⟨_, _, c, q⟩ => hP _ _ _ _ _ p c q
  clear hP
  change (m_first_open u_book u_place u_shut).Len P X at hk
  unfold m_first_open at hk
  refine c_start [some v_book, some v_place, some v_shut] rfl ?_
  refine c_drop ?_
  refine x_val c (ev_call (m := ar1 m_check_book) ar1_n (ea_cons (ev_var rfl r_book) ea_nil)) hX hk fun u2 v1 F H c sb4 r3 hk => ?_
  replace o := o.mono sb4
  replace r_book := r_book.mono sb4
  replace r_place := r_place.mono sb4
  replace r_shut := r_shut.mono sb4
  refine c_drop ?_
  refine x_val c (ev_callN (m := ar2 m_check_places) ar2_n (ea_cons (ev_cb nx_len (ev_var rfl r_book).u) (ea_cons (ev_lst (ea_cons (ev_var rfl r_place) ea_nil)) ea_nil))) hX hk fun u7 v6 F H c sb9 r8 hk => ?_
  replace o := o.mono sb9
  replace r_book := r_book.mono sb9
  replace r_place := r_place.mono sb9
  replace r_shut := r_shut.mono sb9
  refine c_drop ?_
  refine x_val c (ev_callN (m := ar2 m_check_places) ar2_n (ea_cons (ev_cb nx_len (ev_var rfl r_book).u) (ea_cons (ev_var rfl r_shut) ea_nil))) hX hk fun u15 v14 F H c sb17 r16 hk => ?_
  replace o := o.mono sb17
  replace r_book := r_book.mono sb17
  replace r_place := r_place.mono sb17
  replace r_shut := r_shut.mono sb17
  refine c_ret ?_
  refine x_val c (ev_call (m := ar2 m_first_outside) ar2_n (ea_cons (ev_op2 nx_idx (ev_var rfl r_book).u (ev_var rfl r_place).u) (ea_cons (ev_var rfl r_shut) ea_nil))) hX hk fun u22 v21 F H c sb24 r23 hk => ?_
  replace o := o.mono sb24
  replace r_book := r_book.mono sb24
  replace r_place := r_place.mono sb24
  replace r_shut := r_shut.mono sb24
  exact hrt _ _ _ hk ⟨_, _, c, r23⟩
def Nm_law_whole : List Str := ["thing"]
def Ppm_law_whole : List Str := ["thing"]
theorem scm_law_whole : FnScope Nm_law_whole Ppm_law_whole (defScope sm_law_whole) := ⟨rfl, rfl, rfl, by decide +kernel, rfl, by decide +kernel, by decide +kernel⟩
theorem okm_law_whole {P : Program} {w : World} {K : PySem.W.Frag} {mg : Str → Option Value} {base : Heap} {A : Ad} (T : Txt K mg A) : FnOk P w K mg base CX0 2 A.am_law_whole A.dm_law_whole Ppm_law_whole (SpF K noX 1 (ar1 m_law_whole)) := by
  refine T.Fm_law_whole.ok scm_law_whole (fun vs H Q E h => h.len) (fun cdv A outer s H vs Q E hr h => ?_)
  refine ⟨_, (pss_cons (ps_ret (pe_and (pe_callB (k_isi K (T := "int")) (by rfl) T.n_isinstance (by decide +kernel) (pa_cons (pv 0) (pa_cons (pe_bltn (v := .ty "int") (by rfl) T.n_int (by decide +kernel) rfl) pa_nil))) (pe_one (pe_not (pe_callB (k_isi K (T := "bool")) (by rfl) T.n_isinstance (by decide +kernel) (pa_cons (pv 0) (pa_cons (pe_bltn (v := .ty "bool") (by rfl) T.n_bool (by decide +kernel) rfl) pa_nil)))))))
      pss_nil), ?_⟩
  refine start0_F h fun F us X P c o hn rl hX hk hP => ?_
  obtain ⟨v_thing, u_thing, vs, us, rfl, rfl, hn, r_thing, rl⟩ := repl1 hn rl
  obtain ⟨rfl, rfl⟩ := repl0 hn rl
  have hrt : ∀ r v H, P r → RV _ r v H → Q v H := fun r v H p ⟨_, _, c, q⟩ => hP _ _ _ _ _ p c q
  clear hP
  change (m_law_whole u_thing).Len P X at hk
  unfold m_law_whole at hk
  refine c_start [some v_thing] rfl ?_
  refine c_ret ?_
  refine x_val c (ev_andV (ev_isi (ev_var rfl r_thing).u).u (ev_notV (ev_isi (ev_var rfl r_thing).u).u)) hX hk fun u2 v1 F H c sb4 r3 hk => ?_
  replace o := o.mono sb4
  replace r_thing := r_thing.mono sb4
  exact hrt _ _ _ hk ⟨_, _, c, r3⟩
def Nm_law_same_row : List Str := ["told", "due", "k"]
def Ppm_law_same_row : List Str := ["told", "due"]
theorem scm_law_same_row : FnScope Nm_law_same_row Ppm_law_same_row (defScope sm_law_same_row) := ⟨rfl, rfl, rfl, by decide +kernel, rfl, by decide +kernel, by decide +kernel⟩
theorem okm_law_same_row {P : Program} {w : World} {K : PySem.W.Frag} {mg : Str → Option Value} {base : Heap} {A : Ad} (T : Txt K mg A) : FnOk P w K mg base CX0 3 A.am_law_same_row A.dm_law_same_row Ppm_law_same_row (SpF K noX 2 (ar2 m_law_same_row)) := by
  refine T.Fm_law_same_row.ok scm_law_same_row (fun vs H Q E h => h.len) (fun cdv A outer s H vs Q E hr h => ?_)
  refine ⟨_, (pss_cons (ps_if (PW.pt (pw_or (pt_not (pt_val (pe_callB (k_isi K (T := "list")) (by rfl) T.n_isinstance (by decide +kernel) (pa_cons (pv 0) (pa_cons (pe_bltn (v := .ty "list") (by rfl) T.n_list (by decide +kernel) rfl) pa_nil))))) (pw_or1 (pt_cmpR (k_ne K hr.un64) (pe_callB (k_len K) (by rfl) T.n_len PySem.boot_len (pa_cons (pv 0) pa_nil)) (pe_callB (k_len K) (by rfl) T.n_len PySem.boot_len (pa_cons (pv 1) pa_nil)) (nomark _))))) (pss_cons (ps_ret pe_bl)
      pss_nil) pss_nil)
      (pss_cons (ps_for PassesOwn.never rfl (pi_range1 rfl T.n_range (pa_cons (pe_callB (k_len K) (by rfl) T.n_len PySem.boot_len (pa_cons (pv 1) pa_nil)) pa_nil)) (pg_name (i := 2) scm_law_same_row.nd rfl (Or.inl rfl)) (pss_cons (ps_if (PW.pt (pw_or (pt_not (pt_val (pe_call (okm_law_whole T) (hr.mono (by decide)) (by rfl) T.gm_law_whole T.Fm_law_whole.kp T.bm_law_whole .nil pass0 (pa_cons (pe_ix (k_idx K) (pv 0) (pv 2) (fun _ _ => rfl)) pa_nil)))) (pw_or1 (pt_cmpR (k_ne K hr.un64) (pe_ix (k_idx K) (pv 0) (pv 2) (fun _ _ => rfl)) (pe_ix (k_idx K) (pv 1) (pv 2) (fun _ _ => rfl)) (nomark _))))) (pss_cons (ps_ret pe_bl)
      pss_nil) pss_nil)
      pss_nil))
      (pss_cons (ps_ret pe_bl)
      pss_nil))), ?_⟩
  refine start0_F h fun F us X P c o hn rl hX hk hP => ?_
  obtain ⟨v_told, u_told, vs, us, rfl, rfl, hn, r_told, rl⟩ := repl1 hn rl
  obtain ⟨v_due, u_due, vs, us, rfl, rfl, hn, r_due, rl⟩ := repl1 hn rl
  obtain ⟨rfl, rfl⟩ := repl0 hn rl
  have hrt : ∀ r v H, P r → RV _ r v H → Q v H := fun r v H p ⟨_, _, c, q⟩ => hP _ _ _ _ _ p c q
  clear hP
  change (m_law_same_row u_told u_due).Len P X at hk
  unfold m_law_same_row at hk
  refine c_start [some v_told, some v_due, none] rfl ?_
  refine c_if ?_
  refine x_t c (et_or (et_not (et_B (ev_isi (ev_var rfl r_told).u).u)) (et_test (ev_op2 nx_ne (ev_cb nx_len (ev_var rfl r_told).u).u (ev_cb nx_len (ev_var rfl r_due).u).u).u)) hX hk fun b F H c sb10 hk => ?_
  replace o := o.mono sb10
  replace r_told := r_told.mono sb10
  replace r_due := r_due.mono sb10
  refine c_way hk (fun hk => ?_) (fun hk => ?_)
  · refine c_ret ?_
    refine x_val c ev_b hX hk fun u13 v12 F H c sb15 r14 hk => ?_
    replace o := o.mono sb15
    replace r_told := r_told.mono sb15
    replace r_due := r_due.mono sb15
    exact hrt _ _ _ hk ⟨_, _, c, r14⟩
  · refine c_nx2 ?_
    refine x_forF (S := Unit) (fun s σ F h => ∃ (d19 : Option V), σ = [some v_told, some v_due, d19] ∧ Own K F h []) _ c (ei_rng1 (ev_cb nx_len (ev_var rfl r_due).u).u) hX hk (fun F1 sb => ⟨_, rfl, o.mono sb⟩) (fun _ _ _ _ _ => trivial) (fun s20 u25 v22 σ F h H c sb24 a r23 D P hk kn kb hrt => ?_) (fun s20 σ F h H c sb24 a hk => ?_) (fun r v H q rr => hrt r v H q rr)
    · obtain ⟨d19, rfl, o⟩ := a
      refine c_gn [some v_told, some v_due, some v22] rfl ?_
      unfold m_law_same_row_loop1 at hk
      replace r_told := r_told.mono sb24
      replace r_due := r_due.mono sb24
      refine c_if ?_
      refine x_t c (et_or (et_not (et_B (ev_call (m := ar1 m_law_whole) ar1_n (ea_cons (ev_op2 nx_idx (ev_var rfl r_told).u (ev_var rfl r23).u) ea_nil)).u)) (et_test (ev_op2 nx_ne (ev_op2 nx_idx (ev_var rfl r_told).u (ev_var rfl r23).u).u (ev_op2 nx_idx (ev_var rfl r_due).u (ev_var rfl r23).u).u).u)) hX hk fun b F H c sb39 hk => ?_
      replace o := o.mono sb39
      replace r_told := r_told.mono sb39
      replace r_due := r_due.mono sb39
      replace r23 := r23.mono sb39
      refine c_way hk (fun hk => ?_) (fun hk => ?_)
      · refine c_ret ?_
        refine x_val c ev_b hX hk fun u42 v41 F H c sb44 r43 hk => ?_
        replace o := o.mono sb44
        replace r_told := r_told.mono sb44
        replace r_due := r_due.mono sb44
        replace r23 := r23.mono sb44
        exact hrt _ _ _ hk ⟨_, _, c, r43⟩
      · refine c_nx2 ?_
        refine c_nx ?_
        exact (kn _ _ _ _ _ hk c sb39 ⟨_, rfl, o⟩).1
    obtain ⟨d19, rfl, o⟩ := a
    replace r_told := r_told.mono sb24
    replace r_due := r_due.mono sb24
    refine c_ret ?_
    refine x_val c ev_b hX hk fun u50 v49 F H c sb52 r51 hk => ?_
    replace o := o.mono sb52
    replace r_told := r_told.mono sb52
    replace r_due := r_due.mono sb52
    exact hrt _ _ _ hk ⟨_, _, c, r51⟩
def Nm_law_same_book : List Str := ["told", "due", "k"]
def Ppm_law_same_book : List Str := ["told", "due"]
theorem scm_law_same_book : FnScope Nm_law_same_book Ppm_law_same_book (defScope sm_law_same_book) := ⟨rfl, rfl, rfl, by decide +kernel, rfl, by decide +kernel, by decide +kernel⟩
theorem okm_law_same_book {P : Program} {w : World} {K : PySem.W.Frag} {mg : Str → Option Value} {base : Heap} {A : Ad} (T : Txt K mg A) : FnOk P w K mg base CX0 4 A.am_law_same_book A.dm_law_same_book Ppm_law_same_book (SpF K noX 2 (ar2 m_law_same_book)) := by
  refine T.Fm_law_same_book.ok scm_law_same_book (fun vs H Q E h => h.len) (fun cdv A outer s H vs Q E hr h => ?_)
  refine ⟨_, (pss_cons (ps_if (PW.pt (pw_or (pt_not (pt_val (pe_callB (k_isi K (T := "list")) (by rfl) T.n_isinstance (by decide +kernel) (pa_cons (pv 0) (pa_cons (pe_bltn (v := .ty "list") (by rfl) T.n_list (by decide +kernel) rfl) pa_nil))))) (pw_or1 (pt_cmpR (k_ne K hr.un64) (pe_callB (k_len K) (by rfl) T.n_len PySem.boot_len (pa_cons (pv 0) pa_nil)) (pe_callB (k_len K) (by rfl) T.n_len PySem.boot_len (pa_cons (pv 1) pa_nil)) (nomark _))))) (pss_cons (ps_ret pe_bl)
      pss_nil) pss_nil)
      (pss_cons (ps_for PassesOwn.never rfl (pi_range1 rfl T.n_range (pa_cons (pe_callB (k_len K) (by rfl) T.n_len PySem.boot_len (pa_cons (pv 1) pa_nil)) pa_nil)) (pg_name (i := 2) scm_law_same_book.nd rfl (Or.inl rfl)) (pss_cons (ps_if (pt_not (pt_val (pe_call (okm_law_same_row T) (hr.mono (by decide)) (by rfl) T.gm_law_same_row T.Fm_law_same_row.kp T.bm_law_same_row .nil pass0 (pa_cons (pe_ix (k_idx K) (pv 0) (pv 2) (fun _ _ => rfl)) (pa_cons (pe_ix (k_idx K) (pv 1) (pv 2) (fun _ _ => rfl)) pa_nil))))) (pss_cons (ps_ret pe_bl)
      pss_nil) pss_nil)
      pss_nil))
      (pss_cons (ps_ret pe_bl)
      pss_nil))), ?_⟩
  refine start0_F h fun F us X P c o hn rl hX hk hP => ?_
  obtain ⟨v_told, u_told, vs, us, rfl, rfl, hn, r_told, rl⟩ := repl1 hn rl
  obtain ⟨v_due, u_due, vs, us, rfl, rfl, hn, r_due, rl⟩ := repl1 hn rl
  obtain ⟨rfl, rfl⟩ := repl0 hn rl
  have hrt : ∀ r v H, P r → RV _ r v H → Q v H := fun r v H p ⟨_, _, c, q⟩ => hP _ _ _ _ _ p c q
  clear hP
  change (m_law_same_book u_told u_due).Len P X at hk
  unfold m_law_same_book at hk
  refine c_start [some v_told, some v_due, none] rfl ?_
  refine c_if ?_
  refine x_t c (et_or (et_not (et_B (ev_isi (ev_var rfl r_told).u).u)) (et_test (ev_op2 nx_ne (ev_cb nx_len (ev_var rfl r_told).u).u (ev_cb nx_len (ev_var rfl r_due).u).u).u)) hX hk fun b F H c sb10 hk => ?_
  replace o := o.mono sb10
  replace r_told := r_told.mono sb10
  replace r_due := r_due.mono sb10
  refine c_way hk (fun hk => ?_) (fun hk => ?_)
  · refine c_ret ?_
    refine x_val c ev_b hX hk fun u13 v12 F H c sb15 r14 hk => ?_
    replace o := o.mono sb15
    replace r_told := r_told.mono sb15
    replace r_due := r_due.mono sb15
    exact hrt _ _ _ hk ⟨_, _, c, r14⟩
  · refine c_nx2 ?_
    refine x_forF (S := Unit) (fun s σ F h => ∃ (d19 : Option V), σ = [some v_told, some v_due, d19] ∧ Own K F h []) _ c (ei_rng1 (ev_cb nx_len (ev_var rfl r_due).u).u) hX hk (fun F1 sb => ⟨_, rfl, o.mono sb⟩) (fun _ _ _ _ _ => trivial) (fun s20 u25 v22 σ F h H c sb24 a r23 D P hk kn kb hrt => ?_) (fun s20 σ F h H c sb24 a hk => ?_) (fun r v H q rr => hrt r v H q rr)
    · obtain ⟨d19, rfl, o⟩ := a
      refine c_gn [some v_told, some v_due, some v22] rfl ?_
      unfold m_law_same_book_loop1 at hk
      replace r_told := r_told.mono sb24
      replace r_due := r_due.mono sb24
      refine c_if ?_
      refine x_t c (et_not (et_B (ev_call (m := ar2 m_law_same_row) ar2_n (ea_cons (ev_op2 nx_idx (ev_var rfl r_told).u (ev_var rfl r23).u) (ea_cons (ev_op2 nx_idx (ev_var rfl r_due).u (ev_var rfl r23).u) ea_nil))).u)) hX hk fun b F H c sb34 hk => ?_
      replace o := o.mono sb34
      replace r_told := r_told.mono sb34
      replace r_due := r_due.mono sb34
      replace r23 := r23.mono sb34
      refine c_way hk (fun hk => ?_) (fun hk => ?_)
      · refine c_ret ?_
        refine x_val c ev_b hX hk fun u37 v36 F H c sb39 r38 hk => ?_
        replace o := o.mono sb39
        replace r_told := r_told.mono sb39
        replace r_due := r_due.mono sb39
        replace r23 := r23.mono sb39
        exact hrt _ _ _ hk ⟨_, _, c, r38⟩
      · refine c_nx2 ?_
        refine c_nx ?_
        exact (kn _ _ _ _ _ hk c sb34 ⟨_, rfl, o⟩).1
    obtain ⟨d19, rfl, o⟩ := a
    replace r_told := r_told.mono sb24
    replace r_due := r_due.mono sb24
    refine c_ret ?_
    refine x_val c ev_b hX hk fun u45 v44 F H c sb47 r46 hk => ?_
    replace o := o.mono sb47
    replace r_told := r_told.mono sb47
    replace r_due := r_due.mono sb47
    exact hrt _ _ _ hk ⟨_, _, c, r46⟩
def Nm_law_shuts_along : List Str := ["book", "place", "shut", "handed", "closed", "due", "k", "told", "card"]
def Ppm_law_shuts_along : List Str := ["book", "place", "shut"]
theorem scm_law_shuts_along : FnScope Nm_law_shuts_along Ppm_law_shuts_along (defScope sm_law_shuts_along) := ⟨rfl, rfl, rfl, by decide +kernel, rfl, by decide +kernel, by decide +kernel⟩
theorem okm_law_shuts_along {P : Program} {w : World} {K : PySem.W.Frag} {mg : Str → Option Value} {base : Heap} {A : Ad} (T : Txt K mg A) : FnOk P w K mg base CX0 5 A.am_law_shuts_along A.dm_law_shuts_along Ppm_law_shuts_along (SpF K noX 3 (ar3 m_law_shuts_along)) := by
  refine T.Fm_law_shuts_along.ok scm_law_shuts_along (fun vs H Q E h => h.len) (fun cdv A outer s H vs Q E hr h => ?_)
  refine ⟨_, (pss_cons (ps_setLc (i := 3) (own := [("card", 8)]) (g := (gName 8)) rfl scm_law_shuts_along.nd rfl rfl (sw_true rfl rfl rfl (by decide +kernel)) (kpi_seq K (pv 0)) (blkOk_by (N := Nm_law_shuts_along) (sc := defScope sm_law_shuts_along) (by decide +kernel)) (fun _ _ _ _ _ => pg_name (i := 8) scm_law_shuts_along.nd rfl (Or.inl rfl)) (fun _ _ _ _ _ => pts_nil) (fun _ _ _ _ _ => (pe_callTy (k_list K) (by rfl) T.n_list (by decide +kernel) (pa_cons (pv 8) pa_nil))))
      (pss_cons (ps_set (i := 4) scm_law_shuts_along.nd rfl (Or.inl rfl) (pe_callTy (k_list K) (by rfl) T.n_list (by decide +kernel) (pa_cons (pv 2) pa_nil)))
      (pss_cons (ps_set (i := 5) scm_law_shuts_along.nd rfl (Or.inl rfl) (pe_op (k_add K) (pe_call (okm_law_open_entries T) (hr.mono (by decide)) (by rfl) T.gm_law_open_entries T.Fm_law_open_entries.kp T.bm_law_open_entries .nil pass0 (pa_cons (pe_ix (k_idx K) (pv 0) (pv 1) (fun _ _ => rfl)) (pa_cons (pv 2) pa_nil))) (pe_lst (pa_cons (pe_un (k_neg K) pe_int) pa_nil))))
      (pss_cons (ps_for PassesOwn.never rfl (pi_range1 rfl T.n_range (pa_cons (pe_callB (k_len K) (by rfl) T.n_len PySem.boot_len (pa_cons (pv 5) pa_nil)) pa_nil)) (pg_name (i := 6) scm_law_shuts_along.nd rfl (Or.inl rfl)) (pss_cons (ps_set (i := 7) scm_law_shuts_along.nd rfl (Or.inl rfl) (pe_call (okm_first_open T) (hr.mono (by decide)) (by rfl) T.gm_first_open T.Fm_first_open.kp T.bm_first_open .nil pass0 (pa_cons (pv 3) (pa_cons (pv 1) (pa_cons (pv 4) pa_nil)))))
      (pss_cons (ps_if (PW.pt (pw_or (pt_not (pt_val (pe_call (okm_law_whole T) (hr.mono (by decide)) (by rfl) T.gm_law_whole T.Fm_law_whole.kp T.bm_law_whole .nil pass0 (pa_cons (pv 7) pa_nil)))) (pw_or1 (pt_cmpR (k_ne K hr.un64) (pv 7) (pe_ix (k_idx K) (pv 5) (pv 6) (fun _ _ => rfl)) (nomark _))))) (pss_cons (ps_ret pe_bl)
      pss_nil) pss_nil)
      (pss_cons (ps_if (PW.pt (pw_or (pt_cmpR (k_ne K hr.un64) (pv 4) (pe_op (k_add K) (pv 2) (pe_slice (k_slice K) (pv 5) po_none (po_some (pv 6)))) (nomark _)) (pw_or1 (pt_not (pt_val (pe_call (okm_law_same_book T) (hr.mono (by decide)) (by rfl) T.gm_law_same_book T.Fm_law_same_book.kp T.bm_law_same_book .nil pass0 (pa_cons (pv 3) (pa_cons (pv 0) pa_nil)))))))) (pss_cons (ps_ret pe_bl)
      pss_nil) pss_nil)
      (pss_cons (ps_expr (kpe_bm K PySem.F.plainAttrs_list PySem.F.slot_list_append PySem.F.type_list_append mt_append (pv 4) (pa_cons (pe_ix (k_idx K) (pv 5) (pv 6) (fun _ _ => rfl)) pa_nil)))
      pss_nil)))))
      (pss_cons (ps_ret pe_bl)
      pss_nil))))), ?_⟩
  refine start0_F h fun F us X P c o hn rl hX hk hP => ?_
  obtain ⟨v_book, u_book, vs, us, rfl, rfl, hn, r_book, rl⟩ := repl1 hn rl
  obtain ⟨v_place, u_place, vs, us, rfl, rfl, hn, r_place, rl⟩ := repl1 hn rl
  obtain ⟨v_shut, u_shut, vs, us, rfl, rfl, hn, r_shut, rl⟩ := repl1 hn rl
  obtain ⟨rfl, rfl⟩ := repl0 hn rl
  have hrt : ∀ r v H, P r → RV _ r v H → Q v H := fun r v H p ⟨_, _, c, q⟩ => hP _ _ _ _ _ p c q
  clear hP
  change (m_law_shuts_along u_book u_place u_shut).Len P X at hk
  unfold m_law_shuts_along at hk
  refine c_start [some v_book, some v_place, some v_shut, none, none, none, none, none, none] rfl ?_
  refine c_setL (fun y => [some v_book, some v_place, some v_shut, some y, none, none, none, none, none]) (fun _ => rfl) ?_
  refine x_val c (ev_lc (ei_seq (ev_var rfl r_book)) (fun _ _ => trivial) (ec_all (fun _ => rfl) (fun x6 v7 F9 H10 r8 sb11 => (ev_cbn nx_list (ev_var rfl r8).u)))) hX hk fun u2 v1 F H c sb4 r3 hk => ?_
  replace o := o.mono sb4
  replace r_book := r_book.mono sb4
  replace r_place := r_place.mono sb4
  replace r_shut := r_shut.mono sb4
  refine c_setL (fun y => [some v_book, some v_place, some v_shut, some v1, some y, none, none, none, none]) (fun _ => rfl) ?_
  refine x_new c o (en_cbn nx_list (ev_var rfl r_shut).u) hX hk fun u19 v18 F h H c sb20 o hk => ?_
  replace r_book := r_book.mono sb20
  replace r_place := r_place.mono sb20
  replace r_shut := r_shut.mono sb20
  replace r3 := r3.mono sb20
  refine c_setL (fun y => [some v_book, some v_place, some v_shut, some v1, some v18, some y, none, none, none]) (fun _ => rfl) ?_
  refine x_val c (ev_on2 nx_add (ev_call (m := ar2 m_law_open_entries) ar2_n (ea_cons (ev_op2 nx_idx (ev_var rfl r_book).u (ev_var rfl r_place).u) (ea_cons (ev_var rfl r_shut) ea_nil))).u (ev_lst (ea_cons (ev_un nx_neg (ev_i).u) ea_nil)).u) hX hk fun u25 v24 F H c sb27 r26 hk => ?_
  replace o := o.mono sb27
  replace r_book := r_book.mono sb27
  replace r_place := r_place.mono sb27
  replace r_shut := r_shut.mono sb27
  replace r3 := r3.mono sb27
  refine x_forF (S := U) (fun s σ F h => ∃ (d39 : Option V) (d40 : Option V), σ = [some v_book, some v_place, some v_shut, some v1, some v18, some v24, d39, d40, none] ∧ Own K F h [(v18, s)]) _ c (ei_rng1 (ev_cb nx_len (ev_var rfl r26).u).u) hX hk (fun F1 sb => ⟨_, _, rfl, o.mono sb⟩) (fun _ _ _ _ _ => trivial) (fun s41 u46 v43 σ F h H c sb45 a r44 D P hk kn kb hrt => ?_) (fun s41 σ F h H c sb45 a hk => ?_) (fun r v H q rr => hrt r v H q rr)
  · obtain ⟨d39, d40, rfl, o⟩ := a
    refine c_gn [some v_book, some v_place, some v_shut, some v1, some v18, some v24, some v43, d40, none] rfl ?_
    unfold m_law_shuts_along_loop1 at hk
    replace r_book := r_book.mono sb45
    replace r_place := r_place.mono sb45
    replace r_shut := r_shut.mono sb45
    replace r3 := r3.mono sb45
    replace r26 := r26.mono sb45
    refine c_setL (fun y => [some v_book, some v_place, some v_shut, some v1, some v18, some v24, some v43, some y, none]) (fun _ => rfl) ?_
    refine x_scal c o (fun Fz sz hz => (ev_call (m := ar3 m_first_open) ar3_n (ea_cons (ev_var rfl (r3.mono sz)) (ea_cons (ev_var rfl (r_place.mono sz)) (ea_cons (ev_var rfl (hz 0 _ _ rfl)) ea_nil))))) hX hk fun u48 v47 F H c sb50 r49 hk => ?_
    replace o := o.mono sb50
    replace r_book := r_book.mono sb50
    replace r_place := r_place.mono sb50
    replace r_shut := r_shut.mono sb50
    replace r3 := r3.mono sb50
    replace r26 := r26.mono sb50
    replace r44 := r44.mono sb50
    refine c_if ?_
    refine x_t c (et_or (et_not (et_B (ev_call (m := ar1 m_law_whole) ar1_n (ea_cons (ev_var rfl r49) ea_nil)).u)) (et_test (ev_op2 nx_ne (ev_var rfl r49).u (ev_op2 nx_idx (ev_var rfl r26).u (ev_var rfl r44).u).u).u)) hX hk fun b F H c sb65 hk => ?_
    replace o := o.mono sb65
    replace r_book := r_book.mono sb65
    replace r_place := r_place.mono sb65
    replace r_shut := r_shut.mono sb65
    replace r3 := r3.mono sb65
    replace r26 := r26.mono sb65
    replace r44 := r44.mono sb65
    replace r49 := r49.mono sb65
    refine c_way hk (fun hk => ?_) (fun hk => ?_)
    · refine c_ret ?_
      refine x_val c ev_b hX hk fun u68 v67 F H c sb70 r69 hk => ?_
      replace o := o.mono sb70
      replace r_book := r_book.mono sb70
      replace r_place := r_place.mono sb70
      replace r_shut := r_shut.mono sb70
      replace r3 := r3.mono sb70
      replace r26 := r26.mono sb70
      replace r44 := r44.mono sb70
      replace r49 := r49.mono sb70
      exact hrt _ _ _ hk ⟨_, _, c, r69⟩
    · refine c_nx2 ?_
      refine c_if ?_
      refine x_t c (et_or (et_test (ev_op2 nx_ne (ev_own rfl (o.read (i := 0) rfl)) (ev_on2 nx_add (ev_var rfl r_shut).u (ev_sl (ev_var rfl r26).u eo_none (eo_some (ev_var rfl r44).u)).u).u).u) (et_not (et_B (ev_call (m := ar2 m_law_same_book) ar2_n (ea_cons (ev_var rfl r3) (ea_cons (ev_var rfl r_book) ea_nil))).u))) hX hk fun b F H c sb86 hk => ?_
      replace o := o.mono sb86
      replace r_book := r_book.mono sb86
      replace r_place := r_place.mono sb86
      replace r_shut := r_shut.mono sb86
      replace r3 := r3.mono sb86
      replace r26 := r26.mono sb86
      replace r44 := r44.mono sb86
      replace r49 := r49.mono sb86
      refine c_way hk (fun hk => ?_) (fun hk => ?_)
      · refine c_ret ?_
        refine x_val c ev_b hX hk fun u89 v88 F H c sb91 r90 hk => ?_
        replace o := o.mono sb91
        replace r_book := r_book.mono sb91
        replace r_place := r_place.mono sb91
        replace r_shut := r_shut.mono sb91
        replace r3 := r3.mono sb91
        replace r26 := r26.mono sb91
        replace r44 := r44.mono sb91
        replace r49 := r49.mono sb91
        exact hrt _ _ _ hk ⟨_, _, c, r90⟩
      · refine c_nx2 ?_
        refine x_ty (j := 0) c o rfl hk fun ty hk => ?_
        refine c_app rfl ty ?_
        refine x_val c (ev_op2 nx_idx (ev_var rfl r26).u (ev_var rfl r44).u) hX hk fun u94 v93 F H c sb96 r95 hk => ?_
        replace o := o.mono sb96
        replace r_book := r_book.mono sb96
        replace r_place := r_place.mono sb96
        replace r_shut := r_shut.mono sb96
        replace r3 := r3.mono sb96
        replace r26 := r26.mono sb96
        replace r44 := r44.mono sb96
        replace r49 := r49.mono sb96
        refine (x_app 0 c o rfl r95 hk fun w99 h H c o hk => ?_).2
        refine c_nx ?_
        exact (kn _ _ _ _ _ hk c (sb50.trans (sb65.trans (sb86.trans sb96))) ⟨_, _, rfl, o⟩).1
  obtain ⟨d39, d40, rfl, o⟩ := a
  replace r_book := r_book.mono sb45
  replace r_place := r_place.mono sb45
  replace r_shut := r_shut.mono sb45
  replace r3 := r3.mono sb45
  replace r26 := r26.mono sb45
  refine c_ret ?_
  refine x_val c ev_b hX hk fun u106 v105 F H c sb108 r107 hk => ?_
  replace o := o.mono sb108
  replace r_book := r_book.mono sb108
  replace r_place := r_place.mono sb108
  replace r_shut := r_shut.mono sb108
  replace r3 := r3.mono sb108
  replace r26 := r26.mono sb108
  exact hrt _ _ _ hk ⟨_, _, c, r107⟩
def Nm_law_ahead : List Str := ["card", "place", "goal", "ahead", "entry"]
def Ppm_law_ahead : List Str := ["card", "place", "goal"]
theorem scm_law_ahead : FnScope Nm_law_ahead Ppm_law_ahead (defScope sm_law_ahead) := ⟨rfl, rfl, rfl, by decide +kernel, rfl, by decide +kernel, by decide +kernel⟩
theorem okm_law_ahead {P : Program} {w : World} {K : PySem.W.Frag} {mg : Str → Option Value} {base : Heap} {A : Ad} (T : Txt K mg A) : FnOk P w K mg base CX0 2 A.am_law_ahead A.dm_law_ahead Ppm_law_ahead (SpN K noX 3 (ar3 m_law_ahead)) := by
  refine T.Fm_law_ahead.ok scm_law_ahead (fun vs H Q E h => h.len) (fun cdv A outer s H vs Q E hr h => ?_)
  refine ⟨_, (pss_cons (ps_set (i := 3) scm_law_ahead.nd rfl (Or.inl rfl) (pe_lst (pa_cons (pv 1) pa_nil)))
      (pss_cons (ps_for PassesOwn.never rfl (kpi_seq K (pv 0)) (pg_name (i := 4) scm_law_ahead.nd rfl (Or.inl rfl)) (pss_cons (ps_if (pt_cmpR (k_eq K hr.un64) (pv 4) (pv 2) (nomark _)) (pss_cons (ps_ret (pv 3))
      pss_nil) pss_nil)
      (pss_cons (ps_expr (kpe_bm K PySem.F.plainAttrs_list PySem.F.slot_list_append PySem.F.type_list_append mt_append (pv 3) (pa_cons (pv 4) pa_nil)))
      pss_nil)))
      (pss_cons (ps_ret pe_non)
      pss_nil))), ?_⟩
  refine start0_N h fun F us X P c o hn rl hX hk hP => ?_
  obtain ⟨v_card, u_card, vs, us, rfl, rfl, hn, r_card, rl⟩ := repl1 hn rl
  obtain ⟨v_place, u_place, vs, us, rfl, rfl, hn, r_place, rl⟩ := repl1 hn rl
  obtain ⟨v_goal, u_goal, vs, us, rfl, rfl, hn, r_goal, rl⟩ := repl1 hn rl
  obtain ⟨rfl, rfl⟩ := repl0 hn rl
  have hrt : ∀ r v H, P r → RN _ r v H → Q v H := fun r v H p ⟨_, _, l, j, c, o, hj⟩ => hP j _ _ _ _ _ l p c o hj
  clear hP
  change (m_law_ahead u_card u_place u_goal).Len P X at hk
  unfold m_law_ahead at hk
  refine c_start [some v_card, some v_place, some v_goal, none, none] rfl ?_
  refine c_setL (fun y => [some v_card, some v_place, some v_goal, some y, none]) (fun _ => rfl) ?_
  refine x_new c o (en_lst (ea_cons (ev_var rfl r_place) ea_nil)) hX hk fun u3 v2 F h H c sb4 o hk => ?_
  replace r_card := r_card.mono sb4
  replace r_place := r_place.mono sb4
  replace r_goal := r_goal.mono sb4
  refine x_forF (S := U) (fun s σ F h => ∃ (d9 : Option V), σ = [some v_card, some v_place, some v_goal, some v2, d9] ∧ Own K F h [(v2, s)]) _ c (ei_seq (ev_var rfl r_card)) hX hk (fun F1 sb => ⟨_, rfl, o.mono sb⟩) (fun _ _ _ _ _ => trivial) (fun s10 u15 v12 σ F h H c sb14 a r13 D P hk kn kb hrt => ?_) (fun s10 σ F h H c sb14 a hk => ?_) (fun r v H q rr => hrt r v H q rr)
  · obtain ⟨d9, rfl, o⟩ := a
    refine c_gn [some v_card, some v_place, some v_goal, some v2, some v12] rfl ?_
    unfold m_law_ahead_loop1 at hk
    replace r_card := r_card.mono sb14
    replace r_place := r_place.mono sb14
    replace r_goal := r_goal.mono sb14
    refine c_if ?_
    refine x_t c (et_test (ev_op2 nx_eq (ev_var rfl r13).u (ev_var rfl r_goal).u).u) hX hk fun b F H c sb19 hk => ?_
    replace o := o.mono sb19
    replace r_card := r_card.mono sb19
    replace r_place := r_place.mono sb19
    replace r_goal := r_goal.mono sb19
    replace r13 := r13.mono sb19
    refine c_way hk (fun hk => ?_) (fun hk => ?_)
    · refine c_ret ?_
      refine c_var rfl ?_
      exact hrt _ _ _ hk ⟨_, _, _, 0, c, o, rfl⟩
    · refine c_nx2 ?_
      refine x_ty (j := 0) c o rfl hk fun ty hk => ?_
      refine c_app rfl ty ?_
      refine x_val c (ev_var rfl r13) hX hk fun u22 v21 F H c sb24 r23 hk => ?_
      replace o := o.mono sb24
      replace r_card := r_card.mono sb24
      replace r_place := r_place.mono sb24
      replace r_goal := r_goal.mono sb24
      replace r13 := r13.mono sb24
      refine (x_app 0 c o rfl r23 hk fun w25 h H c o hk => ?_).2
      refine c_nx ?_
      exact (kn _ _ _ _ _ hk c (sb19.trans sb24) ⟨_, rfl, o⟩).1
  obtain ⟨d9, rfl, o⟩ := a
  replace r_card := r_card.mono sb14
  replace r_place := r_place.mono sb14
  replace r_goal := r_goal.mono sb14
  refine c_ret ?_
  refine x_val c ev_n hX hk fun u32 v31 F H c sb34 r33 hk => ?_
  replace o := o.mono sb34
  replace r_card := r_card.mono sb34
  replace r_place := r_place.mono sb34
  replace r_goal := r_goal.mono sb34
  refine x_flat hk fun fl hk => ?_
  replace o := o.scal r33 fl
  exact hrt _ _ _ hk ⟨_, _, _, 0, c, o, rfl⟩
def Nm_places_ahead : List Str := ["book", "place", "goal", "card"]
def Ppm_places_ahead : List Str := ["book", "place", "goal"]
theorem scm_places_ahead : FnScope Nm_places_ahead Ppm_places_ahead (defScope sm_places_ahead) := ⟨rfl, rfl, rfl, by decide +kernel, rfl, by decide +kernel, by decide +kernel⟩
theorem okm_places_ahead {P : Program} {w : World} {K : PySem.W.Frag} {mg : Str → Option Value} {base : Heap} {A : Ad} (T : Txt K mg A) : FnOk P w K mg base CX0 4 A.am_places_ahead A.dm_places_ahead Ppm_places_ahead (SpN K noX 3 (ar3 m_places_ahead)) := by
  refine T.Fm_places_ahead.ok scm_places_ahead (fun vs H Q E h => h.len) (fun cdv A outer s H vs Q E hr h => ?_)
  refine ⟨_, (pss_cons (ps_expr (pe_call (okm_check_book T) (hr.mono (by decide)) (by rfl) T.gm_check_book T.Fm_check_book.kp T.bm_check_book .nil pass0 (pa_cons (pv 0) pa_nil)))
      (pss_cons (ps_expr (pe_call (okm_check_places T) (hr.mono (by decide)) (by rfl) T.gm_check_places T.Fm_check_places.kp T.bm_check_places .nil pass0 (pa_cons (pe_callB (k_len K) (by rfl) T.n_len PySem.boot_len (pa_cons (pv 0) pa_nil)) (pa_cons (pe_lst (pa_cons (pv 1) pa_nil)) pa_nil))))
      (pss_cons (ps_expr (pe_call (okm_check_places T) (hr.mono (by decide)) (by rfl) T.gm_check_places T.Fm_check_places.kp T.bm_check_places .nil pass0 (pa_cons (pe_callB (k_len K) (by rfl) T.n_len PySem.boot_len (pa_cons (pv 0) pa_nil)) (pa_cons (pe_lst (pa_cons (pv 2) pa_nil)) pa_nil))))
      (pss_cons (ps_set (i := 3) scm_places_ahead.nd rfl (Or.inl rfl) (pe_ix (k_idx K) (pv 0) (pv 1) (fun _ _ => rfl)))
      (pss_cons (ps_if (pt_cmpR (k_eq K hr.un64) (pv 2) (pv 1) (nomark _)) (pss_cons (ps_ret (pe_lst pa_nil))
      pss_nil) pss_nil)
      (pss_cons (ps_if (pt_cmpR (k_notin K hr.un65) (pv 2) (pv 3) (by rfl)) (pss_cons (ps_ret pe_non)
      pss_nil) pss_nil)
      (pss_cons (ps_ret (pe_op (k_add K) (pe_lst (pa_cons (pv 1) pa_nil)) (pe_slice (k_slice K) (pv 3) po_none (po_some (kpe_bm K PySem.F.plainAttrs_list PySem.F.slot_list_index PySem.F.type_list_index (k_index K hr.un65) (pv 3) (pa_cons (pv 2) pa_nil))))))
      pss_nil))))))), ?_⟩
  refine start0_N h fun F us X P c o hn rl hX hk hP => ?_
  obtain ⟨v_book, u_book, vs, us, rfl, rfl, hn, r_book, rl⟩ := repl1 hn rl
  obtain ⟨v_place, u_place, vs, us, rfl, rfl, hn, r_place, rl⟩ := repl1 hn rl
  obtain ⟨v_goal, u_goal, vs, us, rfl, rfl, hn, r_goal, rl⟩ := repl1 hn rl
  obtain ⟨rfl, rfl⟩ := repl0 hn rl
  have hrt : ∀ r v H, P r → RN _ r v H → Q v H := fun r v H p ⟨_, _, l, j, c, o, hj⟩ => hP j _ _ _ _ _ l p c o hj
  clear hP
  change (m_places_ahead u_book u_place u_goal).Len P X at hk
  unfold m_places_ahead at hk
  refine c_start [some v_book, some v_place, some v_goal, none] rfl ?_
  refine c_drop ?_
  refine x_val c (ev_call (m := ar1 m_check_book) ar1_n (ea_cons (ev_var rfl r_book) ea_nil)) hX hk fun u2 v1 F H c sb4 r3 hk => ?_
  replace o := o.mono sb4
  replace r_book := r_book.mono sb4
  replace r_place := r_place.mono sb4
  replace r_goal := r_goal.mono sb4
  refine c_drop ?_
  refine x_val c (ev_callN (m := ar2 m_check_places) ar2_n (ea_cons (ev_cb nx_len (ev_var rfl r_book).u) (ea_cons (ev_lst (ea_cons (ev_var rfl r_place) ea_nil)) ea_nil))) hX hk fun u7 v6 F H c sb9 r8 hk => ?_
  replace o := o.mono sb9
  replace r_book := r_book.mono sb9
  replace r_place := r_place.mono sb9
  replace r_goal := r_goal.mono sb9
  refine c_drop ?_
  refine x_val c (ev_callN (m := ar2 m_check_places) ar2_n (ea_cons (ev_cb nx_len (ev_var rfl r_book).u) (ea_cons (ev_lst (ea_cons (ev_var rfl r_goal) ea_nil)) ea_nil))) hX hk fun u15 v14 F H c sb17 r16 hk => ?_
  replace o := o.mono sb17
  replace r_book := r_book.mono sb17
  replace r_place := r_place.mono sb17
  replace r_goal := r_goal.mono sb17
  refine c_setL (fun y => [some v_book, some v_place, some v_goal, some y]) (fun _ => rfl) ?_
  refine x_val c (ev_op2 nx_idx (ev_var rfl r_book).u (ev_var rfl r_place).u) hX hk fun u23 v22 F H c sb25 r24 hk => ?_
  replace o := o.mono sb25
  replace r_book := r_book.mono sb25
  replace r_place := r_place.mono sb25
  replace r_goal := r_goal.mono sb25
  refine c_if ?_
  refine x_t c (et_test (ev_op2 nx_eq (ev_var rfl r_goal).u (ev_var rfl r_place).u).u) hX hk fun b F H c sb32 hk => ?_
  replace o := o.mono sb32
  replace r_book := r_book.mono sb32
  replace r_place := r_place.mono sb32
  replace r_goal := r_goal.mono sb32
  replace r24 := r24.mono sb32
  refine c_way hk (fun hk => ?_) (fun hk => ?_)
  · refine c_ret ?_
    refine x_new c o (en_lst ea_nil) hX hk fun u35 v34 F h H c sb36 o hk => ?_
    replace r_book := r_book.mono sb36
    replace r_place := r_place.mono sb36
    replace r_goal := r_goal.mono sb36
    replace r24 := r24.mono sb36
    exact hrt _ _ _ hk ⟨_, _, _, 0, c, o, rfl⟩
  · refine c_nx2 ?_
    refine c_if ?_
    refine x_t c (et_test (ev_op2 nx_notin (ev_var rfl r_goal).u (ev_var rfl r24).u).u) hX hk fun b F H c sb43 hk => ?_
    replace o := o.mono sb43
    replace r_book := r_book.mono sb43
    replace r_place := r_place.mono sb43
    replace r_goal := r_goal.mono sb43
    replace r24 := r24.mono sb43
    refine c_way hk (fun hk => ?_) (fun hk => ?_)
    · refine c_ret ?_
      refine x_val c ev_n hX hk fun u46 v45 F H c sb48 r47 hk => ?_
      replace o := o.mono sb48
      replace r_book := r_book.mono sb48
      replace r_place := r_place.mono sb48
      replace r_goal := r_goal.mono sb48
      replace r24 := r24.mono sb48
      refine x_flat hk fun fl hk => ?_
      replace o := o.scal r47 fl
      exact hrt _ _ _ hk ⟨_, _, _, 0, c, o, rfl⟩
    · refine c_nx2 ?_
      refine c_ret ?_
      refine x_new c o (en_on2 nx_add (ev_lst (ea_cons (ev_var rfl r_place) ea_nil)).u (ev_sl (ev_var rfl r24).u eo_none (eo_some (ev_index (ev_var rfl r24).u (ev_var rfl r_goal).u).u)).u) hX hk fun u61 v60 F h H c sb62 o hk => ?_
      replace r_book := r_book.mono sb62
      replace r_place := r_place.mono sb62
      replace r_goal := r_goal.mono sb62
      replace r24 := r24.mono sb62
      exact hrt _ _ _ hk ⟨_, _, _, 0, c, o, rfl⟩
def Nm_law_tells_ahead : List Str := ["book", "place", "goal", "handed", "due", "turn", "told", "card"]
def Ppm_law_tells_ahead : List Str := ["book", "place", "goal"]
theorem scm_law_tells_ahead : FnScope Nm_law_tells_ahead Ppm_law_tells_ahead (defScope sm_law_tells_ahead) := ⟨rfl, rfl, rfl, by decide +kernel, rfl, by decide +kernel, by decide +kernel⟩
theorem okm_law_tells_ahead {P : Program} {w : World} {K : PySem.W.Frag} {mg : Str → Option Value} {base : Heap} {A : Ad} (T : Txt K mg A) : FnOk P w K mg base CX0 5 A.am_law_tells_ahead A.dm_law_tells_ahead Ppm_law_tells_ahead (SpF K noX 3 (ar3 m_law_tells_ahead)) := by
  refine T.Fm_law_tells_ahead.ok scm_law_tells_ahead (fun vs H Q E h => h.len) (fun cdv A outer s H vs Q E hr h => ?_)
  refine ⟨_, (pss_cons (ps_setLc (i := 3) (own := [("card", 7)]) (g := (gName 7)) rfl scm_law_tells_ahead.nd rfl rfl (sw_true rfl rfl rfl (by decide +kernel)) (kpi_seq K (pv 0)) (blkOk_by (N := Nm_law_tells_ahead) (sc := defScope sm_law_tells_ahead) (by decide +kernel)) (fun _ _ _ _ _ => pg_name (i := 7) scm_law_tells_ahead.nd rfl (Or.inl rfl)) (fun _ _ _ _ _ => pts_nil) (fun _ _ _ _ _ => (pe_callTy (k_list K) (by rfl) T.n_list (by decide +kernel) (pa_cons (pv 7) pa_nil))))
      (pss_cons (ps_set (i := 4) scm_law_tells_ahead.nd rfl (Or.inl rfl) (pe_call (okm_law_ahead T) (hr.mono (by decide)) (by rfl) T.gm_law_ahead T.Fm_law_ahead.kp T.bm_law_ahead .nil pass0 (pa_cons (pe_ix (k_idx K) (pv 0) (pv 1) (fun _ _ => rfl)) (pa_cons (pv 1) (pa_cons (pv 2) pa_nil)))))
      (pss_cons (ps_if (pt_cmpR (k_eq K hr.un64) (pv 1) (pv 2) (nomark _)) (pss_cons (ps_set (i := 4) scm_law_tells_ahead.nd rfl (Or.inl rfl) (pe_lst pa_nil))
      pss_nil) pss_nil)
      (pss_cons (ps_for PassesOwn.never rfl (pi_range1 rfl T.n_range (pa_cons pe_int pa_nil)) (pg_name (i := 5) scm_law_tells_ahead.nd rfl (Or.inl rfl)) (pss_cons (ps_set (i := 6) scm_law_tells_ahead.nd rfl (Or.inl rfl) (pe_call (okm_places_ahead T) (hr.mono (by decide)) (by rfl) T.gm_places_ahead T.Fm_places_ahead.kp T.bm_places_ahead .nil pass0 (pa_cons (pv 3) (pa_cons (pv 1) (pa_cons (pv 2) pa_nil)))))
      (pss_cons (ps_if (pt_not (pt_val (pe_call (okm_law_same_book T) (hr.mono (by decide)) (by rfl) T.gm_law_same_book T.Fm_law_same_book.kp T.bm_law_same_book .nil pass0 (pa_cons (pv 3) (pa_cons (pv 0) pa_nil))))) (pss_cons (ps_ret pe_bl)
      pss_nil) pss_nil)
      (pss_cons (ps_if (pt_cmpR (k_isN K) (pv 4) pe_non (nomark _)) (pss_cons (ps_if (pt_cmpR (k_notN K) (pv 6) pe_non (nomark _)) (pss_cons (ps_ret pe_bl)
      pss_nil) pss_nil)
      pss_nil) (pss_cons (ps_if (pt_val (pe_call (okm_law_same_row T) (hr.mono (by decide)) (by rfl) T.gm_law_same_row T.Fm_law_same_row.kp T.bm_law_same_row .nil pass0 (pa_cons (pv 6) (pa_cons (pv 4) pa_nil)))) (pss_cons (ps_expr (kpe_bm K PySem.F.plainAttrs_list PySem.F.slot_list_append PySem.F.type_list_append mt_append (pv 6) (pa_cons (pv 2) pa_nil)))
      pss_nil) (pss_cons (ps_ret pe_bl)
      pss_nil))
      pss_nil))
      pss_nil))))
      (pss_cons (ps_ret pe_bl)
      pss_nil))))), ?_⟩
  refine start0_F h fun F us X P c o hn rl hX hk hP => ?_
  obtain ⟨v_book, u_book, vs, us, rfl, rfl, hn, r_book, rl⟩ := repl1 hn rl
  obtain ⟨v_place, u_place, vs, us, rfl, rfl, hn, r_place, rl⟩ := repl1 hn rl
  obtain ⟨v_goal, u_goal, vs, us, rfl, rfl, hn, r_goal, rl⟩ := repl1 hn rl
  obtain ⟨rfl, rfl⟩ := repl0 hn rl
  have hrt : ∀ r v H, P r → RV _ r v H → Q v H := fun r v H p ⟨_, _, c, q⟩ => hP _ _ _ _ _ p c q
  clear hP
  change (m_law_tells_ahead u_book u_place u_goal).Len P X at hk
  unfold m_law_tells_ahead at hk
  refine c_start [some v_book, some v_place, some v_goal, none, none, none, none, none] rfl ?_
  refine c_setL (fun y => [some v_book, some v_place, some v_goal, some y, none, none, none, none]) (fun _ => rfl) ?_
  refine x_val c (ev_lc (ei_seq (ev_var rfl r_book)) (fun _ _ => trivial) (ec_all (fun _ => rfl) (fun x6 v7 F9 H10 r8 sb11 => (ev_cbn nx_list (ev_var rfl r8).u)))) hX hk fun u2 v1 F H c sb4 r3 hk => ?_
  replace o := o.mono sb4
  replace r_book := r_book.mono sb4
  replace r_place := r_place.mono sb4
  replace r_goal := r_goal.mono sb4
  refine c_setL (fun y => [some v_book, some v_place, some v_goal, some v1, some y, none, none, none]) (fun _ => rfl) ?_
  refine x_val c (ev_callN (m := ar3 m_law_ahead) ar3_n (ea_cons (ev_op2 nx_idx (ev_var rfl r_book).u (ev_var rfl r_place).u) (ea_cons (ev_var rfl r_place) (ea_cons (ev_var rfl r_goal) ea_nil)))) hX hk fun u18 v17 F H c sb20 r19 hk => ?_
  replace o := o.mono sb20
  replace r_book := r_book.mono sb20
  replace r_place := r_place.mono sb20
  replace r_goal := r_goal.mono sb20
  replace r3 := r3.mono sb20
  refine x_join (J := U) (fun j σ F h => ∃ (v27 : V), σ = [some v_book, some v_place, some v_goal, some v1, some v27, none, none, none] ∧ Own K F h [] ∧ Rep K F v27 j) c hk (fun D P hk kj => ?_) ?_
  · refine c_ifN ?_
    refine x_t c (et_test (ev_op2 nx_eq (ev_var rfl r_place).u (ev_var rfl r_goal).u).u) hX hk fun b F H c sb31 hk => ?_
    replace o := o.mono sb31
    replace r_book := r_book.mono sb31
    replace r_place := r_place.mono sb31
    replace r_goal := r_goal.mono sb31
    replace r3 := r3.mono sb31
    replace r19 := r19.mono sb31
    refine c_way hk (fun hk => ?_) (fun hk => ?_)
    · refine c_setL (fun y => [some v_book, some v_place, some v_goal, some v1, some y, none, none, none]) (fun _ => rfl) ?_
      refine x_val c (ev_lst ea_nil) hX hk fun u34 v33 F H c sb36 r35 hk => ?_
      replace o := o.mono sb36
      replace r_book := r_book.mono sb36
      replace r_place := r_place.mono sb36
      replace r_goal := r_goal.mono sb36
      replace r3 := r3.mono sb36
      replace r19 := r19.mono sb36
      refine c_nx ?_
      exact kj _ _ _ _ _ hk c (sb31.trans sb36) ⟨_, rfl, o, r35⟩
    · refine c_nx ?_
      exact kj _ _ _ _ _ hk c sb31 ⟨_, rfl, o, r19⟩
  rintro j _ F h H c sb38 ⟨v27, rfl, o, r39⟩ hk
  replace r_book := r_book.mono sb38
  replace r_place := r_place.mono sb38
  replace r_goal := r_goal.mono sb38
  replace r3 := r3.mono sb38
  replace r19 := r19.mono sb38
  refine x_forF (S := Unit) (fun s σ F h => ∃ (d42 : Option V) (d43 : Option V), σ = [some v_book, some v_place, some v_goal, some v1, some v27, d42, d43, none] ∧ Own K F h []) _ c (ei_rng1 ev_i.u) hX hk (fun F1 sb => ⟨_, _, rfl, o.mono sb⟩) (fun _ _ _ _ _ => trivial) (fun s44 u49 v46 σ F h H c sb48 a r47 D P hk kn kb hrt => ?_) (fun s44 σ F h H c sb48 a hk => ?_) (fun r v H q rr => hrt r v H q rr)
  · obtain ⟨d42, d43, rfl, o⟩ := a
    refine c_gn [some v_book, some v_place, some v_goal, some v1, some v27, some v46, d43, none] rfl ?_
    unfold m_law_tells_ahead_loop1 at hk
    replace r_book := r_book.mono sb48
    replace r_place := r_place.mono sb48
    replace r_goal := r_goal.mono sb48
    replace r3 := r3.mono sb48
    replace r39 := r39.mono sb48
    refine c_setL (fun y => [some v_book, some v_place, some v_goal, some v1, some v27, some v46, some y, none]) (fun _ => rfl) ?_
    refine x_callN c o (m := ar3 m_places_ahead) ar3_n (ea_cons (ev_var rfl r3) (ea_cons (ev_var rfl r_place) (ea_cons (ev_var rfl r_goal) ea_nil))) hX hk fun u54 v53 F h H c sb55 o hk => ?_
    replace r_book := r_book.mono sb55
    replace r_place := r_place.mono sb55
    replace r_goal := r_goal.mono sb55
    replace r3 := r3.mono sb55
    replace r39 := r39.mono sb55
    replace r47 := r47.mono sb55
    refine c_if ?_
    refine x_t c (et_not (et_B (ev_call (m := ar2 m_law_same_book) ar2_n (ea_cons (ev_var rfl r3) (ea_cons (ev_var rfl r_book) ea_nil))).u)) hX hk fun b F H c sb63 hk => ?_
    replace o := o.mono sb63
    replace r_book := r_book.mono sb63
    replace r_place := r_place.mono sb63
    replace r_goal := r_goal.mono sb63
    replace r3 := r3.mono sb63
    replace r39 := r39.mono sb63
    replace r47 := r47.mono sb63
    refine c_way hk (fun hk => ?_) (fun hk => ?_)
    · refine c_ret ?_
      refine x_val c ev_b hX hk fun u66 v65 F H c sb68 r67 hk => ?_
      replace o := o.mono sb68
      replace r_book := r_book.mono sb68
      replace r_place := r_place.mono sb68
      replace r_goal := r_goal.mono sb68
      replace r3 := r3.mono sb68
      replace r39 := r39.mono sb68
      replace r47 := r47.mono sb68
      exact hrt _ _ _ hk ⟨_, _, c, r67⟩
    · refine c_nx2 ?_
      refine c_if ?_
      refine x_t c (et_test (ev_op2 nx_isN (ev_var rfl r39).u (ev_n).u).u) hX hk fun b F H c sb73 hk => ?_
      replace o := o.mono sb73
      replace r_book := r_book.mono sb73
      replace r_place := r_place.mono sb73
      replace r_goal := r_goal.mono sb73
      replace r3 := r3.mono sb73
      replace r39 := r39.mono sb73
      replace r47 := r47.mono sb73
      refine c_way hk (fun hk => ?_) (fun hk => ?_)
      · refine c_if ?_
        refine x_t c (et_test (ev_op2 nx_notN (ev_own rfl (o.read (i := 0) rfl)) (ev_n).u).u) hX hk fun b F H c sb78 hk => ?_
        replace o := o.mono sb78
        replace r_book := r_book.mono sb78
        replace r_place := r_place.mono sb78
        replace r_goal := r_goal.mono sb78
        replace r3 := r3.mono sb78
        replace r39 := r39.mono sb78
        replace r47 := r47.mono sb78
        refine c_way hk (fun hk => ?_) (fun hk => ?_)
        · refine c_ret ?_
          refine x_val c ev_b hX hk fun u81 v80 F H c sb83 r82 hk => ?_
          replace o := o.mono sb83
          replace r_book := r_book.mono sb83
          replace r_place := r_place.mono sb83
          replace r_goal := r_goal.mono sb83
          replace r3 := r3.mono sb83
          replace r39 := r39.mono sb83
          replace r47 := r47.mono sb83
          exact hrt _ _ _ hk ⟨_, _, c, r82⟩
        · refine c_nx2 ?_
          refine c_nx2 ?_
          refine c_nx ?_
          refine x_drop 0 c o rfl fun h c o => ?_
          exact (kn _ _ _ _ _ hk c (sb55.trans (sb63.trans (sb73.trans sb78))) ⟨_, _, rfl, o⟩).1
      · refine c_if ?_
        refine x_scalT c o (fun Fz sz hz => (et_B (ev_call (m := ar2 m_law_same_row) ar2_n (ea_cons (ev_var rfl (hz 0 _ _ rfl)) (ea_cons (ev_var rfl (r39.mono sz)) ea_nil))).u)) hX hk fun b F H c sb88 hk => ?_
        replace o := o.mono sb88
        replace r_book := r_book.mono sb88
        replace r_place := r_place.mono sb88
        replace r_goal := r_goal.mono sb88
        replace r3 := r3.mono sb88
        replace r39 := r39.mono sb88
        replace r47 := r47.mono sb88
        refine c_way hk (fun hk => ?_) (fun hk => ?_)
        · refine x_ty (j := 0) c o rfl hk fun ty hk => ?_
          refine c_app rfl ty ?_
          refine x_val c (ev_var rfl r_goal) hX hk fun u91 v90 F H c sb93 r92 hk => ?_
          replace o := o.mono sb93
          replace r_book := r_book.mono sb93
          replace r_place := r_place.mono sb93
          replace r_goal := r_goal.mono sb93
          replace r3 := r3.mono sb93
          replace r39 := r39.mono sb93
          replace r47 := r47.mono sb93
          refine (x_app 0 c o rfl r92 hk fun w94 h H c o hk => ?_).2
          refine c_nx2 ?_
          refine c_nx2 ?_
          refine c_nx ?_
          refine x_drop 0 c o rfl fun h c o => ?_
          exact (kn _ _ _ _ _ hk c (sb55.trans (sb63.trans (sb73.trans (sb88.trans sb93)))) ⟨_, _, rfl, o⟩).1
        · refine c_ret ?_
          refine x_val c ev_b hX hk fun u98 v97 F H c sb100 r99 hk => ?_
          replace o := o.mono sb100
          replace r_book := r_book.mono sb100
          replace r_place := r_place.mono sb100
          replace r_goal := r_goal.mono sb100
          replace r3 := r3.mono sb100
          replace r39 := r39.mono sb100
          replace r47 := r47.mono sb100
          exact hrt _ _ _ hk ⟨_, _, c, r99⟩
  obtain ⟨d42, d43, rfl, o⟩ := a
  replace r_book := r_book.mono sb48
  replace r_place := r_place.mono sb48
  replace r_goal := r_goal.mono sb48
  replace r3 := r3.mono sb48
  replace r39 := r39.mono sb48
  refine c_ret ?_
  refine x_val c ev_b hX hk fun u106 v105 F H c sb108 r107 hk => ?_
  replace o := o.mono sb108
  replace r_book := r_book.mono sb108
  replace r_place := r_place.mono sb108
  replace r_goal := r_goal.mono sb108
  replace r3 := r3.mono sb108
  replace r39 := r39.mono sb108
  exact hrt _ _ _ hk ⟨_, _, c, r107⟩
def Nm_law : List Str := ["script", "size", "book", "lists", "place", "shut", "goal"]
def Ppm_law : List Str := ["script"]
theorem scm_law : FnScope Nm_law Ppm_law (defScope sm_law) := ⟨rfl, rfl, rfl, by decide +kernel, rfl, by decide +kernel, by decide +kernel⟩
theorem okm_law {P : Program} {w : World} {K : PySem.W.Frag} {mg : Str → Option Value} {base : Heap} {A : Ad} (T : Txt K mg A) : FnOk P w K mg base CX0 6 A.am_law A.dm_law Ppm_law (SpF K noX 1 (ar1 m_law)) := by
  refine T.Fm_law.ok scm_law (fun vs H Q E h => h.len) (fun cdv A outer s H vs Q E hr h => ?_)
  refine ⟨_, (pss_cons (ps_set (i := 1) scm_law.nd rfl (Or.inl rfl) (pe_call (okm_law_size T) (hr.mono (by decide)) (by rfl) T.gm_law_size T.Fm_law_size.kp T.bm_law_size .nil pass0 (pa_cons (pe_call (okm_law_start T) (hr.mono (by decide)) (by rfl) T.gm_law_start T.Fm_law_start.kp T.bm_law_start .nil pass0 (pa_cons (pv 0) (pa_cons pe_int pa_nil))) (pa_cons pe_int (pa_cons pe_int pa_nil)))))
      (pss_cons (ps_set (i := 2) scm_law.nd rfl (Or.inl rfl) (pe_call (okm_law_some_book T) (hr.mono (by decide)) (by rfl) T.gm_law_some_book T.Fm_law_some_book.kp T.bm_law_some_book .nil pass0 (pa_cons (pe_call (okm_law_start T) (hr.mono (by decide)) (by rfl) T.gm_law_start T.Fm_law_start.kp T.bm_law_start .nil pass0 (pa_cons (pv 0) (pa_cons pe_int pa_nil))) (pa_cons (pv 1) pa_nil))))
      (pss_cons (ps_set (i := 3) scm_law.nd rfl (Or.inl rfl) (pe_call (okm_law_start T) (hr.mono (by decide)) (by rfl) T.gm_law_start T.Fm_law_start.kp T.bm_law_start .nil pass0 (pa_cons (pv 0) (pa_cons pe_int pa_nil))))
      (pss_cons (ps_set (i := 4) scm_law.nd rfl (Or.inl rfl) (pe_call (okm_law_draw T) (hr.mono (by decide)) (by rfl) T.gm_law_draw T.Fm_law_draw.kp T.bm_law_draw .nil pass0 (pa_cons (pv 3) (pa_cons (pv 1) pa_nil))))
      (pss_cons (ps_set (i := 5) scm_law.nd rfl (Or.inl rfl) (pe_call (okm_law_order T) (hr.mono (by decide)) (by rfl) T.gm_law_order T.Fm_law_order.kp T.bm_law_order .nil pass0 (pa_cons (pv 3) (pa_cons (pe_call (okm_law_set T) (hr.mono (by decide)) (by rfl) T.gm_law_set T.Fm_law_set.kp T.bm_law_set .nil pass0 (pa_cons (pv 3) (pa_cons (pv 1) pa_nil))) pa_nil))))
      (pss_cons (ps_if (PW.pt (pw_or (pt_not (pt_val (pe_call (okm_law_shuts_along T) (hr.mono (by decide)) (by rfl) T.gm_law_shuts_along T.Fm_law_shuts_along.kp T.bm_law_shuts_along .nil pass0 (pa_cons (pv 2) (pa_cons (pv 4) (pa_cons (pv 5) pa_nil)))))) (pw_or1 (pt_not (pt_val (pe_call (okm_law_shuts_along T) (hr.mono (by decide)) (by rfl) T.gm_law_shuts_along T.Fm_law_shuts_along.kp T.bm_law_shuts_along .nil pass0 (pa_cons (pv 2) (pa_cons pe_int (pa_cons (pv 5) pa_nil))))))))) (pss_cons (ps_ret pe_bl)
      pss_nil) pss_nil)
      (pss_cons (ps_for PassesOwn.never rfl (pi_range1 rfl T.n_range (pa_cons (pv 1) pa_nil)) (pg_name (i := 6) scm_law.nd rfl (Or.inl rfl)) (pss_cons (ps_if (pt_not (pt_val (pe_call (okm_law_tells_ahead T) (hr.mono (by decide)) (by rfl) T.gm_law_tells_ahead T.Fm_law_tells_ahead.kp T.bm_law_tells_ahead .nil pass0 (pa_cons (pv 2) (pa_cons (pv 4) (pa_cons (pv 6) pa_nil)))))) (pss_cons (ps_ret pe_bl)
      pss_nil) pss_nil)
      pss_nil))
      (pss_cons (ps_ret pe_bl)
      pss_nil)))))))), ?_⟩
  refine start0_F h fun F us X P c o hn rl hX hk hP => ?_
  obtain ⟨v_script, u_script, vs, us, rfl, rfl, hn, r_script, rl⟩ := repl1 hn rl
  obtain ⟨rfl, rfl⟩ := repl0 hn rl
  have hrt : ∀ r v H, P r → RV _ r v H → Q v H := fun r v H p ⟨_, _, c, q⟩ => hP _ _ _ _ _ p c q
  clear hP
  change (m_law u_script).Len P X at hk
  unfold m_law at hk
  refine c_start [some v_script, none, none, none, none, none, none] rfl ?_
  refine c_setL (fun y => [some v_script, some y, none, none, none, none, none]) (fun _ => rfl) ?_
  refine c_callT ?_
  refine x_callN c o (m := ar2 m_law_start) ar2_n (ea_cons (ev_var rfl r_script) (ea_cons ev_i ea_nil)) hX hk fun u4 v3 F h H c sb5 o hk => ?_
  replace r_script := r_script.mono sb5
  refine x_callS 0 c o rfl (m := ar3 m_law_size) ar3_n (ea_cons ev_i (ea_cons ev_i ea_nil)) hX hk fun u11 w14 v10 F h H c sb13 o r12 hk => ?_
  replace r_script := r_script.mono sb13
  refine x_drop 0 c o rfl fun h c o => ?_
  refine c_setL (fun y => [some v_script, some v10, some y, none, none, none, none]) (fun _ => rfl) ?_
  refine c_callT ?_
  refine x_callN c o (m := ar2 m_law_start) ar2_n (ea_cons (ev_var rfl r_script) (ea_cons ev_i ea_nil)) hX hk fun u20 v19 F h H c sb21 o hk => ?_
  replace r_script := r_script.mono sb21
  replace r12 := r12.mono sb21
  refine x_callS 0 c o rfl (m := ar2 m_law_some_book) ar2_n (ea_cons (ev_var rfl r12) ea_nil) hX hk fun u26 w29 v25 F h H c sb28 o r27 hk => ?_
  replace r_script := r_script.mono sb28
  replace r12 := r12.mono sb28
  refine x_drop 0 c o rfl fun h c o => ?_
  refine c_setL (fun y => [some v_script, some v10, some v25, some y, none, none, none]) (fun _ => rfl) ?_
  refine x_callN c o (m := ar2 m_law_start) ar2_n (ea_cons (ev_var rfl r_script) (ea_cons ev_i ea_nil)) hX hk fun u35 v34 F h H c sb36 o hk => ?_
  replace r_script := r_script.mono sb36
  replace r12 := r12.mono sb36
  replace r27 := r27.mono sb36
  refine c_setL (fun y => [some v_script, some v10, some v25, some v34, some y, none, none]) (fun _ => rfl) ?_
  refine c_callS rfl ?_
  refine x_callS 0 c o rfl (m := ar2 m_law_draw) ar2_n (ea_cons (ev_var rfl r12) ea_nil) hX hk fun u42 w45 v41 F h H c sb44 o r43 hk => ?_
  replace r_script := r_script.mono sb44
  replace r12 := r12.mono sb44
  replace r27 := r27.mono sb44
  refine c_setL (fun y => [some v_script, some v10, some v25, some v34, some v41, some y, none]) (fun _ => rfl) ?_
  refine c_callS rfl ?_
  refine c_cons ?_
  refine c_callS rfl ?_
  refine x_callSN 0 c o rfl (m := ar2 m_law_set) ar2_n (ea_cons (ev_var rfl r12) ea_nil) hX hk fun u51 w54 v50 F h H c sb53 o hk => ?_
  replace r_script := r_script.mono sb53
  replace r12 := r12.mono sb53
  replace r27 := r27.mono sb53
  replace r43 := r43.mono sb53
  refine x_frz 0 c o rfl fun F h c sb59 o r58 => ?_
  replace r_script := r_script.mono sb59
  replace r12 := r12.mono sb59
  replace r27 := r27.mono sb59
  replace r43 := r43.mono sb59
  refine c_nil ?_
  refine x_vSN (vs := [v50]) 0 c o rfl (m := ar2 m_law_order) ar2_n (.cons r58 .nil) hX hk fun u61 w64 v60 F h H c sb63 o hk => ?_
  replace r_script := r_script.mono sb63
  replace r12 := r12.mono sb63
  replace r27 := r27.mono sb63
  replace r43 := r43.mono sb63
  refine x_frz 0 c o rfl fun F h c sb69 o r68 => ?_
  replace r_script := r_script.mono sb69
  replace r12 := r12.mono sb69
  replace r27 := r27.mono sb69
  replace r43 := r43.mono sb69
  refine c_if ?_
  refine x_t c (et_or (et_not (et_B (ev_call (m := ar3 m_law_shuts_along) ar3_n (ea_cons (ev_var rfl r27) (ea_cons (ev_var rfl r43) (ea_cons (ev_var rfl r68) ea_nil)))).u)) (et_not (et_B (ev_call (m := ar3 m_law_shuts_along) ar3_n (ea_cons (ev_var rfl r27) (ea_cons ev_i (ea_cons (ev_var rfl r68) ea_nil)))).u))) hX hk fun b F H c sb82 hk => ?_
  replace o := o.mono sb82
  replace r_script := r_script.mono sb82
  replace r12 := r12.mono sb82
  replace r27 := r27.mono sb82
  replace r43 := r43.mono sb82
  replace r68 := r68.mono sb82
  refine c_way hk (fun hk => ?_) (fun hk => ?_)
  · refine c_ret ?_
    refine x_val c ev_b hX hk fun u85 v84 F H c sb87 r86 hk => ?_
    replace o := o.mono sb87
    replace r_script := r_script.mono sb87
    replace r12 := r12.mono sb87
    replace r27 := r27.mono sb87
    replace r43 := r43.mono sb87
    replace r68 := r68.mono sb87
    exact hrt _ _ _ hk ⟨_, _, c, r86⟩
  · refine c_nx2 ?_
    refine x_drop 0 c o rfl fun h c o => ?_
    refine x_forF (S := Unit) (fun s σ F h => ∃ (d90 : Option V), σ = [some v_script, some v10, some v25, some v34, some v41, some v60, d90] ∧ Own K F h []) _ c (ei_rng1 (ev_var rfl r12).u) hX hk (fun F1 sb => ⟨_, rfl, o.mono sb⟩) (fun _ _ _ _ _ => trivial) (fun s91 u96 v93 σ F h H c sb95 a r94 D P hk kn kb hrt => ?_) (fun s91 σ F h H c sb95 a hk => ?_) (fun r v H q rr => hrt r v H q rr)
    · obtain ⟨d90, rfl, o⟩ := a
      refine c_gn [some v_script, some v10, some v25, some v34, some v41, some v60, some v93] rfl ?_
      unfold m_law_loop1 at hk
      replace r_script := r_script.mono sb95
      replace r12 := r12.mono sb95
      replace r27 := r27.mono sb95
      replace r43 := r43.mono sb95
      replace r68 := r68.mono sb95
      refine c_if ?_
      refine x_t c (et_not (et_B (ev_call (m := ar3 m_law_tells_ahead) ar3_n (ea_cons (ev_var rfl r27) (ea_cons (ev_var rfl r43) (ea_cons (ev_var rfl r94) ea_nil)))).u)) hX hk fun b F H c sb102 hk => ?_
      replace o := o.mono sb102
      replace r_script := r_script.mono sb102
      replace r12 := r12.mono sb102
      replace r27 := r27.mono sb102
      replace r43 := r43.mono sb102
      replace r68 := r68.mono sb102
      replace r94 := r94.mono sb102
      refine c_way hk (fun hk => ?_) (fun hk => ?_)
      · refine c_ret ?_
        refine x_val c ev_b hX hk fun u105 v104 F H c sb107 r106 hk => ?_
        replace o := o.mono sb107
        replace r_script := r_script.mono sb107
        replace r12 := r12.mono sb107
        replace r27 := r27.mono sb107
        replace r43 := r43.mono sb107
        replace r68 := r68.mono sb107
        replace r94 := r94.mono sb107
        exact hrt _ _ _ hk ⟨_, _, c, r106⟩
      · refine c_nx2 ?_
        refine c_nx ?_
        exact (kn _ _ _ _ _ hk c sb102 ⟨_, rfl, o⟩).1
    obtain ⟨d90, rfl, o⟩ := a
    replace r_script := r_script.mono sb95
    replace r12 := r12.mono sb95
    replace r27 := r27.mono sb95
    replace r43 := r43.mono sb95
    replace r68 := r68.mono sb95
    refine c_ret ?_
    refine x_val c ev_b hX hk fun u113 v112 F H c sb115 r114 hk => ?_
    replace o := o.mono sb115
    replace r_script := r_script.mono sb115
    replace r12 := r12.mono sb115
    replace r27 := r27.mono sb115
    replace r43 := r43.mono sb115
    replace r68 := r68.mono sb115
    exact hrt _ _ _ hk ⟨_, _, c, r114⟩
end UW

set_option Elab.async false
set_option linter.all false
set_option maxRecDepth 100000
set_option maxHeartbeats 1000000
namespace UL
open PySem PySem.Spec PyProof.Rows L2

/-! ### outcomes that are there -/
theorem okb {α β : Type} {a : α} {k : α → Res β} : (Res.ok a >>= k) = k a := (rfl)
theorem badb {α β : Type} {k : α → Res β} : ((Res.bad : Res α) >>= k) = Res.bad := (rfl)
def Res.Sat {α : Type} (m : Res α) (P : α → Prop) : Prop := ∃ a, m = .ok a ∧ P a
@[simp] theorem sat_ok {α : Type} {a : α} {P : α → Prop} : (Res.ok a).Sat P ↔ P a := by
  constructor
  · rintro ⟨_, e, h⟩
    cases e
    exact h
  · exact fun h => ⟨a, rfl, h⟩
@[simp] theorem sat_bad {α : Type} {P : α → Prop} : (Res.bad : Res α).Sat P ↔ False := ⟨fun ⟨_, e, _⟩ => (nomatch e), fun h => False.elim h⟩
@[simp] theorem sat_bind {α β : Type} {m : Res α} {k : α → Res β} {P : β → Prop} : (m >>= k).Sat P ↔ m.Sat fun a => (k a).Sat P := by
  cases m with
  | ok a => rw [okb, sat_ok]
  | exn e => exact ⟨fun ⟨_, e, _⟩ => (nomatch e), fun ⟨_, e, _⟩ => nomatch e⟩
  | bad => exact ⟨fun ⟨_, e, _⟩ => (nomatch e), fun ⟨_, e, _⟩ => nomatch e⟩
theorem Res.Sat.imp {α : Type} {m : Res α} {P Q : α → Prop} (h : m.Sat P) (hi : ∀ a, P a → Q a) : m.Sat Q := by
  obtain ⟨a, e, h⟩ := h
  exact ⟨a, e, hi a h⟩
theorem Res.Sat.ex {α : Type} {m : Res α} {P : α → Prop} (h : m.Sat P) : ∃ a, m = .ok a ∧ P a := h
theorem Res.Sat.eq {α : Type} {m : Res α} {b : α} (h : m.Sat fun a => a = b) : m = .ok b := by
  obtain ⟨a, e, rfl⟩ := h.ex; exact e
def CtlP {S R : Type} (N B : S → Prop) (T : R → Prop) : Ctl S R → Prop
  | .nx s => N s
  | .bk s => B s
  | .rt r => T r
@[simp] theorem ctlp_nx {S R : Type} {N B : S → Prop} {T : R → Prop} {s : S} : CtlP N B T (.nx s) ↔ N s := (Iff.rfl)
@[simp] theorem ctlp_bk {S R : Type} {N B : S → Prop} {T : R → Prop} {s : S} : CtlP N B T (.bk s) ↔ B s := (Iff.rfl)
@[simp] theorem ctlp_rt {S R : Type} {N B : S → Prop} {T : R → Prop} {s : R} : CtlP N B T (.rt s) ↔ T s := (Iff.rfl)
theorem fin_sat {S R α : Type} {c : Ctl S R} {k : S → Res α} {q : R → Res α} {P : α → Prop} (h : CtlP (fun s => (k s).Sat P) (fun s => (k s).Sat P) (fun r => (q r).Sat P) c) : (Ctl.fin c k q).Sat P := by
  cases c <;> exact h
@[simp] theorem fin_nx {S R α : Type} {s : S} {k : S → Res α} {q : R → Res α} : Ctl.fin (.nx s) k q = k s := (rfl)
@[simp] theorem fin_bk {S R α : Type} {s : S} {k : S → Res α} {q : R → Res α} : Ctl.fin (.bk s) k q = k s := (rfl)
@[simp] theorem fin_rt {S R α : Type} {s : R} {k : S → Res α} {q : R → Res α} : Ctl.fin (.rt s) k q = q s := (rfl)
/-- a loop, by an invariant that knows what was walked and what is left -/
theorem forR_sat {S R : Type} {f : S → U → Res (Ctl S R)} {I : List U → List U → S → Prop} {B : S → Prop} {T : R → Prop}
    (hb : ∀ d x r s, I d (x :: r) s → (f s x).Sat (CtlP (fun s' => I (d ++ [x]) r s') B T)) : ∀ (us d : List U) (s : S), I d us s → (forR f us s).Sat (CtlP (fun s' => I (d ++ us) [] s') B T)
  | [], d, s, h => by unfold forR; rw [List.append_nil]; exact sat_ok.mpr h
  | x :: r, d, s, h => by
    unfold forR
    rw [sat_bind]
    refine (hb d x r s h).imp fun c hc => ?_
    cases c with
    | nx s' =>
      have := forR_sat hb r (d ++ [x]) s' hc
      rw [List.append_assoc] at this
      exact this
    | bk s' => exact sat_ok.mpr hc
    | rt q => exact sat_ok.mpr hc
def rng (n : Nat) : List U := (List.range n).map fun (i : Nat) => U.int i
/-- a loop over range(n) -/
theorem forR_rng {S R : Type} {f : S → U → Res (Ctl S R)} {n : Nat} (I : Nat → S → Prop) (B : S → Prop) (T : R → Prop) {s0 : S} (h0 : I 0 s0)
    (hb : ∀ i s, i < n → I i s → (f s (.int i)).Sat (CtlP (fun s' => I (i + 1) s') B T)) : (forR f (rng n) s0).Sat (CtlP (fun s' => I n s') B T) := by
  have := forR_sat (f := f) (I := fun d r s => d ++ r = rng n ∧ I d.length s) (B := B) (T := T) (fun d x r s h => ?_) (rng n) [] s0 ⟨rfl, h0⟩
  · refine this.imp fun c hc => ?_
    cases c with
    | nx s' =>
      have := hc.2
      simp only [List.nil_append, rng, List.length_map, List.length_range] at this
      exact this
    | bk s' => exact hc
    | rt q => exact hc
  · have hl : d.length < n := by
      have := congrArg List.length h.1
      simp only [rng, List.length_append, List.length_cons, List.length_map, List.length_range] at this
      omega
    have hx : x = .int d.length := by
      have := congrArg (fun l => l[d.length]?) h.1
      simp only [rng, List.getElem?_append_right (Nat.le_refl _), Nat.sub_self, List.getElem?_cons_zero, List.getElem?_map, List.getElem?_range hl, Option.map_some] at this
      exact Option.some.inj this
    subst hx
    refine (hb d.length s hl h.2).imp fun c hc => ?_
    cases c with
    | nx s' =>
      refine ⟨by rw [List.append_assoc]; exact h.1, ?_⟩
      rw [List.length_append]
      exact hc
    | bk s' => exact hc
    | rt q => exact hc
/-- a loop over a list of things -/
theorem forR_map {A S R : Type} {f : S → U → Res (Ctl S R)} (g : A → U) (I : List A → List A → S → Prop) (B : S → Prop) (T : R → Prop)
    (hb : ∀ d x r s, I d (x :: r) s → (f s (g x)).Sat (CtlP (fun s' => I (d ++ [x]) r s') B T)) : ∀ (us d : List A) (s : S), I d us s → (forR f (us.map g) s).Sat (CtlP (fun s' => I (d ++ us) [] s') B T)
  | [], d, s, h => by rw [List.map_nil]; unfold forR; rw [List.append_nil]; exact sat_ok.mpr h
  | x :: r, d, s, h => by
    rw [List.map_cons]
    unfold forR
    rw [sat_bind]
    refine (hb d x r s h).imp fun c hc => ?_
    cases c with
    | nx s' =>
      have := forR_map g I B T hb r (d ++ [x]) s' hc
      rw [List.append_assoc] at this
      exact this
    | bk s' => exact sat_ok.mpr hc
    | rt q => exact sat_ok.mpr hc
/-- a comprehension over a list of things, each giving one or none -/
theorem compA_map {A : Type} {f : U → Res (Option U)} (g : A → U) (h : A → Option U) : ∀ (us : List A) (acc : List U), acc.length + us.length ≤ 16777216 → (∀ x ∈ us, f (g x) = .ok (h x)) → compA f (us.map g) acc = .ok (acc ++ us.filterMap h)
  | [], acc, _, _ => by rw [List.map_nil]; unfold compA; simp
  | x :: r, acc, hl, hf => by
    rw [List.map_cons]
    unfold compA
    rw [hf x (by simp)]
    rw [List.length_cons] at hl
    simp only [okb]
    cases e : h x with
    | none => simp only [e, List.filterMap_cons]; exact compA_map g h r acc (by omega) fun y hy => hf y (by simp [hy])
    | some y =>
      simp only [e, List.filterMap_cons]
      rw [if_pos (by omega), compA_map g h r _ (by rw [List.length_append]; simp; omega) fun y hy => hf y (by simp [hy])]
      simp
theorem compA_rng {f : U → Res (Option U)} {n : Nat} (h : Nat → Option U) (hn : n ≤ 16777216) (hf : ∀ i, i < n → f (.int i) = .ok (h i)) : compA f (rng n) [] = .ok ((List.range n).filterMap h) := by
  have := compA_map (f := f) (fun (i : Nat) => U.int i) h (List.range n) [] (by simpa using hn) fun x hx => hf x (List.mem_range.mp hx)
  rw [List.nil_append] at this
  exact this
/-- a comprehension that changes a state -/
theorem compS_rng {S : Type} {f : S → U → Res (Option U × S)} {n : Nat} (I : Nat → List U → S → Prop) (hn : n ≤ 16777216) (hI : ∀ i a s, I i a s → a.length ≤ i) {s0 : S} (h0 : I 0 [] s0)
    (hb : ∀ i a s, i < n → I i a s → (f s (.int i)).Sat fun o => match o.1 with | none => I (i + 1) a o.2 | some y => I (i + 1) (a ++ [y]) o.2) : (compS f (rng n) s0 []).Sat fun o => I n o.1 o.2 := by
  have key : ∀ (k i : Nat) (a : List U) (s : S), i + k = n → I i a s → (compS f ((List.range' i k).map fun (j : Nat) => U.int j) s a).Sat fun o => I n o.1 o.2 := by
    intro k
    induction k with
    | zero => intro i a s e h; simp only [List.range'_zero, List.map_nil]; unfold compS; rw [← e]; exact sat_ok.mpr h
    | succ k ih =>
      intro i a s e h
      rw [List.range'_succ, List.map_cons]
      unfold compS
      rw [sat_bind]
      refine (hb i a s (by omega) h).imp fun o ho => ?_
      rcases o with ⟨o1, o2⟩
      cases o1 with
      | none => exact ih (i + 1) a o2 (by omega) ho
      | some y =>
        have := hI _ _ _ h
        simp only
        rw [if_pos (by omega)]
        exact ih (i + 1) _ o2 (by omega) ho
  have := key n 0 [] s0 (by omega) h0
  rw [rng, List.range_eq_range']
  exact this

/-! ### operators on what is known -/
namespace U
@[simp] theorem add_int {a b : Int} : U.add (.int a) (.int b) = .ok (.int (a + b)) := (rfl)
@[simp] theorem sub_int {a b : Int} : U.sub (.int a) (.int b) = .ok (.int (a - b)) := (rfl)
@[simp] theorem neg_int {a : Int} : U.neg (.int a) = .ok (.int (-a)) := (rfl)
@[simp] theorem lt_int {a b : Int} : U.lt (.int a) (.int b) = .ok (.bl (decide (a < b))) := (rfl)
@[simp] theorem le_int {a b : Int} : U.le (.int a) (.int b) = .ok (.bl (decide (a ≤ b))) := (rfl)
@[simp] theorem gt_int {a b : Int} : U.gt (.int a) (.int b) = .ok (.bl (decide (b < a))) := (rfl)
@[simp] theorem ge_int {a b : Int} : U.ge (.int a) (.int b) = .ok (.bl (decide (b ≤ a))) := (rfl)
@[simp] theorem bool_bl {b : Bool} : U.bool? (.bl b) = .ok b := (rfl)
@[simp] theorem toInt_int {a : Int} : U.toInt (.int a) = .ok (.int a) := (rfl)
@[simp] theorem abs_int {a : Int} : U.abs (.int a) = .ok (.int (if a < 0 then -a else a)) := (rfl)
@[simp] theorem len_lst {us : List U} : U.len (.lst us) = .ok (.int us.length) := (rfl)
@[simp] theorem len_tup {us : List U} : U.len (.tup us) = .ok (.int us.length) := (rfl)
@[simp] theorem len_scr {us : List Int} : U.len (.scr us) = .ok (.int us.length) := (rfl)
@[simp] theorem isl_lst {us : List U} : U.isl (.lst us) = .ok (.lst us) := (rfl)
@[simp] theorem list_lst {us : List U} : U.list (.lst us) = .ok (.lst us) := (rfl)
@[simp] theorem list_tup {us : List U} : U.list (.tup us) = .ok (.lst us) := (rfl)
@[simp] theorem items_lst {us : List U} : U.items (.lst us) = .ok us := (rfl)
@[simp] theorem items_tup {us : List U} : U.items (.tup us) = .ok us := (rfl)
@[simp] theorem scal_int {a : Int} : U.scal (.int a) = .ok (.int a) := (rfl)
@[simp] theorem scal_bl {a : Bool} : U.scal (.bl a) = .ok (.bl a) := (rfl)
@[simp] theorem scal_non : U.scal .non = .ok .non := (rfl)
@[simp] theorem part_int {a : Int} : U_part (.int a) = .ok (some a) := (rfl)
@[simp] theorem opt_some {α : Type} {a : α} : U.opt (some a) = .ok a := (rfl)
theorem mod_int {a b : Int} (h : 0 < b) : U.mod (.int a) (.int b) = .ok (.int (a % b)) := by
  show (if 0 < b then _ else _) = _
  rw [if_pos h]
theorem fdiv_int {a b : Int} (h : 0 < b) (h2 : b < 1073741824) : U.fdiv (.int a) (.int b) = .ok (.int (a / b)) := by
  show (if 0 < b ∧ b < 1073741824 then _ else _) = _
  rw [if_pos ⟨h, h2⟩]
theorem mul_int {a b : Int} (h : -18446744073709551616 < b) (h2 : b < 18446744073709551616) : U.mul (.int a) (.int b) = .ok (.int (a * b)) := by
  show (if (-(2 ^ 64) < a ∧ a < 2 ^ 64) ∨ (-(2 ^ 64) < b ∧ b < 2 ^ 64) then _ else _) = _
  rw [if_pos (.inr ⟨by omega, by omega⟩)]
theorem rng1_nat {n : Nat} (h : n ≤ 16777216) : U.rng1 (.int n) = .ok (rng n) := by
  simp only [U.rng1]
  rw [if_pos ⟨by omega, by omega⟩, rng, Int.toNat_natCast]
theorem mkT_of {us : List U} (h : us.length ≤ 16777216) : mkT us = .ok (.tup us) := by unfold mkT; rw [if_pos h]
theorem mkL_of {us : List U} (h : us.length ≤ 16777216) : mkL us = .ok (.lst us) := by unfold mkL; rw [if_pos h]
@[simp] theorem mkT0 : mkT [] = .ok (.tup []) := (rfl)
@[simp] theorem mkT1 {a : U} : mkT [a] = .ok (.tup [a]) := (rfl)
@[simp] theorem mkT2 {a b : U} : mkT [a, b] = .ok (.tup [a, b]) := (rfl)
@[simp] theorem mkT3 {a b c : U} : mkT [a, b, c] = .ok (.tup [a, b, c]) := (rfl)
@[simp] theorem mkL0 : mkL [] = .ok (.lst []) := (rfl)
@[simp] theorem mkL1 {a : U} : mkL [a] = .ok (.lst [a]) := (rfl)
@[simp] theorem mkL2 {a b : U} : mkL [a, b] = .ok (.lst [a, b]) := (rfl)
@[simp] theorem mkL3 {a b c : U} : mkL [a, b, c] = .ok (.lst [a, b, c]) := (rfl)
theorem add_lst {a b : List U} (h : a.length + b.length ≤ 16777216) : U.add (.lst a) (.lst b) = .ok (.lst (a ++ b)) := by
  show (if a.length + b.length ≤ 16777216 then _ else _) = _
  rw [if_pos h]
theorem app_lst {a : List U} {x : U} (h : a.length < 16777216) : U.app (.lst a) x = .ok (.lst (a ++ [x])) := by
  show (if a.length < 16777216 then _ else _) = _
  rw [if_pos h]
theorem ixOf_nat {n k : Nat} (h : k < n) : ixOf n (k : Int) = some k := by
  unfold ixOf
  rw [if_pos (by omega), if_pos (by omega), Int.toNat_natCast]
theorem ixOf_of {n : Nat} {i : Int} (h0 : 0 ≤ i) (h : i < n) : ixOf n i = some i.toNat := by
  unfold ixOf
  rw [if_pos h0, if_pos h]
theorem ixOf_m1 {n : Nat} (h : 0 < n) : ixOf n (-1) = some (n - 1) := by
  unfold ixOf
  rw [if_neg (by omega), if_pos (by omega)]
  congr 1
  omega
theorem idx_nat {us : List U} {k : Nat} (h : k < us.length) : U.idx (.lst us) (.int (k : Int)) = .ok us[k] := by
  show opt ((ixOf us.length (k : Int)).bind fun j => us[j]?) = _
  rw [ixOf_nat h, Option.bind_some, List.getElem?_eq_getElem h]; rfl
theorem idx_of {us : List U} {i : Int} (h0 : 0 ≤ i) (h : i < us.length) : ∃ k : Nat, ∃ hk : k < us.length, i = k ∧ U.idx (.lst us) (.int i) = .ok us[k] := by
  obtain ⟨k, rfl⟩ := Int.eq_ofNat_of_zero_le h0
  exact ⟨k, by omega, rfl, idx_nat (by omega)⟩
theorem idxt_nat {us : List U} {k : Nat} (h : k < us.length) : U.idx (.tup us) (.int (k : Int)) = .ok us[k] := by
  show opt ((ixOf us.length (k : Int)).bind fun j => us[j]?) = _
  rw [ixOf_nat h, Option.bind_some, List.getElem?_eq_getElem h]; rfl
theorem idx_m1 {us : List U} {x : U} : U.idx (.lst (us ++ [x])) (.int (-1)) = .ok x := by
  show opt ((ixOf (us ++ [x]).length (-1)).bind fun j => (us ++ [x])[j]?) = _
  rw [ixOf_m1 (by simp), Option.bind_some]
  simp
theorem idx_scr {ns : List Int} {k : Nat} (h : k < ns.length) : U.idx (.scr ns) (.int (k : Int)) = .ok (.int ns[k]) := by
  show opt ((ixOf ns.length (k : Int)).bind fun j => ns[j]?.map U.int) = _
  rw [ixOf_nat h, Option.bind_some, List.getElem?_eq_getElem h]; rfl
@[simp] theorem idx_l0 {a : U} {us : List U} : U.idx (.lst (a :: us)) (.int 0) = .ok a := idx_nat (k := 0) (by simp)
@[simp] theorem idx_l1 {a b : U} {us : List U} : U.idx (.lst (a :: b :: us)) (.int 1) = .ok b := idx_nat (k := 1) (by simp)
@[simp] theorem idx_l2 {a b c : U} {us : List U} : U.idx (.lst (a :: b :: c :: us)) (.int 2) = .ok c := idx_nat (k := 2) (by simp)
@[simp] theorem idx_t0 {a : U} {us : List U} : U.idx (.tup (a :: us)) (.int 0) = .ok a := idxt_nat (k := 0) (by simp)
@[simp] theorem idx_t1 {a b : U} {us : List U} : U.idx (.tup (a :: b :: us)) (.int 1) = .ok b := idxt_nat (k := 1) (by simp)
@[simp] theorem idx_t2 {a b c : U} {us : List U} : U.idx (.tup (a :: b :: c :: us)) (.int 2) = .ok c := idxt_nat (k := 2) (by simp)
@[simp] theorem set_l0 {a x : U} {us : List U} : U.setAt (.lst (a :: us)) (.int 0) x = .ok (.lst (x :: us)) := by
  show ((U.opt (U.ixOf (a :: us).length ((0 : Nat) : Int))) >>= fun k => Res.ok (U.lst ((a :: us).set k x))) = _
  rw [ixOf_nat (by simp)]; rfl
@[simp] theorem set_l2 {a b c x : U} {us : List U} : U.setAt (.lst (a :: b :: c :: us)) (.int 2) x = .ok (.lst (a :: b :: x :: us)) := by
  show ((U.opt (U.ixOf (a :: b :: c :: us).length ((2 : Nat) : Int))) >>= fun k => Res.ok (U.lst ((a :: b :: c :: us).set k x))) = _
  rw [ixOf_nat (by simp)]; rfl
theorem popAt_of {us : List U} {k : Nat} (h : k < us.length) (hn : us.length ≤ 16777216) : U.popAt (.lst us) (.int (k : Int)) = .ok (us[k], .lst (us.eraseIdx k)) := by
  simp only [U.popAt]
  rw [if_pos ⟨by omega, by omega⟩, ixOf_nat h]
  simp [List.getElem?_eq_getElem h]
/-! lists of numbers -/
theorem toDs_map : ∀ us : List U, toDs us = us.map toD
  | [] => by unfold toDs; rfl
  | x :: r => by unfold toDs; rw [toDs_map r]; rfl
@[simp] theorem toD_int (a : Int) : toD (.int a) = .int a := by unfold toD; rfl
@[simp] theorem eqv_int {a b : Int} : U.eqv (.int a) (.int b) = decide (a = b) := by
  unfold U.eqv; rw [toD_int, toD_int]; exact PySem.W.Datum.eqv a b
@[simp] theorem shp_int {a : Int} : U.shp (.int a) = true := by unfold U.shp; rw [toD_int]; rfl
theorem canLayAll0_map {A : Type} {g : A → PyData} (hg : ∀ a, (g a).canLay0 = true) : ∀ xs : List A, PyData.canLayAll0 (xs.map g) = true
  | [] => rfl
  | x :: r => by rw [List.map_cons, PyData.canLayAll0, hg, canLayAll0_map hg r]; rfl
theorem depthAll_le {A : Type} {g : A → PyData} {d : Nat} (hg : ∀ a, (g a).depth ≤ d) : ∀ xs : List A, PyData.depthAll (xs.map g) ≤ d
  | [] => Nat.zero_le _
  | x :: r => by rw [List.map_cons, PyData.depthAll]; exact Nat.max_le.mpr ⟨hg x, depthAll_le hg r⟩
abbrev il (xs : List Int) : U := .lst (xs.map U.int)
abbrev it (xs : List Int) : U := .tup (xs.map U.int)
theorem toD_il (xs : List Int) : toD (il xs) = .list (xs.map PyData.int) := by
  unfold il toD; rw [toDs_map, List.map_map]; congr 1
theorem toD_it (xs : List Int) : toD (it xs) = .tuple (xs.map PyData.int) := by
  unfold it toD; rw [toDs_map, List.map_map]; congr 1
theorem shp_il (xs : List Int) : U.shp (il xs) = true := by
  unfold U.shp SeqAt.shaped
  rw [toD_il, Bool.and_eq_true]
  refine ⟨canLayAll0_map (fun _ => rfl) xs, decide_eq_true ?_⟩
  rw [PyData.depth]
  have := depthAll_le (g := PyData.int) (d := 0) (fun _ => Nat.le_refl _) xs
  omega
theorem eqv_il (xs ys : List Int) : U.eqv (il xs) (il ys) = decide (xs = ys) := by
  unfold U.eqv; rw [toD_il, toD_il]; exact PySem.W.Datum.eqv xs ys
@[simp] theorem eq_int {a b : Int} : U.eq (.int a) (.int b) = .ok (.bl (decide (a = b))) := by
  unfold U.eq; rw [if_pos ⟨shp_int, shp_int⟩, eqv_int]
@[simp] theorem ne_int {a b : Int} : U.ne (.int a) (.int b) = .ok (.bl (!decide (a = b))) := by
  unfold U.ne; rw [if_pos ⟨shp_int, shp_int⟩, eqv_int]
theorem eq_il (a b : List Int) : U.eq (il a) (il b) = .ok (.bl (decide (a = b))) := by
  unfold U.eq; rw [if_pos ⟨shp_il _, shp_il _⟩, eqv_il]
theorem ne_il (a b : List Int) : U.ne (il a) (il b) = .ok (.bl (!decide (a = b))) := by
  unfold U.ne; rw [if_pos ⟨shp_il _, shp_il _⟩, eqv_il]
theorem any_int (xs : List Int) (a : Int) : ((xs.map U.int).any fun z => z.eqv (.int a)) = decide (a ∈ xs) := by
  rw [List.any_map, Bool.eq_iff_iff, List.any_eq_true, decide_eq_true_eq]
  constructor
  · rintro ⟨x, hx, e⟩
    rw [Function.comp_apply, eqv_int, decide_eq_true_eq] at e
    rw [← e]; exact hx
  · intro h
    exact ⟨a, h, by rw [Function.comp_apply, eqv_int, decide_eq_true_eq]⟩
theorem mem_il (a : Int) (xs : List Int) : U.mem (.int a) (il xs) = .ok (decide (a ∈ xs)) := by
  show (if U.shp (.int a) = true ∧ U.shp (il xs) = true then _ else _) = _
  rw [if_pos ⟨shp_int, shp_il _⟩, any_int]
theorem mem_it (a : Int) (xs : List Int) : U.mem (.int a) (it xs) = .ok (decide (a ∈ xs)) := by
  show (if U.flat (.int a) = true ∧ (xs.map U.int).all U.flat = true then _ else _) = _
  rw [if_pos ⟨rfl, by rw [List.all_map]; exact List.all_eq_true.mpr fun _ _ => rfl⟩, any_int]
theorem isin_il (a : Int) (xs : List Int) : U.isin (.int a) (il xs) = .ok (.bl (decide (a ∈ xs))) := by unfold U.isin; rw [mem_il]; rfl
theorem isin_it (a : Int) (xs : List Int) : U.isin (.int a) (it xs) = .ok (.bl (decide (a ∈ xs))) := by unfold U.isin; rw [mem_it]; rfl
theorem notin_il (a : Int) (xs : List Int) : U.notin (.int a) (il xs) = .ok (.bl (!decide (a ∈ xs))) := by unfold U.notin; rw [mem_il]; rfl
theorem notin_it (a : Int) (xs : List Int) : U.notin (.int a) (it xs) = .ok (.bl (!decide (a ∈ xs))) := by unfold U.notin; rw [mem_it]; rfl
theorem idx_il {xs : List Int} {k : Nat} (h : k < xs.length) : U.idx (il xs) (.int (k : Int)) = .ok (.int xs[k]) := by
  have := idx_nat (us := xs.map U.int) (k := k) (by simpa using h)
  simpa using this
theorem app_il {xs : List Int} {a : Int} (h : xs.length < 16777216) : U.app (il xs) (.int a) = .ok (il (xs ++ [a])) := by
  rw [app_lst (by simpa using h)]; simp [il]
theorem add_il {xs ys : List Int} (h : xs.length + ys.length ≤ 16777216) : U.add (il xs) (il ys) = .ok (il (xs ++ ys)) := by
  rw [add_lst (by simpa using h)]; simp [il]
theorem map_erase {A B : Type} {g : A → B} : ∀ (xs : List A) (k : Nat), (xs.map g).eraseIdx k = (xs.eraseIdx k).map g
  | [], _ => rfl
  | x :: r, 0 => rfl
  | x :: r, k + 1 => by simp [map_erase r k]
theorem pop_il {xs : List Int} {k : Nat} (h : k < xs.length) (hn : xs.length ≤ 16777216) : U.popAt (il xs) (.int (k : Int)) = .ok (.int xs[k], il (xs.eraseIdx k)) := by
  rw [popAt_of (by simpa using h) (by simpa using hn)]; simp [il, map_erase]

theorem cut_to {us : List U} {k : Nat} (h : k ≤ us.length) : cut us none (some (k : Int)) = us.take k := by
  unfold cut
  rw [HT.sIx_none, HT.sIx_nat, Nat.min_eq_left h]
  rfl
theorem cut_from {us : List U} {k : Nat} (h : k ≤ us.length) : cut us (some (k : Int)) none = us.drop k := by
  unfold cut
  rw [HT.sIx_none, HT.sIx_nat, Nat.min_eq_left h]
  exact List.take_of_length_le (by rw [List.length_drop]; exact Nat.le_refl _)
theorem slice_to {xs : List Int} {k : Nat} (h : k ≤ xs.length) : U.slice (il xs) none (some (k : Int)) = .ok (il (xs.take k)) := by
  show Res.ok (U.lst (cut (xs.map U.int) none (some (k : Int)))) = _
  rw [cut_to (by simpa using h), ← List.map_take]
theorem slice_from {xs : List Int} {k : Nat} (h : k ≤ xs.length) : U.slice (il xs) (some (k : Int)) none = .ok (il (xs.drop k)) := by
  show Res.ok (U.lst (cut (xs.map U.int) (some (k : Int)) none)) = _
  rw [cut_from (by simpa using h), ← List.map_drop]
theorem slice_past {xs : List Int} {k : Nat} : ∃ ys : List Int, U.slice (il xs) (some (k : Int)) none = .ok (il ys) ∧ ys = xs.drop k := by
  refine ⟨xs.drop k, ?_, rfl⟩
  show Res.ok (U.lst (cut (xs.map U.int) (some (k : Int)) none)) = _
  unfold cut
  rw [HT.sIx_none, HT.sIx_nat, List.length_map, ← List.map_drop, ← List.map_take]
  by_cases h : k ≤ xs.length
  · rw [Nat.min_eq_left h, List.take_of_length_le (by rw [List.length_drop]; exact Nat.le_refl _)]
  · rw [Nat.min_eq_right (by omega), Nat.sub_self, List.take_zero, List.drop_eq_nil_of_le (by omega)]
/-! sorting -/
theorem sort_il (xs : List Int) : ∃ ys : List Int, U.sortedD (il xs) = .ok (il ys) ∧ ys.Perm xs := by
  have h1 : allAlike (xs.map U.int) = true := by
    unfold allAlike
    rw [List.all_eq_true]
    intro a ha
    rw [List.all_eq_true]
    intro b hb
    obtain ⟨i, _, rfl⟩ := List.mem_map.mp ha
    obtain ⟨j, _, rfl⟩ := List.mem_map.mp hb
    rw [toD_int, toD_int, PySem.W.alike]
  have h2 : sortable (xs.map U.int) = true := by
    unfold sortable
    rw [Bool.or_eq_true]
    right
    rw [List.all_eq_true]
    intro a ha
    obtain ⟨i, _, rfl⟩ := List.mem_map.mp ha
    rfl
  have h3 : shallow (xs.map U.int) = true := by
    unfold shallow
    rw [List.all_eq_true]
    intro a ha
    obtain ⟨i, _, rfl⟩ := List.mem_map.mp ha
    rw [toD_int]
    rfl
  have hp : (sortD (xs.map U.int)).Perm (xs.map U.int) := List.mergeSort_perm _ _
  obtain ⟨ys, e⟩ : ∃ ys : List Int, sortD (xs.map U.int) = ys.map U.int := by
    have : ∀ zs : List U, (∀ z ∈ zs, ∃ i : Int, z = .int i) → ∃ ys : List Int, zs = ys.map U.int := by
      intro zs
      induction zs with
      | nil => exact fun _ => ⟨[], rfl⟩
      | cons z r ih =>
        intro h
        obtain ⟨i, rfl⟩ := h z (by simp)
        obtain ⟨ys, rfl⟩ := ih fun w hw => h w (by simp [hw])
        exact ⟨i :: ys, rfl⟩
    refine this _ fun z hz => ?_
    obtain ⟨i, _, rfl⟩ := List.mem_map.mp (hp.mem_iff.mp hz)
    exact ⟨i, rfl⟩
  refine ⟨ys, ?_, ?_⟩
  · show (if allAlike (xs.map U.int) = true ∧ sortable (xs.map U.int) = true ∧ shallow (xs.map U.int) = true then Res.ok (U.lst (sortD (xs.map U.int))) else .bad) = _
    rw [if_pos ⟨h1, h2, h3⟩, e]
  · rw [e] at hp
    have := hp.map (fun u : U => match u with | .int i => i | _ => 0)
    rw [List.map_map, List.map_map] at this
    simpa [Function.comp_def] using this
end U
end UL

set_option Elab.async false
set_option linter.all false
namespace NT
/-- a node: its places, its gate -/
abbrev Nd := List Int × Int
abbrev pl (Cs : List Nd) : List Int := Cs.flatMap fun C => C.1
/-- each one's gate leads into the next -/
def Line : List Nd → Prop
  | [] => True
  | [_] => True
  | A :: B :: r => A.2 ∈ B.1 ∧ Line (B :: r)
def Lam (N : List Nd) (D R : Nd) : Prop := ∀ Y ∈ N, ∀ x, x ∈ D.1 → x ∈ Y.1 → Y.1 ⊆ D.1 ∨ R.1 ⊆ Y.1
structure Nest (n : Int) (N T : List Nd) : Prop where
  sub : ∀ A ∈ T, A ∈ N
  one : ∀ p : Int, 0 ≤ p → p < n → ∃ A ∈ N, A.1 = [p]
  ok : ∀ A ∈ N, A.1 ≠ [] ∧ A.1.Nodup ∧ (∀ p ∈ A.1, 0 ≤ p ∧ p < n) ∧ A.2 ∉ A.1 ∧ (A.2 = -1 ∨ 0 ≤ A.2 ∧ A.2 < n)
  cover : ∀ p : Int, 0 ≤ p → p < n → ∃ A ∈ T, p ∈ A.1
  disj : ∀ A ∈ T, ∀ B ∈ T, ∀ p, p ∈ A.1 → p ∈ B.1 → A = B
  nodT : T.Nodup
  within : ∀ Y ∈ N, ∃ A ∈ T, Y.1 ⊆ A.1
  uniq : ∀ Y ∈ N, ∀ Z ∈ N, Y.1 ⊆ Z.1 → Z.1 ⊆ Y.1 → Y = Z
  lam : ∀ Y ∈ N, ∀ Z ∈ N, ∀ x, x ∈ Y.1 → x ∈ Z.1 → Y.1 ⊆ Z.1 ∨ Z.1 ⊆ Y.1
  kids : ∀ R ∈ N, ∀ p ∈ R.1, R.1 = [p] ∨ ∃ C Cs, p ∈ C.1 ∧ Line (C :: Cs) ∧ Cs ≠ [] ∧ (pl (C :: Cs)).Perm R.1 ∧ ∀ D ∈ C :: Cs, D ∈ N ∧ Lam N D R

theorem len_le {a b : List Int} (ha : a.Nodup) (h : a ⊆ b) : a.length ≤ b.length := by
  induction a generalizing b with
  | nil => exact Nat.zero_le _
  | cons x r ih =>
    have hx : x ∈ b := h (by simp)
    have hr := List.nodup_cons.mp ha
    have : r ⊆ b.erase x := fun y hy => (List.mem_erase_of_ne (fun (e : y = x) => hr.1 (e ▸ hy))).mpr (h (by simp [hy]))
    have := ih hr.2 this
    rw [List.length_erase_of_mem hx] at this
    have := List.length_pos_of_mem hx
    rw [List.length_cons]
    omega
theorem len_le' {α : Type} [DecidableEq α] {a b : List α} (ha : a.Nodup) (h : a ⊆ b) : a.length ≤ b.length := by
  induction a generalizing b with
  | nil => exact Nat.zero_le _
  | cons x r ih =>
    have hx : x ∈ b := h (by simp)
    have hr := List.nodup_cons.mp ha
    have : r ⊆ b.erase x := fun y hy => (List.mem_erase_of_ne (fun (e : y = x) => hr.1 (e ▸ hy))).mpr (h (by simp [hy]))
    have := ih hr.2 this
    rw [List.length_erase_of_mem hx] at this
    have := List.length_pos_of_mem hx
    rw [List.length_cons]
    omega
theorem sub_of_len {a b : List Int} (ha : a.Nodup) (h : a ⊆ b) (hl : b.length ≤ a.length) : b ⊆ a := by
  intro x hx
  refine Classical.byContradiction fun hn => ?_
  have hnd : (x :: a).Nodup := List.nodup_cons.mpr ⟨hn, ha⟩
  have := len_le hnd (b := b) (by
    intro y hy
    rcases List.mem_cons.mp hy with rfl | hy
    · exact hx
    · exact h hy)
  rw [List.length_cons] at this
  omega
theorem mem_pl {Cs : List Nd} {x : Int} : x ∈ pl Cs ↔ ∃ C ∈ Cs, x ∈ C.1 := List.mem_flatMap
theorem line_tail {A : Nd} {r : List Nd} (h : Line (A :: r)) : Line r := by
  cases r with
  | nil => exact trivial
  | cons B r => exact h.2
theorem line_append : ∀ {X : List Nd} {B : Nd} {Y : List Nd}, Line (X ++ [B]) → Line (B :: Y) → Line (X ++ B :: Y)
  | [], _, _, _, h => h
  | [A], _, _, h, h2 => ⟨h.1, h2⟩
  | A :: A' :: X, B, Y, h, h2 => ⟨h.1, line_append (X := A' :: X) h.2 h2⟩
theorem line_right : ∀ {X Y : List Nd}, Line (X ++ Y) → Line Y
  | [], _, h => h
  | A :: X, Y, h => line_right (X := X) (line_tail h)
theorem line_left : ∀ {X Y : List Nd}, Line (X ++ Y) → Line X
  | [], _, _ => trivial
  | [A], _, _ => trivial
  | A :: B :: X, Y, h => ⟨h.1, line_left (X := B :: X) h.2⟩
theorem line_snoc : ∀ {X : List Nd} {A B : Nd}, Line (X ++ [A]) → A.2 ∈ B.1 → Line (X ++ [A] ++ [B])
  | [], _, _, _, h => ⟨h, trivial⟩
  | [C], A, B, h, h2 => ⟨h.1, h2, trivial⟩
  | C :: C' :: X, A, B, h, h2 => ⟨h.1, line_snoc (X := C' :: X) h.2 h2⟩

/-- the largest node of N within S that holds x -/
def IsLeft (N : List Nd) (S : List Int) (x : Int) (A : Nd) : Prop := A ∈ N ∧ x ∈ A.1 ∧ A.1 ⊆ S ∧ ∀ Y ∈ N, x ∈ Y.1 → Y.1 ⊆ S → Y.1.length ≤ A.1.length
def Nx (N : List Nd) (S S' : List Int) : Prop := ∃ S0 x A, S = S0 ++ [x] ∧ IsLeft N S x A ∧ 0 ≤ A.2 ∧ S' = S ++ [A.2]
inductive Rc (N : List Nd) : List Int → List Int → Prop
  | refl (S : List Int) : Rc N S S
  | step {S S1 S2 : List Int} : Nx N S S1 → Rc N S1 S2 → Rc N S S2
theorem Rc.trans {N : List Nd} {A B C : List Int} (h : Rc N A B) (k : Rc N B C) : Rc N A C := by
  induction h with
  | refl => exact k
  | step s _ ih => exact .step s (ih k)
theorem Rc.one {N : List Nd} {A B : List Int} (h : Nx N A B) : Rc N A B := .step h (.refl _)
theorem Rc.pre {N : List Nd} {A B : List Int} (h : Rc N A B) : A <+: B := by
  induction h with
  | refl => exact List.prefix_refl _
  | step s _ ih =>
    obtain ⟨S0, x, D, _, _, _, rfl⟩ := s
    exact (List.prefix_append _ _).trans ih
def Dead (N : List Nd) (S : List Int) : Prop := ∃ S0 x A, S = S0 ++ [x] ∧ IsLeft N S x A ∧ A.2 < 0
section
variable {n : Int} {N T : List Nd}
theorem Nest.left_one (h : Nest n N T) {S : List Int} {x : Int} {A B : Nd} (a : IsLeft N S x A) (b : IsLeft N S x B) : A = B := by
  have ha := a.2.2.2 B b.1 b.2.1 b.2.2.1
  have hb := b.2.2.2 A a.1 a.2.1 a.2.2.1
  rcases h.lam A a.1 B b.1 x a.2.1 b.2.1 with z | z
  · exact h.uniq A a.1 B b.1 z (sub_of_len (h.ok A a.1).2.1 z ha)
  · exact h.uniq A a.1 B b.1 (sub_of_len (h.ok B b.1).2.1 z hb) z
theorem snoc_inj {S0 S1 : List Int} {x y : Int} (h : S0 ++ [x] = S1 ++ [y]) : S0 = S1 ∧ x = y := by
  obtain ⟨a, b⟩ := List.append_inj' h rfl
  exact ⟨a, List.singleton_inj.mp b⟩
theorem Nest.nx_one (h : Nest n N T) {S S1 S2 : List Int} (a : Nx N S S1) (b : Nx N S S2) : S1 = S2 := by
  obtain ⟨_, x, A, e1, l1, _, rfl⟩ := a
  obtain ⟨_, y, B, e2, l2, _, rfl⟩ := b
  obtain ⟨_, rfl⟩ := snoc_inj (e1.symm.trans e2)
  rw [h.left_one l1 l2]
theorem Nest.nx_dead (h : Nest n N T) {S S1 : List Int} (a : Nx N S S1) (b : Dead N S) : False := by
  obtain ⟨_, x, A, e1, l1, g, rfl⟩ := a
  obtain ⟨_, y, B, e2, l2, g2⟩ := b
  obtain ⟨_, rfl⟩ := snoc_inj (e1.symm.trans e2)
  rw [h.left_one l1 l2] at g
  omega
theorem Nest.pre_dead (h : Nest n N T) {P S E : List Int} (a : Rc N P S) (b : Rc N P E) (d : Dead N E) : S <+: E := by
  induction a with
  | refl => exact b.pre
  | step s _ ih =>
    cases b with
    | refl => exact (h.nx_dead s d).elim
    | step s2 r => exact ih (by rw [h.nx_one s s2]; exact r)
theorem nodup_sub {Cs : List Nd} {C : Nd} (hn : (pl Cs).Nodup) (hc : C ∈ Cs) : C.1.Nodup := by
  obtain ⟨X, Y, rfl⟩ := List.append_of_mem hc
  rw [pl, List.flatMap_append, List.flatMap_cons] at hn
  exact (List.nodup_append.mp (List.nodup_append.mp hn).2.1).1
theorem ne_snoc {L : List Int} (h : L ≠ []) : ∃ L' x, L = L' ++ [x] := ⟨L.dropLast, L.getLast h, (List.dropLast_concat_getLast h).symm⟩
/-- from a place of A the walk sees all of A first -/
theorem Nest.tour (h : Nest n N T) : ∀ k : Nat, ∀ A ∈ N, A.1.length ≤ k → ∀ S0 p, p ∈ A.1 → (∀ q ∈ S0, q ∉ A.1) → ∃ L, L.Perm A.1 ∧ Rc N (S0 ++ [p]) (S0 ++ L) := by
  intro k
  induction k with
  | zero =>
    intro A hA hk
    exact absurd (List.length_eq_zero_iff.mp (Nat.le_zero.mp hk)) (h.ok A hA).1
  | succ k ih =>
    intro R hR hk S0 p hp hS
    rcases h.kids R hR p hp with e | ⟨C, Cs, hC, hl, hne, hperm, hD⟩
    · exact ⟨[p], by rw [e], .refl _⟩
    · have hnd : (pl (C :: Cs)).Nodup := hperm.nodup_iff.mpr (h.ok R hR).2.1
      have hlen : ∀ E ∈ C :: Cs, E.1.length ≤ k := by
        intro E hE
        -- another child holds a place that E lacks
        have hsum : (pl (C :: Cs)).length = R.1.length := hperm.length_eq
        obtain ⟨X, Y, e⟩ := List.append_of_mem hE
        have hXY : X ++ Y ≠ [] := by
          intro z
          have := congrArg List.length e
          have z2 := congrArg List.length z
          rw [List.length_append, List.length_nil] at z2
          rw [List.length_append, List.length_cons, List.length_cons] at this
          exact hne (List.length_eq_zero_iff.mp (by omega))
        obtain ⟨F, hF⟩ := List.exists_mem_of_ne_nil _ hXY
        have hFm : F ∈ C :: Cs := by
          rw [e]; rcases List.mem_append.mp hF with z | z <;> simp [z]
        have hF1 : 0 < F.1.length := List.length_pos_iff.mpr (h.ok F (hD F hFm).1).1
        have hge : F.1.length ≤ (pl (X ++ Y)).length := by
          obtain ⟨X', Y', e'⟩ := List.append_of_mem hF
          rw [e', pl, List.flatMap_append, List.flatMap_cons, List.length_append, List.length_append]
          omega
        rw [e, pl, List.flatMap_append, List.flatMap_cons, List.length_append, List.length_append] at hsum
        rw [pl, List.flatMap_append, List.length_append] at hge
        omega
      have hsubR : ∀ E ∈ C :: Cs, E.1 ⊆ R.1 := fun E hE x hx => hperm.subset (mem_pl.mpr ⟨E, hE, hx⟩)
      have inner : ∀ (Ds : List Nd) (D : Nd) (S1 : List Int) (q : Int), q ∈ D.1 → Line (D :: Ds) → (∀ E ∈ D :: Ds, E ∈ C :: Cs) → (pl (D :: Ds)).Nodup → (∀ E ∈ D :: Ds, ∀ y ∈ E.1, y ∉ S1) →
          ∃ L, L.Perm (pl (D :: Ds)) ∧ Rc N (S1 ++ [q]) (S1 ++ L) := by
        intro Ds
        induction Ds with
        | nil =>
          intro D S1 q hq _ hm _ hs
          obtain ⟨L, a, b⟩ := ih D (hD D (hm D (by simp))).1 (hlen D (hm D (by simp))) S1 q hq fun y hy hy2 => hs D (by simp) y hy2 hy
          exact ⟨L, by rw [pl, List.flatMap_cons, List.flatMap_nil, List.append_nil]; exact a, b⟩
        | cons E r ih2 =>
          intro D S1 q hq hli hm hn hs
          have hDm := hm D (by simp)
          have hDN := (hD D hDm).1
          obtain ⟨L, a, b⟩ := ih D hDN (hlen D hDm) S1 q hq fun y hy hy2 => hs D (by simp) y hy2 hy
          have hLne : L ≠ [] := fun z => (h.ok D hDN).1 (by rw [z] at a; exact a.symm.eq_nil)
          obtain ⟨L', x, rfl⟩ := ne_snoc hLne
          have hxD : x ∈ D.1 := a.subset (by simp)
          have hEm := hm E (by simp)
          have hEN := (hD E hEm).1
          rw [pl, List.flatMap_cons] at hn
          have hn' := List.nodup_append.mp hn
          have hleft : IsLeft N (S1 ++ (L' ++ [x])) x D := by
            refine ⟨hDN, hxD, fun y hy => List.mem_append_right _ (a.symm.subset hy), fun Y hY hxY hYS => ?_⟩
            rcases (hD D hDm).2 Y hY x hxD hxY with z | z
            · exact len_le (h.ok Y hY).2.1 z
            · exfalso
              obtain ⟨w, hw⟩ := List.exists_mem_of_ne_nil _ (h.ok E hEN).1
              have := hYS (z (hsubR E hEm hw))
              rcases List.mem_append.mp this with t | t
              · exact hs E (by simp) w hw t
              · exact hn'.2.2 w (a.subset t) w (by rw [List.flatMap_cons]; exact List.mem_append_left _ hw) rfl
          have hgate : 0 ≤ D.2 := ((h.ok E hEN).2.2.1 D.2 hli.1).1
          have hst : Nx N (S1 ++ (L' ++ [x])) (S1 ++ (L' ++ [x]) ++ [D.2]) := ⟨S1 ++ L', x, D, by rw [List.append_assoc], hleft, hgate, rfl⟩
          obtain ⟨L2, a2, b2⟩ := ih2 E (S1 ++ (L' ++ [x])) D.2 hli.1 hli.2 (fun F hF => hm F (by simp at hF ⊢; exact .inr hF)) hn'.2.1 fun F hF y hy hy2 => by
            rcases List.mem_append.mp hy2 with t | t
            · exact hs F (List.mem_cons_of_mem _ hF) y hy t
            · exact hn'.2.2 y (a.subset t) y (List.mem_flatMap.mpr ⟨F, hF, hy⟩) rfl
          refine ⟨L' ++ [x] ++ L2, ?_, (b.trans (.one hst)).trans (by rw [← List.append_assoc S1 (L' ++ [x]) L2]; exact b2)⟩
          rw [pl, List.flatMap_cons]
          exact a.append a2
      obtain ⟨L, a, b⟩ := inner Cs C S0 p hC hl (fun _ hE => hE) hnd fun E hE y hy hy2 => hS y hy2 (hsubR E hE hy)
      exact ⟨L, a.trans hperm, b⟩

/-- no way through the tops comes back -/
def NoCyc (T : List Nd) : Prop := ∀ (B : Nd) (Y : List Nd) (Z : Nd), (B :: Y).Nodup → (∀ D ∈ B :: Y, D ∈ T) → Line (B :: Y) → (B :: Y).getLast? = some Z → Z.2 ∈ B.1 → False
theorem Nest.walk (h : Nest n N T) (hc : NoCyc T) : ∀ (k : Nat) (V : List Nd) (A : Nd) (S0 : List Int) (p : Int), T.length ≤ V.length + k → (V ++ [A]).Nodup → (∀ D ∈ V ++ [A], D ∈ T) → Line (V ++ [A]) → p ∈ A.1 → S0.Nodup → (∀ q ∈ S0, ∃ B ∈ V, q ∈ B.1) →
    ∃ E, Rc N (S0 ++ [p]) E ∧ E.Nodup ∧ Dead N E := by
  intro k
  induction k with
  | zero =>
    intro V A S0 p hk hn hm
    have := len_le' hn hm
    rw [List.length_append, List.length_singleton] at this
    omega
  | succ k ih =>
    intro V A S0 p hk hn hm hl hp hS hV
    have hAT := hm A (by simp)
    have hAN := h.sub A hAT
    have hn' := List.nodup_append.mp hn
    have hfar : ∀ q ∈ S0, q ∉ A.1 := by
      intro q hq hqA
      obtain ⟨B, hB, hqB⟩ := hV q hq
      have := h.disj A hAT B (hm B (by simp [hB])) q hqA hqB
      subst this
      exact hn'.2.2 _ hB _ (by simp) rfl
    obtain ⟨L, a, b⟩ := h.tour _ A hAN (Nat.le_refl _) S0 p hp hfar
    have hLne : L ≠ [] := fun z => (h.ok A hAN).1 (by rw [z] at a; exact a.symm.eq_nil)
    obtain ⟨L', x, rfl⟩ := ne_snoc hLne
    have hxA : x ∈ A.1 := a.subset (by simp)
    have hleft : IsLeft N (S0 ++ (L' ++ [x])) x A := by
      refine ⟨hAN, hxA, fun y hy => List.mem_append_right _ (a.symm.subset hy), fun Y hY hxY hYS => ?_⟩
      obtain ⟨B, hB, hYB⟩ := h.within Y hY
      have := h.disj A hAT B hB x hxA (hYB hxY)
      subst this
      exact len_le (h.ok Y hY).2.1 hYB
    have hnd : (S0 ++ (L' ++ [x])).Nodup := List.nodup_append.mpr ⟨hS, a.nodup_iff.mpr (h.ok A hAN).2.1, fun y hy z hz e => hfar y hy (by rw [e]; exact a.subset hz)⟩
    rcases (h.ok A hAN).2.2.2.2 with g | ⟨g0, g1⟩
    · exact ⟨_, b, hnd, S0 ++ L', x, A, by rw [List.append_assoc], hleft, by rw [g]; omega⟩
    · obtain ⟨B, hB, hgB⟩ := h.cover A.2 g0 g1
      have hBn : B ∉ V ++ [A] := by
        intro hin
        obtain ⟨X, Y, e⟩ := List.append_of_mem hin
        refine hc B Y A ?_ ?_ ?_ ?_ hgB
        · rw [e] at hn; exact (List.nodup_append.mp hn).2.1
        · intro D hDm; exact hm D (by rw [e]; exact List.mem_append_right _ hDm)
        · rw [e] at hl; exact line_right hl
        · have := congrArg List.getLast? e
          rw [List.getLast?_append, List.getLast?_append] at this
          simp at this
          exact this.symm
      have hst : Nx N (S0 ++ (L' ++ [x])) (S0 ++ (L' ++ [x]) ++ [A.2]) := ⟨S0 ++ L', x, A, by rw [List.append_assoc], hleft, g0, rfl⟩
      obtain ⟨E, r1, r2, r3⟩ := ih (V ++ [A]) B (S0 ++ (L' ++ [x])) A.2 (by rw [List.length_append, List.length_singleton]; omega)
        (List.nodup_append.mpr ⟨hn, by simp, fun y hy z hz e => hBn (by rw [List.mem_singleton.mp hz] at e; rw [← e]; exact hy)⟩)
        (fun D hDm => by
          rcases List.mem_append.mp hDm with z | z
          · exact hm D z
          · rw [List.mem_singleton.mp z]; exact hB)
        (line_snoc hl hgB) hgB hnd (fun q hq => by
          rcases List.mem_append.mp hq with z | z
          · obtain ⟨D, hD1, hD2⟩ := hV q z
            exact ⟨D, by simp [hD1], hD2⟩
          · exact ⟨A, by simp, a.subset z⟩)
      exact ⟨E, (b.trans (.one hst)).trans r1, r2, r3⟩
/-- what the walk has named never repeats -/
theorem Nest.named (h : Nest n N T) (hc : NoCyc T) {p : Int} (h0 : 0 ≤ p) (h1 : p < n) {S : List Int} (hr : Rc N [p] S) : S.Nodup := by
  obtain ⟨A, hA, hp⟩ := h.cover p h0 h1
  obtain ⟨E, r1, r2, r3⟩ := h.walk hc T.length [] A [] p (by simp) (by simp) (by simpa using hA) trivial hp List.nodup_nil (by simp)
  exact r2.sublist (h.pre_dead hr r1 r3).sublist
theorem Nest.in_range (h : Nest n N T) {P S : List Int} (hr : Rc N P S) (hp : ∀ x ∈ P, 0 ≤ x ∧ x < n) : ∀ x ∈ S, 0 ≤ x ∧ x < n := by
  induction hr with
  | refl => exact hp
  | step s _ ih =>
    obtain ⟨_, x, A, _, l, g, rfl⟩ := s
    refine ih fun y hy => ?_
    rcases List.mem_append.mp hy with z | z
    · exact hp y z
    · rw [List.mem_singleton.mp z]
      rcases (h.ok A l.1).2.2.2.2 with e | e
      · omega
      · exact e

/-! ### how a nest grows -/
theorem nodup_pl : ∀ {Cs : List Nd}, Cs.Nodup → (∀ C ∈ Cs, C.1.Nodup) → (∀ A ∈ Cs, ∀ B ∈ Cs, ∀ p, p ∈ A.1 → p ∈ B.1 → A = B) → (pl Cs).Nodup
  | [], _, _, _ => List.nodup_nil
  | C :: r, hn, h1, h2 => by
    rw [pl, List.flatMap_cons]
    have hn' := List.nodup_cons.mp hn
    refine List.nodup_append.mpr ⟨h1 C (by simp), nodup_pl hn'.2 (fun D hD => h1 D (by simp [hD])) (fun A hA B hB => h2 A (by simp [hA]) B (by simp [hB])), fun x hx y hy e => ?_⟩
    subst e
    obtain ⟨D, hD, hxD⟩ := List.mem_flatMap.mp hy
    have := h2 C (by simp) D (by simp [hD]) x hx hxD
    exact hn'.1 (this ▸ hD)
theorem nest_first {T : List Nd} {n : Nat} (hl : T.length = n) (hT : ∀ (i : Nat) (h : i < T.length), T[i].1 = [(i : Int)] ∧ T[i].2 ≠ (i : Int) ∧ (T[i].2 = -1 ∨ 0 ≤ T[i].2 ∧ T[i].2 < n)) : Nest n T T := by
  have hm : ∀ A ∈ T, ∃ (i : Nat), ∃ h : i < T.length, A = T[i] := fun A hA => by
    obtain ⟨i, h, e⟩ := List.mem_iff_getElem.mp hA
    exact ⟨i, h, e.symm⟩
  have hone : ∀ p : Int, 0 ≤ p → p < n → ∃ A ∈ T, A.1 = [p] := by
    intro p h0 h1
    obtain ⟨k, rfl⟩ := Int.eq_ofNat_of_zero_le h0
    exact ⟨T[k]'(by omega), List.getElem_mem _, (hT k (by omega)).1⟩
  have hdis : ∀ A ∈ T, ∀ B ∈ T, ∀ p, p ∈ A.1 → p ∈ B.1 → A = B := by
    intro A hA B hB p ha hb
    obtain ⟨i, h1, rfl⟩ := hm A hA
    obtain ⟨j, h2, rfl⟩ := hm B hB
    rw [(hT i h1).1, List.mem_singleton] at ha
    rw [(hT j h2).1, List.mem_singleton] at hb
    have : i = j := by omega
    subst this
    rfl
  exact {
    sub := fun A hA => hA
    one := hone
    ok := fun A hA => by
      obtain ⟨i, h1, rfl⟩ := hm A hA
      obtain ⟨a, b, c⟩ := hT i h1
      rw [a]
      refine ⟨by simp, by simp, fun p hp => ?_, by simpa using b, c⟩
      rw [List.mem_singleton] at hp
      omega
    cover := fun p h0 h1 => by
      obtain ⟨A, hA, e⟩ := hone p h0 h1
      exact ⟨A, hA, by rw [e]; simp⟩
    disj := hdis
    nodT := by
      rw [List.nodup_iff_pairwise_ne, List.pairwise_iff_getElem]
      intro i j hi hj hij e
      have a := (hT i hi).1
      rw [e, (hT j hj).1] at a
      have := List.singleton_inj.mp a
      omega
    within := fun Y hY => ⟨Y, hY, fun _ h => h⟩
    uniq := fun Y hY Z hZ h1 _ => by
      obtain ⟨i, hi, rfl⟩ := hm Y hY
      exact hdis _ hY Z hZ i (by rw [(hT i hi).1]; simp) (h1 (by rw [(hT i hi).1]; simp))
    lam := fun Y hY Z hZ x h1 h2 => .inl (by rw [hdis Y hY Z hZ x h1 h2]; exact fun _ h => h)
    kids := fun R hR p hp => by
      obtain ⟨i, hi, rfl⟩ := hm R hR
      rw [(hT i hi).1, List.mem_singleton] at hp
      exact .inl (by rw [(hT i hi).1, hp]) }
theorem Nest.merge (h : Nest n N T) {C0 : Nd} {Cs T' N' : List Nd} {Q Z : Nd} (hne : Cs ≠ []) (hnd : (C0 :: Cs).Nodup) (hin : ∀ C ∈ C0 :: Cs, C ∈ T) (hline : Line (C0 :: Cs)) (hlast : (C0 :: Cs).getLast? = some Z) (hcl : Z.2 ∈ C0.1)
    (hp : Q.1.Perm (pl (C0 :: Cs))) (hg : Q.2 ∉ Q.1) (hg2 : Q.2 = -1 ∨ 0 ≤ Q.2 ∧ Q.2 < n) (hT' : ∀ B, B ∈ T' ↔ (B ∈ T ∧ B ∉ C0 :: Cs) ∨ B = Q) (hnT' : T'.Nodup) (hN' : ∀ B, B ∈ N' ↔ B ∈ N ∨ B = Q) : Nest n N' T' := by
  have hQ : ∀ x, x ∈ Q.1 ↔ ∃ C ∈ C0 :: Cs, x ∈ C.1 := fun x => hp.mem_iff.trans mem_pl
  have hok : ∀ C ∈ C0 :: Cs, C ∈ N := fun C hC => h.sub C (hin C hC)
  have hdis : ∀ A ∈ C0 :: Cs, ∀ B ∈ C0 :: Cs, ∀ p, p ∈ A.1 → p ∈ B.1 → A = B := fun A hA B hB => h.disj A (hin A hA) B (hin B hB)
  have hsubQ : ∀ C ∈ C0 :: Cs, C.1 ⊆ Q.1 := fun C hC x hx => (hQ x).mpr ⟨C, hC, hx⟩
  have hC0 := h.ok C0 (hok C0 (by simp))
  have hQN : Q ∈ N' := (hN' Q).mpr (.inr rfl)
  -- a node of N that meets Q lies in a child, and so in Q
  have hmeet : ∀ Y ∈ N, ∀ x, x ∈ Y.1 → x ∈ Q.1 → ∃ C ∈ C0 :: Cs, x ∈ C.1 ∧ Y.1 ⊆ C.1 := by
    intro Y hY x hx hxQ
    obtain ⟨C, hC, hxC⟩ := (hQ x).mp hxQ
    obtain ⟨A, hA, hYA⟩ := h.within Y hY
    have := h.disj A hA C (hin C hC) x (hYA hx) hxC
    subst this
    exact ⟨A, hC, hxC, hYA⟩
  have hbig : ∀ Y ∈ N, Q.1 ⊆ Y.1 → False := by
    intro Y hY hs
    obtain ⟨C1, r, rfl⟩ := List.exists_cons_of_ne_nil hne
    obtain ⟨A, hA, hYA⟩ := h.within Y hY
    obtain ⟨x, hx⟩ := List.exists_mem_of_ne_nil _ hC0.1
    obtain ⟨y, hy⟩ := List.exists_mem_of_ne_nil _ (h.ok C1 (hok C1 (by simp))).1
    have e1 := h.disj A hA C0 (hin C0 (by simp)) x (hYA (hs (hsubQ C0 (by simp) hx))) hx
    have e2 := h.disj A hA C1 (hin C1 (by simp)) y (hYA (hs (hsubQ C1 (by simp) hy))) hy
    have := (List.nodup_cons.mp hnd).1
    exact this (by rw [← e1, e2]; simp)
  exact {
    sub := fun A hA => by
      rcases (hT' A).mp hA with z | rfl
      · exact (hN' A).mpr (.inl (h.sub A z.1))
      · exact hQN
    one := fun p h0 h1 => by
      obtain ⟨A, hA, e⟩ := h.one p h0 h1
      exact ⟨A, (hN' A).mpr (.inl hA), e⟩
    ok := fun A hA => by
      rcases (hN' A).mp hA with z | rfl
      · exact h.ok A z
      · refine ⟨fun e => ?_, hp.nodup_iff.mpr (nodup_pl hnd (fun C hC => (h.ok C (hok C hC)).2.1) hdis), fun p hpA => ?_, hg, hg2⟩
        · obtain ⟨x, hx⟩ := List.exists_mem_of_ne_nil _ hC0.1
          have := hsubQ C0 (by simp) hx
          rw [e] at this
          cases this
        · obtain ⟨C, hC, hx⟩ := (hQ p).mp hpA
          exact (h.ok C (hok C hC)).2.2.1 p hx
    cover := fun p h0 h1 => by
      obtain ⟨A, hA, e⟩ := h.cover p h0 h1
      by_cases z : A ∈ C0 :: Cs
      · exact ⟨Q, (hT' Q).mpr (.inr rfl), hsubQ A z e⟩
      · exact ⟨A, (hT' A).mpr (.inl ⟨hA, z⟩), e⟩
    disj := fun A hA B hB p ha hb => by
      rcases (hT' A).mp hA with za | ea <;> rcases (hT' B).mp hB with zb | eb
      · exact h.disj A za.1 B zb.1 p ha hb
      · subst eb
        obtain ⟨C, hC, hx⟩ := (hQ p).mp hb
        exact absurd (by rw [h.disj A za.1 C (hin C hC) p ha hx]; exact hC) za.2
      · subst ea
        obtain ⟨C, hC, hx⟩ := (hQ p).mp ha
        exact absurd (by rw [h.disj B zb.1 C (hin C hC) p hb hx]; exact hC) zb.2
      · rw [ea, eb]
    nodT := hnT'
    within := fun Y hY => by
      rcases (hN' Y).mp hY with z | rfl
      · obtain ⟨A, hA, e⟩ := h.within Y z
        by_cases q : A ∈ C0 :: Cs
        · exact ⟨Q, (hT' Q).mpr (.inr rfl), fun x hx => hsubQ A q (e hx)⟩
        · exact ⟨A, (hT' A).mpr (.inl ⟨hA, q⟩), e⟩
      · exact ⟨Y, (hT' Y).mpr (.inr rfl), fun _ hx => hx⟩
    uniq := fun Y hY W hW h1 h2 => by
      rcases (hN' Y).mp hY with za | ea <;> rcases (hN' W).mp hW with zb | eb
      · exact h.uniq Y za W zb h1 h2
      · subst eb; exact (hbig Y za h2).elim
      · subst ea; exact (hbig W zb h1).elim
      · rw [ea, eb]
    lam := fun Y hY W hW x h1 h2 => by
      rcases (hN' Y).mp hY with za | ea <;> rcases (hN' W).mp hW with zb | eb
      · exact h.lam Y za W zb x h1 h2
      · subst eb
        obtain ⟨C, hC, _, hs⟩ := hmeet Y za x h1 h2
        exact .inl fun y hy => hsubQ C hC (hs hy)
      · subst ea
        obtain ⟨C, hC, _, hs⟩ := hmeet W zb x h2 h1
        exact .inr fun y hy => hsubQ C hC (hs hy)
      · rw [ea, eb]; exact .inl fun _ hy => hy
    kids := fun R hR p hpR => by
      rcases (hN' R).mp hR with z | e
      · rcases h.kids R z p hpR with a | ⟨C, Es, a, b, c, d, f⟩
        · exact .inl a
        · refine .inr ⟨C, Es, a, b, c, d, fun D hD => ⟨(hN' D).mpr (.inl (f D hD).1), fun Y hY x hx hxY => ?_⟩⟩
          rcases (hN' Y).mp hY with zy | ey
          · exact (f D hD).2 Y zy x hx hxY
          · subst ey
            obtain ⟨E, hE, _, hs⟩ := hmeet R z x (d.subset (mem_pl.mpr ⟨D, hD, hx⟩)) hxY
            exact .inr fun y hy => hsubQ E hE (hs hy)
      · subst e
        right
        obtain ⟨C, hC, hpC⟩ := (hQ p).mp hpR
        obtain ⟨X, Y, e⟩ := List.append_of_mem hC
        refine ⟨C, Y ++ X, hpC, ?_, ?_, ?_, ?_⟩
        · cases X with
          | nil =>
            rw [List.append_nil]
            rw [e] at hline
            exact hline
          | cons X0 X =>
            have hX0 : X0 = C0 := (List.cons.inj e).1.symm
            subst hX0
            have hl1 : Line (X0 :: X) := by rw [e] at hline; exact line_left hline
            have hl2 : Line (C :: Y) := by rw [e] at hline; exact line_right hline
            rw [e] at hlast
            have hz : (C :: Y).getLast? = some Z := by
              rw [List.getLast?_append] at hlast
              cases q : (C :: Y).getLast? with
              | none => simp at q
              | some w => rw [q] at hlast; exact hlast
            obtain ⟨W, e2⟩ : ∃ W, C :: Y = W ++ [Z] := by
              obtain ⟨W, e3⟩ := List.getLast?_eq_some_iff.mp hz
              exact ⟨W, e3⟩
            show Line ((C :: Y) ++ X0 :: X)
            refine line_append ?_ hl1
            rw [e2] at hl2 ⊢
            exact line_snoc hl2 hcl
        · intro z
          have := congrArg List.length e
          have z2 := congrArg List.length z
          rw [List.length_append, List.length_nil] at z2
          rw [List.length_append, List.length_cons, List.length_cons] at this
          exact hne (List.length_eq_zero_iff.mp (by omega))
        · refine List.Perm.trans ?_ hp.symm
          rw [e]
          refine List.Perm.flatMap_right _ ?_
          exact (List.perm_append_comm (l₁ := X) (l₂ := C :: Y)).symm
        · intro D hD
          have hD' : D ∈ C0 :: Cs := by
            rw [e]
            simp at hD ⊢
            rcases hD with z | z | z <;> simp [z]
          refine ⟨(hN' D).mpr (.inl (hok D hD')), fun Y' hY' x hx hxY => ?_⟩
          rcases (hN' Y').mp hY' with zy | ey
          · obtain ⟨E, hE, hxE, hs⟩ := hmeet Y' zy x hxY (hsubQ D hD' hx)
            have := hdis D hD' E hE x hx hxE
            subst this
            exact .inl hs
          · subst ey; exact .inr fun _ hy => hy }
end
end NT

set_option Elab.async false
set_option linter.all false
set_option maxRecDepth 100000
set_option maxHeartbeats 4000000
namespace UW
open UL UL.U NT
def GoodS (s : U) : Prop := ∃ a b c : Int, s = .lst [.int a, .int b, .int c]
theorem draw_spec {s : U} (hs : GoodS s) {n : Nat} (h0 : 0 < n) (h1 : n < 1073741824) : (m_law_draw s (.int n)).Sat fun r => ∃ k : Nat, k < n ∧ r.1 = .int k ∧ GoodS r.2 := by
  obtain ⟨a, b, c, rfl⟩ := hs
  have hm : ∀ x : Int, ∃ k : Nat, k < n ∧ x % (n : Int) = k := fun x => by
    have h2 := Int.emod_nonneg x (b := (n : Int)) (by omega)
    have h3 := Int.emod_lt_of_pos x (b := (n : Int)) (by omega)
    exact ⟨(x % (n : Int)).toNat, by omega, by omega⟩
  unfold m_law_draw
  by_cases ha : 0 < a
  · simp [ha, mod_int (b := (n : Int)) (by omega), fdiv_int (b := (n : Int)) (by omega) (by omega)]
    obtain ⟨k, hk, e⟩ := hm a
    exact ⟨k, hk, e, _, _, _, rfl⟩
  · simp [ha, mod_int (b := (n : Int)) (by omega)]
    rw [mul_int (by omega) (by omega), mul_int (by omega) (by omega)]
    simp
    rw [mod_int (by omega)]
    simp
    generalize hx : (b * 48271 + (c + 1) * 69621 + 11) % 2147483647 = x
    have hx0 : 0 ≤ x ∧ x < 2147483647 := by omega
    rw [mul_int (by omega) (by omega), mul_int (by omega) (by omega)]
    simp
    rw [mod_int (by omega)]
    simp
    generalize hy : (x * x + (c + 1) * 40692 + 7) % 2147483399 = y
    have hy0 : 0 ≤ y ∧ y < 2147483399 := by
      rw [← hy]
      exact ⟨Int.emod_nonneg _ (by omega), Int.emod_lt_of_pos _ (by omega)⟩
    rw [mul_int (by omega) (by omega)]
    simp
    rw [mod_int (by omega)]
    simp
    rw [fdiv_int (by omega) (by omega)]
    simp [mod_int (b := (n : Int)) (by omega)]
    obtain ⟨k, hk, e⟩ := hm ((y * y + x) % 2147483563 / 8)
    exact ⟨k, hk, e, _, _, _, rfl⟩
theorem p1018 : U.pow (.int 10) (.int 18) = .ok (.int 1000000000000000000) := by simp [U.pow]
theorem start_first (ns : List Int) : ∃ j : Int, (if 0 < ns.length then (((((Res.ok (U.scr ns)) >>= fun a17 => (.ok (.int 0)) >>= fun a18 => U.idx a17 a18) >>= fun a19 => U.abs a19) >>= fun a20 => U.toInt a20) >>= fun a21 => (.ok (.int 1000000007)) >>= fun a22 => U.mod a21 a22) >>= fun x_first_23 => .ok x_first_23 else .ok (.int 0)) = Res.ok (U.int j) := by
  by_cases h : 0 < ns.length
  · rw [if_pos h]
    have := idx_scr (ns := ns) (k := 0) h
    simp only [Int.natCast_zero] at this
    refine ⟨(if ns[0] < 0 then -ns[0] else ns[0]) % 1000000007, ?_⟩
    simp only [okb, this, abs_int, toInt_int]
    rw [mod_int (by omega)]
    simp only [okb]
  · rw [if_neg h]; exact ⟨0, rfl⟩
theorem start_spec (ns : List Int) (k : Nat) : (m_law_start (.scr ns) (.int k)).Sat GoodS := by
  unfold m_law_start
  obtain ⟨j, ej⟩ := start_first ns
  simp only [okb] at ej
  have e0 : ((0 : Int) < (ns.length : Int)) = (0 < ns.length) := propext (by omega)
  have e1 : ((ns.length : Int) ≤ (k : Int)) = (ns.length ≤ k) := propext (by omega)
  simp only [okb, len_scr, gt_int, bool_bl, e0, decide_eq_true_eq, ej, mul_int (a := j) (b := 31) (by omega) (by omega), mul_int (a := (k : Int)) (b := 1009) (by omega) (by omega), add_int, ge_int, e1, mkL3, isl_lst]
  by_cases hk : ns.length ≤ k
  · rw [if_pos hk, sat_ok]
    exact ⟨_, _, _, rfl⟩
  · rw [if_neg hk]
    simp only [okb, idx_scr (ns := ns) (k := k) (by omega), abs_int, p1018, lt_int, bool_bl]
    generalize (if ns[k] < 0 then -ns[k] else ns[k]) = cell
    simp only [okb, toInt_int, mod_int (a := cell) (b := 1000000007) (by omega), mul_int (a := (k : Int)) (b := 101) (by omega) (by omega), add_int, mkL3, isl_lst]
    generalize decide (cell < 1000000000000000000) = bb
    cases bb
    · simp only [Bool.false_eq_true, if_false, sat_ok]; exact ⟨_, _, _, rfl⟩
    · simp only [if_true, sat_ok]; exact ⟨_, _, _, rfl⟩
theorem size_spec {s : U} (hs : GoodS s) : (m_law_size s (.int 6) (.int 16)).Sat fun r => ∃ n : Nat, 1 ≤ n ∧ n ≤ 16 ∧ r.1 = .int n ∧ GoodS r.2 := by
  unfold m_law_size
  simp
  refine (draw_spec hs (n := 8) (by omega) (by omega)).imp fun ⟨x, s1⟩ ⟨k, hk, e, hs1⟩ => ?_
  simp at e hs1
  subst e
  simp
  split
  · simp
    refine (draw_spec hs1 (n := 16) (by omega) (by omega)).imp fun ⟨x, s2⟩ ⟨k, hk, e, hs2⟩ => ?_
    simp at e hs2
    subst e
    simp
    exact ⟨1 + k, by omega, by omega, by omega, hs2⟩
  · simp
    refine (draw_spec hs1 (n := 6) (by omega) (by omega)).imp fun ⟨x, s2⟩ ⟨k, hk, e, hs2⟩ => ?_
    simp at e hs2
    subst e
    simp
    exact ⟨1 + k, by omega, by omega, by omega, hs2⟩

/-! ### nodes -/
abbrev encN (A : Nd) : U := .tup [it A.1, .int A.2]
abbrev encNs (T : List Nd) : U := .lst (T.map encN)
abbrev kl (ks : List Nat) : List Int := ks.map fun (k : Nat) => (k : Int)
theorem idx_T {T : List Nd} {k : Nat} (h : k < T.length) : U.idx (encNs T) (.int (k : Int)) = .ok (encN T[k]) := by
  have := idx_nat (us := T.map encN) (k := k) (by simpa using h)
  simpa using this
theorem idx_last (xs : List Int) (x : Int) : U.idx (il (xs ++ [x])) (.int (-1)) = .ok (.int x) := by
  have := idx_m1 (us := xs.map U.int) (x := .int x)
  rw [il, List.map_append]
  exact this
theorem top_at_spec {T : List Nd} {p : Int} (hT : T.length ≤ 16777216) : (m_law_top_at (encNs T) (.int p)).Sat fun r => (∃ k : Nat, ∃ h : k < T.length, r = .int k ∧ p ∈ T[k].1) ∨ (r = .int (-1) ∧ ∀ A ∈ T, p ∉ A.1) := by
  unfold m_law_top_at
  simp only [okb, len_lst, List.length_map, rng1_nat hT, sat_bind]
  refine (forR_rng (fun i _ => ∀ j (h : j < T.length), j < i → p ∉ T[j].1) (fun _ => False) (fun r => ∃ k : Nat, ∃ h : k < T.length, r = .int k ∧ p ∈ T[k].1) (by intro j _ h; omega) fun i s hi hI => ?_).imp fun c hc => ?_
  · unfold m_law_top_at_loop1
    simp only [okb, idx_T hi, encN, idx_t0, isin_it, bool_bl]
    by_cases hp : p ∈ T[i].1
    · simp only [hp, decide_true, if_true, sat_ok, ctlp_rt]
      exact ⟨i, hi, rfl, hp⟩
    · simp only [hp, decide_false, Bool.false_eq_true, if_false, sat_ok, ctlp_nx]
      intro j hj hji
      by_cases e : j = i
      · subst e; exact hp
      · exact hI j hj (by omega)
  · cases c with
    | nx s =>
      simp only [fin_nx, neg_int, okb, sat_ok]
      refine Or.inr ⟨trivial, fun A hA hp => ?_⟩
      obtain ⟨j, hj, e⟩ := List.mem_iff_getElem.mp hA
      exact hc j hj hj (by rw [e]; exact hp)
    | bk s => exact hc.elim
    | rt r => simp only [fin_rt, sat_ok]; exact .inl hc
/-- the list of the tops at these places -/
abbrev pk (T : List Nd) (ks : List Nat) : List Nd := ks.map fun k => T.getD k ([], -1)
theorem getD_T {T : List Nd} {k : Nat} (h : k < T.length) : T.getD k ([], -1) = T[k] := by simp [List.getD, h]
def NoC (T : List Nd) (C : Nd) : Prop := ∀ (Y : List Nd) (Z : Nd), (C :: Y).Nodup → (∀ D ∈ C :: Y, D ∈ T) → Line (C :: Y) → (C :: Y).getLast? = some Z → Z.2 ∈ C.1 → False
def IsCyc (T : List Nd) (ks : List Nat) : Prop := ∃ (k0 : Nat) (ks' : List Nat) (Z : Nd), ks = k0 :: ks' ∧ ks.Nodup ∧ (∀ k ∈ ks, k < T.length) ∧ Line (pk T ks) ∧ (pk T ks).getLast? = some Z ∧ Z.2 ∈ (T.getD k0 ([], -1)).1
theorem nodup_lt {ks : List Nat} {n : Nat} (h : ks.Nodup) (hl : ∀ k ∈ ks, k < n) : ks.length ≤ n := by
  have := len_le' h (b := List.range n) fun k hk => List.mem_range.mpr (hl k hk)
  simpa using this
theorem circle_loop {n : Int} {N T : List Nd} (hN : Nest n N T) (hT : T.length ≤ 16777215) {first : Nat} (hf : first < T.length) :
    (forR (m_law_circle_loop2 (encNs T) (.int first)) (rng T.length) (il [(first : Int)])).Sat (CtlP (fun _ => False) (fun _ => NoC T (T.getD first ([], -1))) (fun r => ∃ ks, r = il (kl ks) ∧ IsCyc T ks)) := by
  refine (forR_rng (fun i s => ∃ ks0 l, s = il (kl (ks0 ++ [l])) ∧ (ks0 ++ [l]).length = i + 1 ∧ (ks0 ++ [l]).Nodup ∧ (∀ k ∈ ks0 ++ [l], k < T.length) ∧ (∃ ks', ks0 ++ [l] = first :: ks') ∧ Line (pk T (ks0 ++ [l])) ∧
      ∀ (Y : List Nd) (Z : Nd), ((T.getD first ([], -1)) :: Y).Nodup → (∀ D ∈ (T.getD first ([], -1)) :: Y, D ∈ T) → Line ((T.getD first ([], -1)) :: Y) → ((T.getD first ([], -1)) :: Y).getLast? = some Z → Z.2 ∈ (T.getD first ([], -1)).1 → pk T (ks0 ++ [l]) <+: (T.getD first ([], -1)) :: Y)
    (fun _ => NoC T (T.getD first ([], -1))) (fun r => ∃ ks, r = il (kl ks) ∧ IsCyc T ks) ?_ fun i s hi hI => ?_).imp fun c hc => ?_
  · refine ⟨[], first, rfl, rfl, by simp, by simpa using hf, ⟨[], rfl⟩, trivial, fun Y Z _ _ _ _ _ => ?_⟩
    simp
  · obtain ⟨ks0, l, rfl, hlen, hnd, hlt, ⟨ks', hfst⟩, hline, hcyc⟩ := hI
    have hl : l < T.length := hlt l (by simp)
    have hlT : T[l] ∈ T := List.getElem_mem _
    have hidx : U.idx (il (kl (ks0 ++ [l]))) (.int (-1)) = .ok (.int (l : Int)) := by
      rw [kl, List.map_append]; exact idx_last _ _
    have hok := hN.ok _ (hN.sub _ hlT)
    have hsn : pk T (ks0 ++ [l]) = pk T ks0 ++ [T[l]] := by rw [pk, List.map_append, List.map_singleton, getD_T hl]
    -- what comes next in a circle through first
    have hnext : ∀ (Y : List Nd) (Z : Nd), ((T.getD first ([], -1)) :: Y).Nodup → (∀ D ∈ (T.getD first ([], -1)) :: Y, D ∈ T) → Line ((T.getD first ([], -1)) :: Y) → ((T.getD first ([], -1)) :: Y).getLast? = some Z → Z.2 ∈ (T.getD first ([], -1)).1 →
        T[l].2 ∈ (T.getD first ([], -1)).1 ∨ ∃ E r, (T.getD first ([], -1)) :: Y = pk T (ks0 ++ [l]) ++ E :: r ∧ T[l].2 ∈ E.1 := by
      intro Y Z h1 h2 h3 h4 h5
      obtain ⟨r, e⟩ := hcyc Y Z h1 h2 h3 h4 h5
      cases r with
      | nil =>
        left
        rw [List.append_nil] at e
        rw [← e, hsn, List.getLast?_append] at h4
        simp at h4
        rw [h4]; exact h5
      | cons E r =>
        right
        refine ⟨E, r, e.symm, ?_⟩
        rw [← e, hsn, List.append_assoc] at h3
        exact (line_right h3).1
    unfold m_law_circle_loop2
    simp only [okb, sat_bind, sat_ok, fin_nx, fin_bk, fin_rt, ctlp_nx, ctlp_bk, ctlp_rt, add_int, sub_int, neg_int, lt_int, le_int, gt_int, ge_int, eq_int, ne_int, bool_bl, toInt_int, abs_int, len_lst, len_tup, len_scr, isl_lst, list_lst, list_tup, items_lst, items_tup, scal_int, scal_bl, scal_non, part_int, mkT0, mkT1, mkT2, mkT3, mkL0, mkL1, mkL2, mkL3, idx_l0, idx_l1, idx_l2, idx_t0, idx_t1, idx_t2, set_l0, set_l2, decide_true, decide_false, if_true, if_false, Bool.false_eq_true, Bool.not_true, Bool.not_false, List.length_map, isin_il, isin_it, notin_il, notin_it, encN, hidx, idx_T hl]
    by_cases hg : T[l].2 < 0
    · simp only [okb, sat_bind, sat_ok, fin_nx, fin_bk, fin_rt, ctlp_nx, ctlp_bk, ctlp_rt, add_int, sub_int, neg_int, lt_int, le_int, gt_int, ge_int, eq_int, ne_int, bool_bl, toInt_int, abs_int, len_lst, len_tup, len_scr, isl_lst, list_lst, list_tup, items_lst, items_tup, scal_int, scal_bl, scal_non, part_int, mkT0, mkT1, mkT2, mkT3, mkL0, mkL1, mkL2, mkL3, idx_l0, idx_l1, idx_l2, idx_t0, idx_t1, idx_t2, set_l0, set_l2, decide_true, decide_false, if_true, if_false, Bool.false_eq_true, Bool.not_true, Bool.not_false, List.length_map, isin_il, isin_it, notin_il, notin_it, encN, hg]
      intro Y Z h1 h2 h3 h4 h5
      have : 0 ≤ T[l].2 := by
        rcases hnext Y Z h1 h2 h3 h4 h5 with z | ⟨E, r, e, z⟩
        · exact ((hN.ok _ (hN.sub _ (h2 _ (by simp)))).2.2.1 _ z).1
        · exact ((hN.ok _ (hN.sub _ (h2 E (by rw [e]; simp)))).2.2.1 _ z).1
      omega
    · simp only [okb, sat_bind, sat_ok, fin_nx, fin_bk, fin_rt, ctlp_nx, ctlp_bk, ctlp_rt, add_int, sub_int, neg_int, lt_int, le_int, gt_int, ge_int, eq_int, ne_int, bool_bl, toInt_int, abs_int, len_lst, len_tup, len_scr, isl_lst, list_lst, list_tup, items_lst, items_tup, scal_int, scal_bl, scal_non, part_int, mkT0, mkT1, mkT2, mkT3, mkL0, mkL1, mkL2, mkL3, idx_l0, idx_l1, idx_l2, idx_t0, idx_t1, idx_t2, set_l0, set_l2, decide_true, decide_false, if_true, if_false, Bool.false_eq_true, Bool.not_true, Bool.not_false, List.length_map, isin_il, isin_it, notin_il, notin_it, encN, hg]
      have hgr : 0 ≤ T[l].2 ∧ T[l].2 < n := by
        rcases hok.2.2.2.2 with z | z
        · omega
        · exact z
      refine (top_at_spec (T := T) (p := T[l].2) (by omega)).imp fun r hr => ?_
      rcases hr with ⟨k, hk, rfl, hpk⟩ | ⟨_, hno⟩
      · have hkT : T[k] ∈ T := List.getElem_mem _
        simp only [okb, sat_bind, sat_ok, fin_nx, fin_bk, fin_rt, ctlp_nx, ctlp_bk, ctlp_rt, add_int, sub_int, neg_int, lt_int, le_int, gt_int, ge_int, eq_int, ne_int, bool_bl, toInt_int, abs_int, len_lst, len_tup, len_scr, isl_lst, list_lst, list_tup, items_lst, items_tup, scal_int, scal_bl, scal_non, part_int, mkT0, mkT1, mkT2, mkT3, mkL0, mkL1, mkL2, mkL3, idx_l0, idx_l1, idx_l2, idx_t0, idx_t1, idx_t2, set_l0, set_l2, decide_true, decide_false, if_true, if_false, Bool.false_eq_true, Bool.not_true, Bool.not_false, List.length_map, isin_il, isin_it, notin_il, notin_it, encN]
        by_cases hkf : (k : Int) = (first : Int)
        · simp only [okb, sat_bind, sat_ok, fin_nx, fin_bk, fin_rt, ctlp_nx, ctlp_bk, ctlp_rt, add_int, sub_int, neg_int, lt_int, le_int, gt_int, ge_int, eq_int, ne_int, bool_bl, toInt_int, abs_int, len_lst, len_tup, len_scr, isl_lst, list_lst, list_tup, items_lst, items_tup, scal_int, scal_bl, scal_non, part_int, mkT0, mkT1, mkT2, mkT3, mkL0, mkL1, mkL2, mkL3, idx_l0, idx_l1, idx_l2, idx_t0, idx_t1, idx_t2, set_l0, set_l2, decide_true, decide_false, if_true, if_false, Bool.false_eq_true, Bool.not_true, Bool.not_false, List.length_map, isin_il, isin_it, notin_il, notin_it, encN, hkf]
          refine ⟨ks0 ++ [l], rfl, first, ks', T[l], hfst, hnd, hlt, hline, ?_, ?_⟩
          · rw [hsn, List.getLast?_append]; simp
          · have : k = first := by omega
            subst this
            rw [getD_T hk]; exact hpk
        · simp only [okb, sat_bind, sat_ok, fin_nx, fin_bk, fin_rt, ctlp_nx, ctlp_bk, ctlp_rt, add_int, sub_int, neg_int, lt_int, le_int, gt_int, ge_int, eq_int, ne_int, bool_bl, toInt_int, abs_int, len_lst, len_tup, len_scr, isl_lst, list_lst, list_tup, items_lst, items_tup, scal_int, scal_bl, scal_non, part_int, mkT0, mkT1, mkT2, mkT3, mkL0, mkL1, mkL2, mkL3, idx_l0, idx_l1, idx_l2, idx_t0, idx_t1, idx_t2, set_l0, set_l2, decide_true, decide_false, if_true, if_false, Bool.false_eq_true, Bool.not_true, Bool.not_false, List.length_map, isin_il, isin_it, notin_il, notin_it, encN, hkf]
          have hTk : ∀ (Y : List Nd) (Z : Nd), ((T.getD first ([], -1)) :: Y).Nodup → (∀ D ∈ (T.getD first ([], -1)) :: Y, D ∈ T) → Line ((T.getD first ([], -1)) :: Y) → ((T.getD first ([], -1)) :: Y).getLast? = some Z → Z.2 ∈ (T.getD first ([], -1)).1 →
              ∃ r, (T.getD first ([], -1)) :: Y = pk T (ks0 ++ [l]) ++ T[k] :: r := by
            intro Y Z h1 h2 h3 h4 h5
            rcases hnext Y Z h1 h2 h3 h4 h5 with z | ⟨E, r, e, z⟩
            · exfalso
              have := hN.disj _ hkT _ (h2 _ (by simp)) _ hpk z
              rw [getD_T hf] at this
              have := (List.getElem_inj hN.nodT).mp this
              omega
            · have := hN.disj _ hkT E (h2 E (by rw [e]; simp)) _ hpk z
              subst this
              exact ⟨r, e⟩
          by_cases hkin : (k : Int) ∈ kl (ks0 ++ [l])
          · simp only [okb, sat_bind, sat_ok, fin_nx, fin_bk, fin_rt, ctlp_nx, ctlp_bk, ctlp_rt, add_int, sub_int, neg_int, lt_int, le_int, gt_int, ge_int, eq_int, ne_int, bool_bl, toInt_int, abs_int, len_lst, len_tup, len_scr, isl_lst, list_lst, list_tup, items_lst, items_tup, scal_int, scal_bl, scal_non, part_int, mkT0, mkT1, mkT2, mkT3, mkL0, mkL1, mkL2, mkL3, idx_l0, idx_l1, idx_l2, idx_t0, idx_t1, idx_t2, set_l0, set_l2, decide_true, decide_false, if_true, if_false, Bool.false_eq_true, Bool.not_true, Bool.not_false, List.length_map, isin_il, isin_it, notin_il, notin_it, encN, hkin]
            intro Y Z h1 h2 h3 h4 h5
            obtain ⟨r, e⟩ := hTk Y Z h1 h2 h3 h4 h5
            have hk2 : k ∈ ks0 ++ [l] := by
              obtain ⟨j, hj, ej⟩ := List.mem_map.mp hkin
              have : j = k := by omega
              exact this ▸ hj
            rw [e] at h1
            have h6 := (List.nodup_append.mp h1).2.2 T[k] (List.mem_map.mpr ⟨k, hk2, getD_T hk⟩) T[k] (by simp)
            exact h6 rfl
          · simp only [okb, sat_bind, sat_ok, fin_nx, fin_bk, fin_rt, ctlp_nx, ctlp_bk, ctlp_rt, add_int, sub_int, neg_int, lt_int, le_int, gt_int, ge_int, eq_int, ne_int, bool_bl, toInt_int, abs_int, len_lst, len_tup, len_scr, isl_lst, list_lst, list_tup, items_lst, items_tup, scal_int, scal_bl, scal_non, part_int, mkT0, mkT1, mkT2, mkT3, mkL0, mkL1, mkL2, mkL3, idx_l0, idx_l1, idx_l2, idx_t0, idx_t1, idx_t2, set_l0, set_l2, decide_true, decide_false, if_true, if_false, Bool.false_eq_true, Bool.not_true, Bool.not_false, List.length_map, isin_il, isin_it, notin_il, notin_it, encN, hkin]
            have hkn : k ∉ ks0 ++ [l] := fun h => hkin (List.mem_map.mpr ⟨k, h, rfl⟩)
            have hle := nodup_lt hnd hlt
            rw [app_il (by rw [kl, List.length_map]; omega)]
            simp only [okb, sat_bind, sat_ok, fin_nx, fin_bk, fin_rt, ctlp_nx, ctlp_bk, ctlp_rt, add_int, sub_int, neg_int, lt_int, le_int, gt_int, ge_int, eq_int, ne_int, bool_bl, toInt_int, abs_int, len_lst, len_tup, len_scr, isl_lst, list_lst, list_tup, items_lst, items_tup, scal_int, scal_bl, scal_non, part_int, mkT0, mkT1, mkT2, mkT3, mkL0, mkL1, mkL2, mkL3, idx_l0, idx_l1, idx_l2, idx_t0, idx_t1, idx_t2, set_l0, set_l2, decide_true, decide_false, if_true, if_false, Bool.false_eq_true, Bool.not_true, Bool.not_false, List.length_map, isin_il, isin_it, notin_il, notin_it, encN]
            refine ⟨ks0 ++ [l], k, by simp [kl], by rw [List.length_append, hlen]; rfl, ?_, ?_, ⟨ks' ++ [k], by rw [hfst]; rfl⟩, ?_, ?_⟩
            · refine List.nodup_append.mpr ⟨hnd, by simp, fun y hy z hz e => ?_⟩
              rw [List.mem_singleton.mp hz] at e
              exact hkn (e ▸ hy)
            · intro j hj
              rcases List.mem_append.mp hj with z | z
              · exact hlt j z
              · rw [List.mem_singleton.mp z]; exact hk
            · rw [pk, List.map_append, List.map_singleton, getD_T hk]
              show Line (pk T (ks0 ++ [l]) ++ [T[k]])
              rw [hsn] at hline ⊢
              exact line_snoc hline hpk
            · intro Y Z h1 h2 h3 h4 h5
              obtain ⟨r, e⟩ := hTk Y Z h1 h2 h3 h4 h5
              refine ⟨r, ?_⟩
              rw [e, pk, List.map_append, List.map_singleton, getD_T hk, List.append_assoc]
              rfl
      · exfalso
        obtain ⟨A, hA, hpA⟩ := hN.cover _ hgr.1 hgr.2
        exact hno A hA hpA
  · cases c with
    | nx s =>
      obtain ⟨ks0, l, _, hlen, hnd, hlt, _⟩ := hc
      have := nodup_lt hnd hlt
      omega
    | bk s => exact hc
    | rt r => exact hc
theorem circle_spec {n : Int} {N T : List Nd} (hN : Nest n N T) (hT : T.length ≤ 16777215) : (m_law_circle (encNs T)).Sat fun r => (r = .lst [] ∧ NoCyc T) ∨ (∃ ks, r = il (kl ks) ∧ IsCyc T ks) := by
  unfold m_law_circle
  simp only [okb, sat_bind, sat_ok, fin_nx, fin_bk, fin_rt, ctlp_nx, ctlp_bk, ctlp_rt, add_int, sub_int, neg_int, lt_int, le_int, gt_int, ge_int, eq_int, ne_int, bool_bl, toInt_int, abs_int, len_lst, len_tup, len_scr, isl_lst, list_lst, list_tup, items_lst, items_tup, scal_int, scal_bl, scal_non, part_int, mkT0, mkT1, mkT2, mkT3, mkL0, mkL1, mkL2, mkL3, idx_l0, idx_l1, idx_l2, idx_t0, idx_t1, idx_t2, set_l0, set_l2, decide_true, decide_false, if_true, if_false, Bool.false_eq_true, Bool.not_true, Bool.not_false, List.length_map, isin_il, isin_it, notin_il, notin_it, encN, rng1_nat (n := T.length) (by omega)]
  refine (forR_rng (fun i _ => ∀ j, j < i → NoC T (T.getD j ([], -1))) (fun _ => False) (fun r => ∃ ks, r = il (kl ks) ∧ IsCyc T ks) (by intro j h; omega) fun i s hi hI => ?_).imp fun c hc => ?_
  · unfold m_law_circle_loop1
    simp only [okb, sat_bind, sat_ok, fin_nx, fin_bk, fin_rt, ctlp_nx, ctlp_bk, ctlp_rt, add_int, sub_int, neg_int, lt_int, le_int, gt_int, ge_int, eq_int, ne_int, bool_bl, toInt_int, abs_int, len_lst, len_tup, len_scr, isl_lst, list_lst, list_tup, items_lst, items_tup, scal_int, scal_bl, scal_non, part_int, mkT0, mkT1, mkT2, mkT3, mkL0, mkL1, mkL2, mkL3, idx_l0, idx_l1, idx_l2, idx_t0, idx_t1, idx_t2, set_l0, set_l2, decide_true, decide_false, if_true, if_false, Bool.false_eq_true, Bool.not_true, Bool.not_false, List.length_map, isin_il, isin_it, notin_il, notin_it, encN, rng1_nat (n := T.length) (by omega)]
    refine (circle_loop hN hT hi).imp fun c hc => ?_
    cases c with
    | nx s => exact hc.elim
    | bk s =>
      simp only [okb, sat_bind, sat_ok, fin_nx, fin_bk, fin_rt, ctlp_nx, ctlp_bk, ctlp_rt, add_int, sub_int, neg_int, lt_int, le_int, gt_int, ge_int, eq_int, ne_int, bool_bl, toInt_int, abs_int, len_lst, len_tup, len_scr, isl_lst, list_lst, list_tup, items_lst, items_tup, scal_int, scal_bl, scal_non, part_int, mkT0, mkT1, mkT2, mkT3, mkL0, mkL1, mkL2, mkL3, idx_l0, idx_l1, idx_l2, idx_t0, idx_t1, idx_t2, set_l0, set_l2, decide_true, decide_false, if_true, if_false, Bool.false_eq_true, Bool.not_true, Bool.not_false, List.length_map, isin_il, isin_it, notin_il, notin_it, encN]
      intro j hj
      by_cases e : j = i
      · subst e; exact hc
      · exact hI j (by omega)
    | rt r => simp only [okb, sat_bind, sat_ok, fin_nx, fin_bk, fin_rt, ctlp_nx, ctlp_bk, ctlp_rt, add_int, sub_int, neg_int, lt_int, le_int, gt_int, ge_int, eq_int, ne_int, bool_bl, toInt_int, abs_int, len_lst, len_tup, len_scr, isl_lst, list_lst, list_tup, items_lst, items_tup, scal_int, scal_bl, scal_non, part_int, mkT0, mkT1, mkT2, mkT3, mkL0, mkL1, mkL2, mkL3, idx_l0, idx_l1, idx_l2, idx_t0, idx_t1, idx_t2, set_l0, set_l2, decide_true, decide_false, if_true, if_false, Bool.false_eq_true, Bool.not_true, Bool.not_false, List.length_map, isin_il, isin_it, notin_il, notin_it, encN]; exact hc
  · cases c with
    | nx s =>
      simp only [okb, sat_bind, sat_ok, fin_nx, fin_bk, fin_rt, ctlp_nx, ctlp_bk, ctlp_rt, add_int, sub_int, neg_int, lt_int, le_int, gt_int, ge_int, eq_int, ne_int, bool_bl, toInt_int, abs_int, len_lst, len_tup, len_scr, isl_lst, list_lst, list_tup, items_lst, items_tup, scal_int, scal_bl, scal_non, part_int, mkT0, mkT1, mkT2, mkT3, mkL0, mkL1, mkL2, mkL3, idx_l0, idx_l1, idx_l2, idx_t0, idx_t1, idx_t2, set_l0, set_l2, decide_true, decide_false, if_true, if_false, Bool.false_eq_true, Bool.not_true, Bool.not_false, List.length_map, isin_il, isin_it, notin_il, notin_it, encN]
      refine .inl ⟨trivial, fun B Y Z h1 h2 h3 h4 h5 => ?_⟩
      obtain ⟨j, hj, e⟩ := List.mem_iff_getElem.mp (h2 B (by simp))
      have := hc j hj
      rw [getD_T hj, e] at this
      exact this Y Z h1 h2 h3 h4 h5
    | bk s => exact hc.elim
    | rt r => simp only [okb, sat_bind, sat_ok, fin_nx, fin_bk, fin_rt, ctlp_nx, ctlp_bk, ctlp_rt, add_int, sub_int, neg_int, lt_int, le_int, gt_int, ge_int, eq_int, ne_int, bool_bl, toInt_int, abs_int, len_lst, len_tup, len_scr, isl_lst, list_lst, list_tup, items_lst, items_tup, scal_int, scal_bl, scal_non, part_int, mkT0, mkT1, mkT2, mkT3, mkL0, mkL1, mkL2, mkL3, idx_l0, idx_l1, idx_l2, idx_t0, idx_t1, idx_t2, set_l0, set_l2, decide_true, decide_false, if_true, if_false, Bool.false_eq_true, Bool.not_true, Bool.not_false, List.length_map, isin_il, isin_it, notin_il, notin_it, encN]; exact .inr hc

/-! ### gates -/
def rf (n : Nat) (p : Nat → Bool) : List Int := kl ((List.range n).filter p)
theorem mem_rf {n : Nat} {p : Nat → Bool} {x : Int} : x ∈ rf n p ↔ ∃ i : Nat, i < n ∧ p i = true ∧ x = i := by
  unfold rf kl
  rw [List.mem_map]
  constructor
  · rintro ⟨i, hi, rfl⟩
    have := List.mem_filter.mp hi
    exact ⟨i, List.mem_range.mp this.1, this.2, rfl⟩
  · rintro ⟨i, h1, h2, rfl⟩
    exact ⟨i, List.mem_filter.mpr ⟨List.mem_range.mpr h1, h2⟩, rfl⟩
theorem nodup_map_on {A B : Type} {f : A → B} : ∀ {xs : List A}, xs.Nodup → (∀ a ∈ xs, ∀ b ∈ xs, f a = f b → a = b) → (xs.map f).Nodup
  | [], _, _ => List.nodup_nil
  | x :: r, h, hf => by
    have h' := List.nodup_cons.mp h
    rw [List.map_cons]
    refine List.nodup_cons.mpr ⟨fun hm => ?_, nodup_map_on h'.2 fun a ha b hb => hf a (by simp [ha]) b (by simp [hb])⟩
    obtain ⟨y, hy, e⟩ := List.mem_map.mp hm
    have := hf y (by simp [hy]) x (by simp) e
    exact h'.1 (this ▸ hy)
theorem kl_nodup {ks : List Nat} (h : ks.Nodup) : (kl ks).Nodup := nodup_map_on h fun a _ b _ e => by omega
theorem rf_nodup {n : Nat} {p : Nat → Bool} : (rf n p).Nodup := kl_nodup ((List.nodup_range (n := n)).filter p)
theorem rf_len {n : Nat} {p : Nat → Bool} : (rf n p).length ≤ n := by
  unfold rf kl
  rw [List.length_map]
  have := List.length_filter_le p (List.range n)
  rw [List.length_range] at this
  exact this
theorem filt_rng {f : U → Res (Option U)} {n : Nat} {p : Nat → Bool} (hn : n ≤ 16777216) (hf : ∀ i, i < n → f (.int i) = .ok (if p i = true then some (.int i) else none)) : compA f (rng n) [] = .ok ((rf n p).map U.int) := by
  rw [compA_rng (fun i => if p i = true then some (.int i) else none) hn hf]
  unfold rf kl
  rw [List.map_map]
  congr 1
  generalize List.range n = xs
  induction xs with
  | nil => rfl
  | cons x r ih =>
    rw [List.filterMap_cons, List.filter_cons]
    cases h : p x with
    | true => simp only [if_true, List.map_cons, ih]; rfl
    | false => simp only [Bool.false_eq_true, if_false, ih]
def GateP (ps : List Int) (n : Nat) (r : U × U) : Prop := ∃ g : Int, r.1 = .int g ∧ g ∉ ps ∧ (g = -1 ∨ 0 ≤ g ∧ g < n) ∧ GoodS r.2
theorem gate_spec {s : U} (hs : GoodS s) {ps : List Int} {n : Nat} (hn : n ≤ 1000000) (cl : Bool) (hp : ∀ p ∈ ps, 0 ≤ p) : (m_law_gate s (it ps) (.int n) (.bl cl)).Sat (GateP ps n) := by
  unfold m_law_gate
  simp only [okb, sat_bind, sat_ok, fin_nx, fin_bk, fin_rt, ctlp_nx, ctlp_bk, ctlp_rt, add_int, sub_int, neg_int, lt_int, le_int, gt_int, ge_int, eq_int, ne_int, bool_bl, toInt_int, abs_int, len_lst, len_tup, len_scr, isl_lst, list_lst, list_tup, items_lst, items_tup, scal_int, scal_bl, scal_non, part_int, mkT0, mkT1, mkT2, mkT3, mkL0, mkL1, mkL2, mkL3, idx_l0, idx_l1, idx_l2, idx_t0, idx_t1, idx_t2, set_l0, set_l2, decide_true, decide_false, if_true, if_false, Bool.false_eq_true, Bool.not_true, Bool.not_false, List.length_map, isin_il, isin_it, notin_il, notin_it, encN, rng1_nat (n := n) (by omega)]
  rw [filt_rng (p := fun (i : Nat) => !decide ((i : Int) ∈ ps)) (by omega) ?_]
  · generalize hout : rf n (fun (i : Nat) => !decide ((i : Int) ∈ ps)) = out
    have hlen : out.length ≤ n := by rw [← hout]; exact rf_len
    have hmem : ∀ x ∈ out, x ∉ ps ∧ (0 ≤ x ∧ x < n) := by
      intro x hx
      rw [← hout] at hx
      obtain ⟨i, h1, h2, h3⟩ := mem_rf.mp hx
      simp only [Bool.not_eq_true', decide_eq_false_iff_not] at h2
      rw [h3]
      exact ⟨h2, by omega, by omega⟩
    simp only [okb, sat_bind, sat_ok, fin_nx, fin_bk, fin_rt, ctlp_nx, ctlp_bk, ctlp_rt, add_int, sub_int, neg_int, lt_int, le_int, gt_int, ge_int, eq_int, ne_int, bool_bl, toInt_int, abs_int, len_lst, len_tup, len_scr, isl_lst, list_lst, list_tup, items_lst, items_tup, scal_int, scal_bl, scal_non, part_int, mkT0, mkT1, mkT2, mkT3, mkL0, mkL1, mkL2, mkL3, idx_l0, idx_l1, idx_l2, idx_t0, idx_t1, idx_t2, set_l0, set_l2, decide_true, decide_false, if_true, if_false, Bool.false_eq_true, Bool.not_true, Bool.not_false, List.length_map, isin_il, isin_it, notin_il, notin_it, encN]
    have hidx : ∀ (k : Nat) (s2 : U), k < out.length → GoodS s2 → (U.idx (.lst (out.map U.int)) (.int (k : Int))).Sat fun y => GateP ps n (y, s2) := by
      intro k s2 hk h2
      rw [idx_il hk]
      have := hmem _ (List.getElem_mem hk)
      simp only [okb, sat_bind, sat_ok, fin_nx, fin_bk, fin_rt, ctlp_nx, ctlp_bk, ctlp_rt, add_int, sub_int, neg_int, lt_int, le_int, gt_int, ge_int, eq_int, ne_int, bool_bl, toInt_int, abs_int, len_lst, len_tup, len_scr, isl_lst, list_lst, list_tup, items_lst, items_tup, scal_int, scal_bl, scal_non, part_int, mkT0, mkT1, mkT2, mkT3, mkL0, mkL1, mkL2, mkL3, idx_l0, idx_l1, idx_l2, idx_t0, idx_t1, idx_t2, set_l0, set_l2, decide_true, decide_false, if_true, if_false, Bool.false_eq_true, Bool.not_true, Bool.not_false, List.length_map, isin_il, isin_it, notin_il, notin_it, encN]
      exact ⟨out[k], rfl, this.1, .inr this.2, h2⟩
    have hopen : ((m_law_draw s (.int ((out.length : Int) + 1))).Sat fun x => ((U.eq x.1 (.int out.length)).Sat fun a => (U.bool? a).Sat fun b65 => (if b65 = true then (Res.ok (U.int (-1), x.2)) else (U.idx (.lst (out.map U.int)) x.1) >>= fun y71 => .ok (y71, x.2)).Sat (GateP ps n))) := by
      have e : (out.length : Int) + 1 = ((out.length + 1 : Nat) : Int) := by omega
      rw [e]
      refine (draw_spec hs (n := out.length + 1) (by omega) (by omega)).imp fun ⟨x, s2⟩ ⟨k, hk, e, hs2⟩ => ?_
      simp only at e hs2 ⊢
      subst e
      simp only [okb, sat_bind, sat_ok, fin_nx, fin_bk, fin_rt, ctlp_nx, ctlp_bk, ctlp_rt, add_int, sub_int, neg_int, lt_int, le_int, gt_int, ge_int, eq_int, ne_int, bool_bl, toInt_int, abs_int, len_lst, len_tup, len_scr, isl_lst, list_lst, list_tup, items_lst, items_tup, scal_int, scal_bl, scal_non, part_int, mkT0, mkT1, mkT2, mkT3, mkL0, mkL1, mkL2, mkL3, idx_l0, idx_l1, idx_l2, idx_t0, idx_t1, idx_t2, set_l0, set_l2, decide_true, decide_false, if_true, if_false, Bool.false_eq_true, Bool.not_true, Bool.not_false, List.length_map, isin_il, isin_it, notin_il, notin_it, encN]
      by_cases hk2 : (k : Int) = (out.length : Int)
      · simp only [okb, sat_bind, sat_ok, fin_nx, fin_bk, fin_rt, ctlp_nx, ctlp_bk, ctlp_rt, add_int, sub_int, neg_int, lt_int, le_int, gt_int, ge_int, eq_int, ne_int, bool_bl, toInt_int, abs_int, len_lst, len_tup, len_scr, isl_lst, list_lst, list_tup, items_lst, items_tup, scal_int, scal_bl, scal_non, part_int, mkT0, mkT1, mkT2, mkT3, mkL0, mkL1, mkL2, mkL3, idx_l0, idx_l1, idx_l2, idx_t0, idx_t1, idx_t2, set_l0, set_l2, decide_true, decide_false, if_true, if_false, Bool.false_eq_true, Bool.not_true, Bool.not_false, List.length_map, isin_il, isin_it, notin_il, notin_it, encN, hk2]
        exact ⟨-1, rfl, fun z => (by have := hp _ z; omega), .inl rfl, hs2⟩
      · simp only [okb, sat_bind, sat_ok, fin_nx, fin_bk, fin_rt, ctlp_nx, ctlp_bk, ctlp_rt, add_int, sub_int, neg_int, lt_int, le_int, gt_int, ge_int, eq_int, ne_int, bool_bl, toInt_int, abs_int, len_lst, len_tup, len_scr, isl_lst, list_lst, list_tup, items_lst, items_tup, scal_int, scal_bl, scal_non, part_int, mkT0, mkT1, mkT2, mkT3, mkL0, mkL1, mkL2, mkL3, idx_l0, idx_l1, idx_l2, idx_t0, idx_t1, idx_t2, set_l0, set_l2, decide_true, decide_false, if_true, if_false, Bool.false_eq_true, Bool.not_true, Bool.not_false, List.length_map, isin_il, isin_it, notin_il, notin_it, encN, hk2]
        exact hidx k s2 (by omega) hs2
    cases cl with
    | false => simp only [okb, sat_bind, sat_ok, fin_nx, fin_bk, fin_rt, ctlp_nx, ctlp_bk, ctlp_rt, add_int, sub_int, neg_int, lt_int, le_int, gt_int, ge_int, eq_int, ne_int, bool_bl, toInt_int, abs_int, len_lst, len_tup, len_scr, isl_lst, list_lst, list_tup, items_lst, items_tup, scal_int, scal_bl, scal_non, part_int, mkT0, mkT1, mkT2, mkT3, mkL0, mkL1, mkL2, mkL3, idx_l0, idx_l1, idx_l2, idx_t0, idx_t1, idx_t2, set_l0, set_l2, decide_true, decide_false, if_true, if_false, Bool.false_eq_true, Bool.not_true, Bool.not_false, List.length_map, isin_il, isin_it, notin_il, notin_it, encN]; exact hopen
    | true =>
      by_cases h0 : 0 < out.length
      · have h0' : (0 : Int) < (out.length : Int) := by omega
        simp only [okb, sat_bind, sat_ok, fin_nx, fin_bk, fin_rt, ctlp_nx, ctlp_bk, ctlp_rt, add_int, sub_int, neg_int, lt_int, le_int, gt_int, ge_int, eq_int, ne_int, bool_bl, toInt_int, abs_int, len_lst, len_tup, len_scr, isl_lst, list_lst, list_tup, items_lst, items_tup, scal_int, scal_bl, scal_non, part_int, mkT0, mkT1, mkT2, mkT3, mkL0, mkL1, mkL2, mkL3, idx_l0, idx_l1, idx_l2, idx_t0, idx_t1, idx_t2, set_l0, set_l2, decide_true, decide_false, if_true, if_false, Bool.false_eq_true, Bool.not_true, Bool.not_false, List.length_map, isin_il, isin_it, notin_il, notin_it, encN, h0']
        refine (draw_spec hs (n := out.length) h0 (by omega)).imp fun ⟨x, s2⟩ ⟨k, hk, e, hs2⟩ => ?_
        simp only at e hs2 ⊢
        subst e
        exact hidx k s2 hk hs2
      · have h0' : ¬ (0 : Int) < (out.length : Int) := by omega
        simp only [okb, sat_bind, sat_ok, fin_nx, fin_bk, fin_rt, ctlp_nx, ctlp_bk, ctlp_rt, add_int, sub_int, neg_int, lt_int, le_int, gt_int, ge_int, eq_int, ne_int, bool_bl, toInt_int, abs_int, len_lst, len_tup, len_scr, isl_lst, list_lst, list_tup, items_lst, items_tup, scal_int, scal_bl, scal_non, part_int, mkT0, mkT1, mkT2, mkT3, mkL0, mkL1, mkL2, mkL3, idx_l0, idx_l1, idx_l2, idx_t0, idx_t1, idx_t2, set_l0, set_l2, decide_true, decide_false, if_true, if_false, Bool.false_eq_true, Bool.not_true, Bool.not_false, List.length_map, isin_il, isin_it, notin_il, notin_it, encN, h0']
        exact hopen
  · intro i hi
    simp only [okb, sat_bind, sat_ok, fin_nx, fin_bk, fin_rt, ctlp_nx, ctlp_bk, ctlp_rt, add_int, sub_int, neg_int, lt_int, le_int, gt_int, ge_int, eq_int, ne_int, bool_bl, toInt_int, abs_int, len_lst, len_tup, len_scr, isl_lst, list_lst, list_tup, items_lst, items_tup, scal_int, scal_bl, scal_non, part_int, mkT0, mkT1, mkT2, mkT3, mkL0, mkL1, mkL2, mkL3, idx_l0, idx_l1, idx_l2, idx_t0, idx_t1, idx_t2, set_l0, set_l2, decide_true, decide_false, if_true, if_false, Bool.false_eq_true, Bool.not_true, Bool.not_false, List.length_map, isin_il, isin_it, notin_il, notin_it, encN]
    by_cases h : (i : Int) ∈ ps <;> simp [h]

/-! ### the nest -/
theorem int_len {xs : List Int} {n : Nat} (h : xs.Nodup) (hr : ∀ x ∈ xs, 0 ≤ x ∧ x < (n : Int)) : xs.length ≤ n := by
  have := len_le h (b := kl (List.range n)) fun x hx => by
    obtain ⟨a, b⟩ := hr x hx
    exact List.mem_map.mpr ⟨x.toNat, List.mem_range.mpr (by omega), by omega⟩
  simpa [kl] using this
theorem places_spec {n : Nat} {N T : List Nd} (hN : Nest n N T) (hT : T.length ≤ 1000000) (hn : n ≤ 1000000) {ks : List Nat} (hnd : ks.Nodup) (hlt : ∀ k ∈ ks, k < T.length) :
    (forR (m_law_nest_loop2 (encNs T)) (ks.map fun (k : Nat) => U.int k) (.lst [])).Sat (CtlP (fun s => s = il (pl (pk T ks))) (fun _ => False) (fun _ => False)) := by
  have hpn : (pk T ks).Nodup := nodup_map_on hnd fun a ha b hb e => by
    rw [getD_T (hlt a ha), getD_T (hlt b hb)] at e
    exact (List.getElem_inj hN.nodT).mp e
  have hpm : ∀ C ∈ pk T ks, C ∈ T := fun C hC => by
    obtain ⟨k, hk, rfl⟩ := List.mem_map.mp hC
    rw [getD_T (hlt k hk)]
    exact List.getElem_mem _
  have hnn := nodup_pl hpn (fun C hC => (hN.ok C (hN.sub C (hpm C hC))).2.1) fun A hA B hB => hN.disj A (hpm A hA) B (hpm B hB)
  have hlen : (pl (pk T ks)).length ≤ n := int_len hnn fun x hx => by
    obtain ⟨C, hC, h⟩ := mem_pl.mp hx
    exact (hN.ok C (hN.sub C (hpm C hC))).2.2.1 x h
  have := forR_map (f := m_law_nest_loop2 (encNs T)) (fun (k : Nat) => U.int k) (fun d r s => d ++ r = ks ∧ s = il (pl (pk T d))) (fun _ => False) (fun (_ : U × U) => False) (fun d x r s h => ?_) ks [] (.lst []) ⟨rfl, rfl⟩
  · refine this.imp fun c hc => ?_
    cases c with
    | nx s => exact hc.2
    | bk s => exact hc
    | rt r => exact hc
  · obtain ⟨e, rfl⟩ := h
    have hx : x < T.length := hlt x (by rw [← e]; simp)
    unfold m_law_nest_loop2
    simp only [okb, sat_bind, sat_ok, fin_nx, fin_bk, fin_rt, ctlp_nx, ctlp_bk, ctlp_rt, add_int, sub_int, neg_int, lt_int, le_int, gt_int, ge_int, eq_int, ne_int, bool_bl, toInt_int, abs_int, len_lst, len_tup, len_scr, isl_lst, list_lst, list_tup, items_lst, items_tup, scal_int, scal_bl, scal_non, part_int, mkT0, mkT1, mkT2, mkT3, mkL0, mkL1, mkL2, mkL3, idx_l0, idx_l1, idx_l2, idx_t0, idx_t1, idx_t2, set_l0, set_l2, decide_true, decide_false, if_true, if_false, Bool.false_eq_true, Bool.not_true, Bool.not_false, List.length_map, isin_il, isin_it, notin_il, notin_it, encN, idx_T hx]
    have hle : (pl (pk T d)).length + T[x].1.length ≤ n := by
      rw [← e, pk, List.map_append, List.map_cons, pl, List.flatMap_append, List.flatMap_cons, getD_T hx, List.length_append, List.length_append] at hlen
      unfold pl pk
      omega
    rw [add_il (by omega)]
    simp only [okb, sat_bind, sat_ok, fin_nx, fin_bk, fin_rt, ctlp_nx, ctlp_bk, ctlp_rt, add_int, sub_int, neg_int, lt_int, le_int, gt_int, ge_int, eq_int, ne_int, bool_bl, toInt_int, abs_int, len_lst, len_tup, len_scr, isl_lst, list_lst, list_tup, items_lst, items_tup, scal_int, scal_bl, scal_non, part_int, mkT0, mkT1, mkT2, mkT3, mkL0, mkL1, mkL2, mkL3, idx_l0, idx_l1, idx_l2, idx_t0, idx_t1, idx_t2, set_l0, set_l2, decide_true, decide_false, if_true, if_false, Bool.false_eq_true, Bool.not_true, Bool.not_false, List.length_map, isin_il, isin_it, notin_il, notin_it, encN]
    refine ⟨by rw [List.append_assoc]; exact e, ?_⟩
    have e2 : pk T (d ++ [x]) = pk T d ++ [T[x]] := by rw [pk, List.map_append, List.map_singleton, getD_T hx]
    rw [e2, pl, pl, List.flatMap_append, List.flatMap_singleton]
def NestI (n t : Nat) (s : U × U × U) : Prop := GoodS s.1 ∧ ∃ N T, s.2.1 = encNs N ∧ s.2.2 = encNs T ∧ Nest n N T ∧ T.length + t ≤ n ∧ N.length ≤ n + t
def NestB (n : Nat) (s : U × U × U) : Prop := GoodS s.1 ∧ ∃ N T, s.2.1 = encNs N ∧ Nest n N T ∧ NoCyc T ∧ N.length ≤ n + n
theorem tuple_lst {us : List U} : U.tuple (.lst us) = .ok (.tup us) := (rfl)
theorem rest_spec {T : List Nd} {ks : List Nat} (hT : T.length ≤ 1000000) {f : U → Res (Option U)} (hf : ∀ i : Nat, (h : i < T.length) → f (.int i) = .ok (if (i : Int) ∈ kl ks then none else some (encN T[i]))) :
    compA f (rng T.length) [] = .ok ((pk T ((List.range T.length).filter fun i => !decide (i ∈ ks))).map encN) := by
  have hin : ∀ i : Nat, ((i : Int) ∈ kl ks) = (i ∈ ks) := fun i => propext ⟨fun h => by
    obtain ⟨j, hj, e⟩ := List.mem_map.mp h
    have : j = i := by omega
    exact this ▸ hj, fun h => List.mem_map.mpr ⟨i, h, rfl⟩⟩
  rw [compA_rng (fun i => if i ∈ ks then none else some (encN (T.getD i ([], -1)))) (by omega) (fun i hi => by rw [hf i hi, getD_T hi]; simp only [hin])]
  congr 1
  rw [pk, List.map_map]
  generalize List.range T.length = xs
  induction xs with
  | nil => rfl
  | cons x r ih =>
    rw [List.filterMap_cons, List.filter_cons]
    by_cases h : x ∈ ks
    · simp only [h, if_true, decide_true, Bool.not_true, Bool.false_eq_true, if_false, ih]
    · simp only [h, if_false, decide_false, Bool.not_false, if_true, List.map_cons, ih]; rfl
theorem nest_step {n t : Nat} (hn : n ≤ 1000) (ht : t < n) (cl : Bool) {s : U × U × U} (hI : NestI n t s) (x : U) : (m_law_nest_loop1 (.int n) (.bl cl) s x).Sat (CtlP (NestI n (t + 1)) (NestB n) (fun _ => False)) := by
  obtain ⟨hs, N, T, e1, e2, hN, hT, hNl⟩ := hI
  obtain ⟨s1, s2, s3⟩ := s
  simp only at e1 e2 hs
  subst e1
  subst e2
  unfold m_law_nest_loop1
  simp only [okb, sat_bind, sat_ok, fin_nx, fin_bk, fin_rt, ctlp_nx, ctlp_bk, ctlp_rt, add_int, sub_int, neg_int, lt_int, le_int, gt_int, ge_int, eq_int, ne_int, bool_bl, toInt_int, abs_int, len_lst, len_tup, len_scr, isl_lst, list_lst, list_tup, items_lst, items_tup, scal_int, scal_bl, scal_non, part_int, mkT0, mkT1, mkT2, mkT3, mkL0, mkL1, mkL2, mkL3, idx_l0, idx_l1, idx_l2, idx_t0, idx_t1, idx_t2, set_l0, set_l2, decide_true, decide_false, if_true, if_false, Bool.false_eq_true, Bool.not_true, Bool.not_false, List.length_map, isin_il, isin_it, notin_il, notin_it, encN]
  refine (circle_spec hN (by omega)).imp fun r hr => ?_
  rcases hr with ⟨rfl, hc⟩ | ⟨ks, rfl, hcyc⟩
  · have e0 : (([] : List U).length : Int) = 0 := rfl
    simp only [okb, sat_bind, sat_ok, fin_nx, fin_bk, fin_rt, ctlp_nx, ctlp_bk, ctlp_rt, add_int, sub_int, neg_int, lt_int, le_int, gt_int, ge_int, eq_int, ne_int, bool_bl, toInt_int, abs_int, len_lst, len_tup, len_scr, isl_lst, list_lst, list_tup, items_lst, items_tup, scal_int, scal_bl, scal_non, part_int, mkT0, mkT1, mkT2, mkT3, mkL0, mkL1, mkL2, mkL3, idx_l0, idx_l1, idx_l2, idx_t0, idx_t1, idx_t2, set_l0, set_l2, decide_true, decide_false, if_true, if_false, Bool.false_eq_true, Bool.not_true, Bool.not_false, List.length_map, isin_il, isin_it, notin_il, notin_it, encN, e0]
    exact ⟨hs, N, T, rfl, hN, hc, by omega⟩
  · obtain ⟨k0, ks', Z, hks, hnd, hlt, hline, hlast, hcl⟩ := hcyc
    have hne : ¬ ((ks.length : Int) = 0) := by rw [hks, List.length_cons]; omega
    have hkm : (kl ks).map U.int = ks.map fun (k : Nat) => U.int k := by rw [kl, List.map_map]; rfl
    simp only [okb, sat_bind, sat_ok, fin_nx, fin_bk, fin_rt, ctlp_nx, ctlp_bk, ctlp_rt, add_int, sub_int, neg_int, lt_int, le_int, gt_int, ge_int, eq_int, ne_int, bool_bl, toInt_int, abs_int, len_lst, len_tup, len_scr, isl_lst, list_lst, list_tup, items_lst, items_tup, scal_int, scal_bl, scal_non, part_int, mkT0, mkT1, mkT2, mkT3, mkL0, mkL1, mkL2, mkL3, idx_l0, idx_l1, idx_l2, idx_t0, idx_t1, idx_t2, set_l0, set_l2, decide_true, decide_false, if_true, if_false, Bool.false_eq_true, Bool.not_true, Bool.not_false, List.length_map, isin_il, isin_it, notin_il, notin_it, encN, hne]
    rw [hkm]
    refine (places_spec hN (by omega) (by omega) hnd hlt).imp fun c hc => ?_
    cases c with
    | bk s => exact hc.elim
    | rt s => exact hc.elim
    | nx s =>
      have hc : s = il (pl (pk T ks)) := hc
      subst hc
      obtain ⟨ys, hy, hperm⟩ := sort_il (pl (pk T ks))
      simp only [okb, sat_bind, sat_ok, fin_nx, fin_bk, fin_rt, ctlp_nx, ctlp_bk, ctlp_rt, add_int, sub_int, neg_int, lt_int, le_int, gt_int, ge_int, eq_int, ne_int, bool_bl, toInt_int, abs_int, len_lst, len_tup, len_scr, isl_lst, list_lst, list_tup, items_lst, items_tup, scal_int, scal_bl, scal_non, part_int, mkT0, mkT1, mkT2, mkT3, mkL0, mkL1, mkL2, mkL3, idx_l0, idx_l1, idx_l2, idx_t0, idx_t1, idx_t2, set_l0, set_l2, decide_true, decide_false, if_true, if_false, Bool.false_eq_true, Bool.not_true, Bool.not_false, List.length_map, isin_il, isin_it, notin_il, notin_it, encN, hy, tuple_lst]
      have hpn : (pk T ks).Nodup := nodup_map_on hnd fun a ha b hb e => by
        rw [getD_T (hlt a ha), getD_T (hlt b hb)] at e
        exact (List.getElem_inj hN.nodT).mp e
      have hpm : ∀ C ∈ pk T ks, C ∈ T := fun C hC => by
        obtain ⟨k, hk, rfl⟩ := List.mem_map.mp hC
        rw [getD_T (hlt k hk)]
        exact List.getElem_mem _
      have hyr : ∀ p ∈ ys, 0 ≤ p := fun p hp => by
        obtain ⟨C, hC, h⟩ := mem_pl.mp (hperm.mem_iff.mp hp)
        exact ((hN.ok C (hN.sub C (hpm C hC))).2.2.1 p h).1
      refine (gate_spec hs (ps := ys) (n := n) (by omega) cl hyr).imp fun ⟨gu, s2⟩ ⟨g, eg, hg1, hg2, hs2⟩ => ?_
      simp only at eg hs2
      subst eg
      simp only [okb, sat_bind, sat_ok, fin_nx, fin_bk, fin_rt, ctlp_nx, ctlp_bk, ctlp_rt, add_int, sub_int, neg_int, lt_int, le_int, gt_int, ge_int, eq_int, ne_int, bool_bl, toInt_int, abs_int, len_lst, len_tup, len_scr, isl_lst, list_lst, list_tup, items_lst, items_tup, scal_int, scal_bl, scal_non, part_int, mkT0, mkT1, mkT2, mkT3, mkL0, mkL1, mkL2, mkL3, idx_l0, idx_l1, idx_l2, idx_t0, idx_t1, idx_t2, set_l0, set_l2, decide_true, decide_false, if_true, if_false, Bool.false_eq_true, Bool.not_true, Bool.not_false, List.length_map, isin_il, isin_it, notin_il, notin_it, encN, rng1_nat (n := T.length) (by omega)]
      rw [rest_spec (T := T) (ks := ks) (by omega) ?_]
      · generalize hrest : (List.range T.length).filter (fun i => !decide (i ∈ ks)) = rest
        have hrm : ∀ i, i ∈ rest ↔ i < T.length ∧ i ∉ ks := fun i => by
          rw [← hrest, List.mem_filter, List.mem_range]
          simp
        have hrn : rest.Nodup := by rw [← hrest]; exact (List.nodup_range (n := T.length)).filter _
        have hsum : rest.length + ks.length ≤ T.length := by
          have := nodup_lt (ks := rest ++ ks) (n := T.length) (List.nodup_append.mpr ⟨hrn, hnd, fun a ha b hb e => ((hrm a).mp ha).2 (e ▸ hb)⟩) fun k hk => by
            rcases List.mem_append.mp hk with z | z
            · exact ((hrm k).mp z).1
            · exact hlt k z
          rwa [List.length_append] at this
        have hk0 : k0 < T.length := hlt k0 (by rw [hks]; simp)
        have hks' : ks' ≠ [] := by
          intro z
          rw [hks, z, pk, List.map_singleton] at hlast
          have : T.getD k0 ([], -1) = Z := by simpa using hlast
          rw [getD_T hk0] at this
          rw [← this, getD_T hk0] at hcl
          exact (hN.ok _ (hN.sub _ (List.getElem_mem hk0))).2.2.2.1 hcl
        have hks2 : 0 < ks'.length := List.length_pos_iff.mpr hks'
        have hkl : ks.length = ks'.length + 1 := by rw [hks, List.length_cons]
        have hadd : U.add (.lst ((pk T rest).map encN)) (.lst [encN (ys, g)]) = .ok (encNs (pk T rest ++ [(ys, g)])) := by
          rw [add_lst (by simp; omega)]
          simp [encNs]
        have happ : U.app (encNs N) (encN (ys, g)) = .ok (encNs (N ++ [(ys, g)])) := by
          rw [encNs, U.app_lst (by simp; omega)]
          simp [encNs]
        simp only [encN] at hadd happ
        simp only [okb, sat_bind, sat_ok, fin_nx, fin_bk, fin_rt, ctlp_nx, ctlp_bk, ctlp_rt, add_int, sub_int, neg_int, lt_int, le_int, gt_int, ge_int, eq_int, ne_int, bool_bl, toInt_int, abs_int, len_lst, len_tup, len_scr, isl_lst, list_lst, list_tup, items_lst, items_tup, scal_int, scal_bl, scal_non, part_int, mkT0, mkT1, mkT2, mkT3, mkL0, mkL1, mkL2, mkL3, idx_l0, idx_l1, idx_l2, idx_t0, idx_t1, idx_t2, set_l0, set_l2, decide_true, decide_false, if_true, if_false, Bool.false_eq_true, Bool.not_true, Bool.not_false, List.length_map, isin_il, isin_it, notin_il, notin_it, encN, hadd, happ]
        refine ⟨hs2, _, _, rfl, rfl, ?_, by simp; omega, by simp; omega⟩
        have hpk : pk T ks = T.getD k0 ([], -1) :: pk T ks' := by rw [hks]; rfl
        rw [hpk] at hline hlast hpn hpm hperm
        refine hN.merge (C0 := T.getD k0 ([], -1)) (Cs := pk T ks') (Q := (ys, g)) (Z := Z) (by simpa using hks') hpn hpm hline hlast hcl hperm hg1 hg2 (fun B => ?_) ?_ (fun B => by simp)
        · rw [List.mem_append, List.mem_singleton, ← hpk]
          refine or_congr_left ⟨fun h => ?_, fun h => ?_⟩
          · obtain ⟨k, hk, rfl⟩ := List.mem_map.mp h
            obtain ⟨h1, h2⟩ := (hrm k).mp hk
            refine ⟨by rw [getD_T h1]; exact List.getElem_mem _, fun h3 => ?_⟩
            obtain ⟨j, hj, e⟩ := List.mem_map.mp h3
            rw [getD_T h1, getD_T (hlt j hj)] at e
            have := (List.getElem_inj hN.nodT).mp e
            exact h2 (this ▸ hj)
          · obtain ⟨h1, h2⟩ := h
            obtain ⟨k, hk, e⟩ := List.mem_iff_getElem.mp h1
            refine List.mem_map.mpr ⟨k, (hrm k).mpr ⟨hk, fun h3 => h2 (List.mem_map.mpr ⟨k, h3, by rw [getD_T hk]; exact e⟩)⟩, by rw [getD_T hk]; exact e⟩
        · refine List.nodup_append.mpr ⟨nodup_map_on hrn fun a ha b hb e => ?_, by simp, fun a ha b hb e => ?_⟩
          · rw [getD_T ((hrm a).mp ha).1, getD_T ((hrm b).mp hb).1] at e
            exact (List.getElem_inj hN.nodT).mp e
          · rw [List.mem_singleton.mp hb] at e
            subst e
            obtain ⟨k, hk, e⟩ := List.mem_map.mp ha
            obtain ⟨h1, h2⟩ := (hrm k).mp hk
            rw [getD_T h1] at e
            obtain ⟨q, hq⟩ := List.exists_mem_of_ne_nil _ (hN.ok _ (hN.sub _ (List.getElem_mem hk0))).1
            have hq2 : q ∈ ys := hperm.mem_iff.mpr (mem_pl.mpr ⟨_, List.mem_cons_self, by rw [getD_T hk0]; exact hq⟩)
            have := hN.disj _ (List.getElem_mem h1) _ (List.getElem_mem hk0) q (by rw [e]; exact hq2) hq
            have := (List.getElem_inj hN.nodT).mp this
            exact h2 (by rw [this, hks]; simp)
      · intro i hi
        simp only [okb, sat_bind, sat_ok, fin_nx, fin_bk, fin_rt, ctlp_nx, ctlp_bk, ctlp_rt, add_int, sub_int, neg_int, lt_int, le_int, gt_int, ge_int, eq_int, ne_int, bool_bl, toInt_int, abs_int, len_lst, len_tup, len_scr, isl_lst, list_lst, list_tup, items_lst, items_tup, scal_int, scal_bl, scal_non, part_int, mkT0, mkT1, mkT2, mkT3, mkL0, mkL1, mkL2, mkL3, idx_l0, idx_l1, idx_l2, idx_t0, idx_t1, idx_t2, set_l0, set_l2, decide_true, decide_false, if_true, if_false, Bool.false_eq_true, Bool.not_true, Bool.not_false, List.length_map, isin_il, isin_it, notin_il, notin_it, encN, idx_T hi]
        by_cases h : (i : Int) ∈ kl ks <;> simp [h]

theorem nest_perm {n : Int} {N N' T : List Nd} (h : Nest n N T) (e : ∀ B, B ∈ N' ↔ B ∈ N) : Nest n N' T where
  sub := fun A hA => (e A).mpr (h.sub A hA)
  one := fun p a b => by
    obtain ⟨A, hA, q⟩ := h.one p a b
    exact ⟨A, (e A).mpr hA, q⟩
  ok := fun A hA => h.ok A ((e A).mp hA)
  cover := h.cover
  disj := h.disj
  nodT := h.nodT
  within := fun Y hY => h.within Y ((e Y).mp hY)
  uniq := fun Y hY Z hZ => h.uniq Y ((e Y).mp hY) Z ((e Z).mp hZ)
  lam := fun Y hY Z hZ => h.lam Y ((e Y).mp hY) Z ((e Z).mp hZ)
  kids := fun R hR p hp => by
    rcases h.kids R ((e R).mp hR) p hp with z | ⟨C, Cs, a, b, c, d, f⟩
    · exact .inl z
    · exact .inr ⟨C, Cs, a, b, c, d, fun D hD => ⟨(e D).mpr (f D hD).1, fun Y hY => (f D hD).2 Y ((e Y).mp hY)⟩⟩
theorem perm_map_ex {A B : Type} {f : A → B} {l' l0 : List B} (h : l0.Perm l') : ∀ {l : List A}, l0 = l.map f → ∃ m : List A, l' = m.map f ∧ m.Perm l := by
  induction h with
  | nil => intro l e; exact ⟨l, e, .refl _⟩
  | cons x _ ih =>
    intro l e
    cases l with
    | nil => cases e
    | cons a t =>
      obtain ⟨rfl, e2⟩ := List.cons.inj e
      obtain ⟨m, rfl, hm⟩ := ih e2
      exact ⟨a :: m, rfl, hm.cons a⟩
  | swap x y l0 =>
    intro l e
    cases l with
    | nil => cases e
    | cons a t =>
      obtain ⟨rfl, e2⟩ := List.cons.inj e
      cases t with
      | nil => cases e2
      | cons b t =>
        obtain ⟨rfl, rfl⟩ := List.cons.inj e2
        exact ⟨b :: a :: t, rfl, .swap a b t⟩
  | trans _ _ ih1 ih2 =>
    intro l e
    obtain ⟨m, e1, hm⟩ := ih1 e
    obtain ⟨m2, e2, hm2⟩ := ih2 e1
    exact ⟨m2, e2, hm2.trans hm⟩
abbrev encR (A : Nd) : U := .tup [.int A.1.length, it A.1, .int A.2]
theorem alike_ints : ∀ xs ys : List Int, PySem.W.alikeAll (xs.map PySem.PyData.int) (ys.map PySem.PyData.int) = true
  | [], _ => by rw [List.map_nil, PySem.W.alikeAll]
  | _ :: _, [] => by rw [List.map_nil, List.map_cons, PySem.W.alikeAll]
  | x :: xs, y :: ys => by rw [List.map_cons, List.map_cons, PySem.W.alikeAll, alike_ints xs ys, PySem.W.alike]; rfl
theorem toD_encR (A : Nd) : toD (encR A) = .tuple [.int A.1.length, .tuple (A.1.map PySem.PyData.int), .int A.2] := by
  unfold encR toD
  rw [toDs_map]
  simp only [List.map_cons, List.map_nil, toD_int, toD_it]
theorem alike_encR (A B : Nd) : PySem.W.alike (toD (encR A)) (toD (encR B)) = true := by
  rw [toD_encR, toD_encR, PySem.W.alike, PySem.W.alikeAll, PySem.W.alikeAll, PySem.W.alikeAll, PySem.W.alikeAll, PySem.W.alike, PySem.W.alike, PySem.W.alike, alike_ints]
  rfl
theorem depth_encR (A : Nd) : (toD (encR A)).depth ≤ 100 := by
  rw [toD_encR, PySem.PyData.depth, PySem.PyData.depthAll, PySem.PyData.depthAll, PySem.PyData.depthAll, PySem.PyData.depthAll, PySem.PyData.depth, PySem.PyData.depth, PySem.PyData.depth]
  have := depthAll_le (g := PySem.PyData.int) (d := 0) (fun _ => Nat.le_refl _) A.1
  omega
theorem sort_rows (N : List Nd) : ∃ N' : List Nd, U.sortedD (.lst (N.map encR)) = .ok (.lst (N'.map encR)) ∧ N'.Perm N := by
  have hp : (sortD (N.map encR)).Perm (N.map encR) := List.mergeSort_perm _ _
  obtain ⟨m, e, hm⟩ := perm_map_ex hp.symm rfl
  refine ⟨m, ?_, hm⟩
  have h1 : allAlike (N.map encR) = true := by
    unfold allAlike
    rw [List.all_eq_true]
    intro a ha
    rw [List.all_eq_true]
    intro b hb
    obtain ⟨i, _, rfl⟩ := List.mem_map.mp ha
    obtain ⟨j, _, rfl⟩ := List.mem_map.mp hb
    exact alike_encR i j
  have h2 : sortable (N.map encR) = true := by
    unfold sortable
    rw [Bool.or_eq_true]
    left
    rw [List.all_eq_true]
    intro a ha
    obtain ⟨i, _, rfl⟩ := List.mem_map.mp ha
    rfl
  have h3 : shallow (N.map encR) = true := by
    unfold shallow
    rw [List.all_eq_true]
    intro a ha
    obtain ⟨i, _, rfl⟩ := List.mem_map.mp ha
    exact decide_eq_true (depth_encR i)
  show (if allAlike (N.map encR) = true ∧ sortable (N.map encR) = true ∧ shallow (N.map encR) = true then Res.ok (U.lst (sortD (N.map encR))) else .bad) = _
  rw [if_pos ⟨h1, h2, h3⟩, e]
theorem compA_all {A : Type} {f : U → Res (Option U)} (g h : A → U) (us : List A) (hl : us.length ≤ 16777216) (hf : ∀ x ∈ us, f (g x) = .ok (some (h x))) : compA f (us.map g) [] = .ok (us.map h) := by
  rw [compA_map g (fun x => some (h x)) us [] (by simpa using hl) hf]
  congr 1
  rw [List.nil_append]
  clear hl hf
  induction us with
  | nil => rfl
  | cons x r ih => rw [List.filterMap_cons, ih]; rfl
theorem sorted_spec {N : List Nd} (hN : N.length ≤ 1000000) : ∃ N' : List Nd, m_law_sorted (encNs N) = .ok (encNs N') ∧ N'.Perm N := by
  obtain ⟨N', e, hp⟩ := sort_rows N
  refine ⟨N', ?_, hp⟩
  unfold m_law_sorted
  simp only [okb, sat_bind, sat_ok, fin_nx, fin_bk, fin_rt, ctlp_nx, ctlp_bk, ctlp_rt, add_int, sub_int, neg_int, lt_int, le_int, gt_int, ge_int, eq_int, ne_int, bool_bl, toInt_int, abs_int, len_lst, len_tup, len_scr, isl_lst, list_lst, list_tup, items_lst, items_tup, scal_int, scal_bl, scal_non, part_int, mkT0, mkT1, mkT2, mkT3, mkL0, mkL1, mkL2, mkL3, idx_l0, idx_l1, idx_l2, idx_t0, idx_t1, idx_t2, set_l0, set_l2, decide_true, decide_false, if_true, if_false, Bool.false_eq_true, Bool.not_true, Bool.not_false, List.length_map, isin_il, isin_it, notin_il, notin_it, encN]
  rw [compA_all encN encR N (by omega) fun x hx => by simp only [okb, sat_bind, sat_ok, fin_nx, fin_bk, fin_rt, ctlp_nx, ctlp_bk, ctlp_rt, add_int, sub_int, neg_int, lt_int, le_int, gt_int, ge_int, eq_int, ne_int, bool_bl, toInt_int, abs_int, len_lst, len_tup, len_scr, isl_lst, list_lst, list_tup, items_lst, items_tup, scal_int, scal_bl, scal_non, part_int, mkT0, mkT1, mkT2, mkT3, mkL0, mkL1, mkL2, mkL3, idx_l0, idx_l1, idx_l2, idx_t0, idx_t1, idx_t2, set_l0, set_l2, decide_true, decide_false, if_true, if_false, Bool.false_eq_true, Bool.not_true, Bool.not_false, List.length_map, isin_il, isin_it, notin_il, notin_it, encN]]
  simp only [okb, sat_bind, sat_ok, fin_nx, fin_bk, fin_rt, ctlp_nx, ctlp_bk, ctlp_rt, add_int, sub_int, neg_int, lt_int, le_int, gt_int, ge_int, eq_int, ne_int, bool_bl, toInt_int, abs_int, len_lst, len_tup, len_scr, isl_lst, list_lst, list_tup, items_lst, items_tup, scal_int, scal_bl, scal_non, part_int, mkT0, mkT1, mkT2, mkT3, mkL0, mkL1, mkL2, mkL3, idx_l0, idx_l1, idx_l2, idx_t0, idx_t1, idx_t2, set_l0, set_l2, decide_true, decide_false, if_true, if_false, Bool.false_eq_true, Bool.not_true, Bool.not_false, List.length_map, isin_il, isin_it, notin_il, notin_it, encN]
  rw [e]
  simp only [okb, sat_bind, sat_ok, fin_nx, fin_bk, fin_rt, ctlp_nx, ctlp_bk, ctlp_rt, add_int, sub_int, neg_int, lt_int, le_int, gt_int, ge_int, eq_int, ne_int, bool_bl, toInt_int, abs_int, len_lst, len_tup, len_scr, isl_lst, list_lst, list_tup, items_lst, items_tup, scal_int, scal_bl, scal_non, part_int, mkT0, mkT1, mkT2, mkT3, mkL0, mkL1, mkL2, mkL3, idx_l0, idx_l1, idx_l2, idx_t0, idx_t1, idx_t2, set_l0, set_l2, decide_true, decide_false, if_true, if_false, Bool.false_eq_true, Bool.not_true, Bool.not_false, List.length_map, isin_il, isin_it, notin_il, notin_it, encN]
  rw [compA_all encR encN N' (by rw [hp.length_eq]; omega) fun x hx => by simp only [okb, sat_bind, sat_ok, fin_nx, fin_bk, fin_rt, ctlp_nx, ctlp_bk, ctlp_rt, add_int, sub_int, neg_int, lt_int, le_int, gt_int, ge_int, eq_int, ne_int, bool_bl, toInt_int, abs_int, len_lst, len_tup, len_scr, isl_lst, list_lst, list_tup, items_lst, items_tup, scal_int, scal_bl, scal_non, part_int, mkT0, mkT1, mkT2, mkT3, mkL0, mkL1, mkL2, mkL3, idx_l0, idx_l1, idx_l2, idx_t0, idx_t1, idx_t2, set_l0, set_l2, decide_true, decide_false, if_true, if_false, Bool.false_eq_true, Bool.not_true, Bool.not_false, List.length_map, isin_il, isin_it, notin_il, notin_it, encN]]
  simp only [okb, sat_bind, sat_ok, fin_nx, fin_bk, fin_rt, ctlp_nx, ctlp_bk, ctlp_rt, add_int, sub_int, neg_int, lt_int, le_int, gt_int, ge_int, eq_int, ne_int, bool_bl, toInt_int, abs_int, len_lst, len_tup, len_scr, isl_lst, list_lst, list_tup, items_lst, items_tup, scal_int, scal_bl, scal_non, part_int, mkT0, mkT1, mkT2, mkT3, mkL0, mkL1, mkL2, mkL3, idx_l0, idx_l1, idx_l2, idx_t0, idx_t1, idx_t2, set_l0, set_l2, decide_true, decide_false, if_true, if_false, Bool.false_eq_true, Bool.not_true, Bool.not_false, List.length_map, isin_il, isin_it, notin_il, notin_it, encN]
def NestP (n : Nat) (r : U × U) : Prop := GoodS r.2 ∧ ∃ N T, r.1 = encNs N ∧ Nest n N T ∧ NoCyc T ∧ N.length ≤ n + n
theorem nest_spec {s : U} (hs : GoodS s) {n : Nat} (h0 : 0 < n) (hn : n ≤ 1000) (cl : Bool) : (m_law_nest s (.int n) (.bl cl)).Sat (NestP n) := by
  unfold m_law_nest
  simp only [okb, sat_bind, sat_ok, fin_nx, fin_bk, fin_rt, ctlp_nx, ctlp_bk, ctlp_rt, add_int, sub_int, neg_int, lt_int, le_int, gt_int, ge_int, eq_int, ne_int, bool_bl, toInt_int, abs_int, len_lst, len_tup, len_scr, isl_lst, list_lst, list_tup, items_lst, items_tup, scal_int, scal_bl, scal_non, part_int, mkT0, mkT1, mkT2, mkT3, mkL0, mkL1, mkL2, mkL3, idx_l0, idx_l1, idx_l2, idx_t0, idx_t1, idx_t2, set_l0, set_l2, decide_true, decide_false, if_true, if_false, Bool.false_eq_true, Bool.not_true, Bool.not_false, List.length_map, isin_il, isin_it, notin_il, notin_it, encN, rng1_nat (n := n) (by omega)]
  refine (compS_rng (fun i a s => GoodS s ∧ ∃ T : List Nd, a = T.map encN ∧ T.length = i ∧ ∀ (j : Nat) (h : j < T.length), T[j].1 = [(j : Int)] ∧ T[j].2 ≠ (j : Int) ∧ (T[j].2 = -1 ∨ 0 ≤ T[j].2 ∧ T[j].2 < n)) (by omega) (fun i a s h => ?_) ⟨hs, [], rfl, rfl, fun j h => absurd h (by simp)⟩ fun i a s hi h => ?_).imp fun ⟨a, s1⟩ h => ?_
  · obtain ⟨_, T, rfl, e, _⟩ := h
    rw [List.length_map, e]
    exact Nat.le_refl _
  · obtain ⟨hs, T, rfl, hl, hT⟩ := h
    simp only [okb, sat_bind, sat_ok, fin_nx, fin_bk, fin_rt, ctlp_nx, ctlp_bk, ctlp_rt, add_int, sub_int, neg_int, lt_int, le_int, gt_int, ge_int, eq_int, ne_int, bool_bl, toInt_int, abs_int, len_lst, len_tup, len_scr, isl_lst, list_lst, list_tup, items_lst, items_tup, scal_int, scal_bl, scal_non, part_int, mkT0, mkT1, mkT2, mkT3, mkL0, mkL1, mkL2, mkL3, idx_l0, idx_l1, idx_l2, idx_t0, idx_t1, idx_t2, set_l0, set_l2, decide_true, decide_false, if_true, if_false, Bool.false_eq_true, Bool.not_true, Bool.not_false, List.length_map, isin_il, isin_it, notin_il, notin_it, encN]
    refine (gate_spec hs (ps := [(i : Int)]) (n := n) (by omega) cl (by simp)).imp fun ⟨gu, s2⟩ ⟨g, eg, hg1, hg2, hs2⟩ => ?_
    simp only at eg hs2
    subst eg
    simp only [okb, sat_bind, sat_ok, fin_nx, fin_bk, fin_rt, ctlp_nx, ctlp_bk, ctlp_rt, add_int, sub_int, neg_int, lt_int, le_int, gt_int, ge_int, eq_int, ne_int, bool_bl, toInt_int, abs_int, len_lst, len_tup, len_scr, isl_lst, list_lst, list_tup, items_lst, items_tup, scal_int, scal_bl, scal_non, part_int, mkT0, mkT1, mkT2, mkT3, mkL0, mkL1, mkL2, mkL3, idx_l0, idx_l1, idx_l2, idx_t0, idx_t1, idx_t2, set_l0, set_l2, decide_true, decide_false, if_true, if_false, Bool.false_eq_true, Bool.not_true, Bool.not_false, List.length_map, isin_il, isin_it, notin_il, notin_it, encN]
    refine ⟨hs2, T ++ [([(i : Int)], g)], by simp, by simp [hl], fun j hj => ?_⟩
    by_cases e : j < T.length
    · rw [List.getElem_append_left e]; exact hT j e
    · have : j = T.length := by simp at hj; omega
      subst this
      simp [hl]
      exact ⟨by simpa using hg1, hg2⟩
  · obtain ⟨hs1, T, ea, hl, hT⟩ := h
    simp only at ea hs1
    subst ea
    simp only [okb, sat_bind, sat_ok, fin_nx, fin_bk, fin_rt, ctlp_nx, ctlp_bk, ctlp_rt, add_int, sub_int, neg_int, lt_int, le_int, gt_int, ge_int, eq_int, ne_int, bool_bl, toInt_int, abs_int, len_lst, len_tup, len_scr, isl_lst, list_lst, list_tup, items_lst, items_tup, scal_int, scal_bl, scal_non, part_int, mkT0, mkT1, mkT2, mkT3, mkL0, mkL1, mkL2, mkL3, idx_l0, idx_l1, idx_l2, idx_t0, idx_t1, idx_t2, set_l0, set_l2, decide_true, decide_false, if_true, if_false, Bool.false_eq_true, Bool.not_true, Bool.not_false, List.length_map, isin_il, isin_it, notin_il, notin_it, encN]
    have hI0 : NestI n 0 (s1, encNs T, encNs T) := ⟨hs1, T, T, rfl, rfl, nest_first hl hT, by omega, by omega⟩
    refine (forR_rng (NestI n) (NestB n) (fun _ => False) hI0 fun i s hi h => nest_step hn hi cl h _).imp fun c hc => ?_
    have hB : ∀ s : U × U × U, NestB n s → ((m_law_sorted s.2.1) >>= fun y => Res.ok (y, s.1)).Sat (NestP n) := by
      intro s ⟨a, N, T, e1, b, c, d⟩
      obtain ⟨N', e2, hp⟩ := sorted_spec (N := N) (by omega)
      rw [e1, e2]
      simp only [okb, sat_bind, sat_ok, fin_nx, fin_bk, fin_rt, ctlp_nx, ctlp_bk, ctlp_rt, add_int, sub_int, neg_int, lt_int, le_int, gt_int, ge_int, eq_int, ne_int, bool_bl, toInt_int, abs_int, len_lst, len_tup, len_scr, isl_lst, list_lst, list_tup, items_lst, items_tup, scal_int, scal_bl, scal_non, part_int, mkT0, mkT1, mkT2, mkT3, mkL0, mkL1, mkL2, mkL3, idx_l0, idx_l1, idx_l2, idx_t0, idx_t1, idx_t2, set_l0, set_l2, decide_true, decide_false, if_true, if_false, Bool.false_eq_true, Bool.not_true, Bool.not_false, List.length_map, isin_il, isin_it, notin_il, notin_it, encN]
      exact ⟨a, N', T, rfl, nest_perm b fun B => hp.mem_iff, c, by rw [hp.length_eq]; exact d⟩
    cases c with
    | nx s =>
      exfalso
      obtain ⟨_, N, T, _, _, c, d, _⟩ := hc
      obtain ⟨A, hA, _⟩ := c.cover 0 (by omega) (by omega)
      have := List.length_pos_of_mem hA
      omega
    | bk s => simp only [okb, sat_bind, sat_ok, fin_nx, fin_bk, fin_rt, ctlp_nx, ctlp_bk, ctlp_rt, add_int, sub_int, neg_int, lt_int, le_int, gt_int, ge_int, eq_int, ne_int, bool_bl, toInt_int, abs_int, len_lst, len_tup, len_scr, isl_lst, list_lst, list_tup, items_lst, items_tup, scal_int, scal_bl, scal_non, part_int, mkT0, mkT1, mkT2, mkT3, mkL0, mkL1, mkL2, mkL3, idx_l0, idx_l1, idx_l2, idx_t0, idx_t1, idx_t2, set_l0, set_l2, decide_true, decide_false, if_true, if_false, Bool.false_eq_true, Bool.not_true, Bool.not_false, List.length_map, isin_il, isin_it, notin_il, notin_it, encN]; have := hB s hc; simp only [okb, sat_bind, sat_ok, fin_nx, fin_bk, fin_rt, ctlp_nx, ctlp_bk, ctlp_rt, add_int, sub_int, neg_int, lt_int, le_int, gt_int, ge_int, eq_int, ne_int, bool_bl, toInt_int, abs_int, len_lst, len_tup, len_scr, isl_lst, list_lst, list_tup, items_lst, items_tup, scal_int, scal_bl, scal_non, part_int, mkT0, mkT1, mkT2, mkT3, mkL0, mkL1, mkL2, mkL3, idx_l0, idx_l1, idx_l2, idx_t0, idx_t1, idx_t2, set_l0, set_l2, decide_true, decide_false, if_true, if_false, Bool.false_eq_true, Bool.not_true, Bool.not_false, List.length_map, isin_il, isin_it, notin_il, notin_it, encN] at this; exact this
    | rt r => exact hc.elim

/-! ### the cards of a nest -/
def LeftI (S : List Int) (x : Int) (d : List Nd) (s : U) : Prop := ∃ A : Nd, s = encN A ∧ (A = ([], -1) ∨ A ∈ d ∧ x ∈ A.1 ∧ A.1 ⊆ S) ∧ ∀ Y ∈ d, x ∈ Y.1 → Y.1 ⊆ S → Y.1.length ≤ A.1.length
theorem left_spec {N : List Nd} {S0 : List Int} {x : Int} (hx : ∃ A ∈ N, A.1 = [x]) : ∃ A, m_law_left (encNs N) (il (S0 ++ [x])) = .ok (encN A) ∧ IsLeft N (S0 ++ [x]) x A := by
  have : (m_law_left (encNs N) (il (S0 ++ [x]))).Sat fun r => ∃ A, r = encN A ∧ IsLeft N (S0 ++ [x]) x A := by
    unfold m_law_left
    simp only [okb, sat_bind, sat_ok, fin_nx, fin_bk, fin_rt, ctlp_nx, ctlp_bk, ctlp_rt, add_int, sub_int, neg_int, lt_int, le_int, gt_int, ge_int, eq_int, ne_int, bool_bl, toInt_int, abs_int, len_lst, len_tup, len_scr, isl_lst, list_lst, list_tup, items_lst, items_tup, scal_int, scal_bl, scal_non, part_int, mkT0, mkT1, mkT2, mkT3, mkL0, mkL1, mkL2, mkL3, idx_l0, idx_l1, idx_l2, idx_t0, idx_t1, idx_t2, set_l0, set_l2, decide_true, decide_false, if_true, if_false, Bool.false_eq_true, Bool.not_true, Bool.not_false, List.length_map, isin_il, isin_it, notin_il, notin_it, encN]
    have h0 : LeftI (S0 ++ [x]) x [] (encN ([], -1)) := ⟨_, rfl, .inl rfl, fun Y hY => by cases hY⟩
    refine (forR_map encN (fun d r s => d ++ r = N ∧ LeftI (S0 ++ [x]) x d s) (fun _ => False) (fun _ => False) (fun d Y r s h => ?_) N [] (encN ([], -1)) ⟨rfl, h0⟩).imp fun c hc => ?_
    · obtain ⟨e, A, rfl, h1, h2⟩ := h
      have hkeep : ¬ (x ∈ Y.1 ∧ Y.1 ⊆ S0 ++ [x] ∧ A.1.length < Y.1.length) → (d ++ [Y]) ++ r = N ∧ LeftI (S0 ++ [x]) x (d ++ [Y]) (encN A) := by
        intro hn
        refine ⟨by rw [List.append_assoc]; exact e, A, rfl, ?_, fun Z hZ a b => ?_⟩
        · rcases h1 with z | ⟨a, b⟩
          · exact .inl z
          · exact .inr ⟨by simp [a], b⟩
        · rcases List.mem_append.mp hZ with z | z
          · exact h2 Z z a b
          · rw [List.mem_singleton.mp z] at a b ⊢
            exact Nat.le_of_not_lt fun c => hn ⟨a, b, c⟩
      unfold m_law_left_loop1
      have hl : U.idx (il (S0 ++ [x])) (.int (-1)) = .ok (.int x) := idx_last S0 x
      simp only [okb, sat_bind, sat_ok, fin_nx, fin_bk, fin_rt, ctlp_nx, ctlp_bk, ctlp_rt, add_int, sub_int, neg_int, lt_int, le_int, gt_int, ge_int, eq_int, ne_int, bool_bl, toInt_int, abs_int, len_lst, len_tup, len_scr, isl_lst, list_lst, list_tup, items_lst, items_tup, scal_int, scal_bl, scal_non, part_int, mkT0, mkT1, mkT2, mkT3, mkL0, mkL1, mkL2, mkL3, idx_l0, idx_l1, idx_l2, idx_t0, idx_t1, idx_t2, set_l0, set_l2, decide_true, decide_false, if_true, if_false, Bool.false_eq_true, Bool.not_true, Bool.not_false, List.length_map, isin_il, isin_it, notin_il, notin_it, encN, hl]
      by_cases hxY : x ∈ Y.1
      · by_cases hlen : A.1.length < Y.1.length
        · have hlen' : (A.1.length : Int) < (Y.1.length : Int) := by omega
          simp only [okb, sat_bind, sat_ok, fin_nx, fin_bk, fin_rt, ctlp_nx, ctlp_bk, ctlp_rt, add_int, sub_int, neg_int, lt_int, le_int, gt_int, ge_int, eq_int, ne_int, bool_bl, toInt_int, abs_int, len_lst, len_tup, len_scr, isl_lst, list_lst, list_tup, items_lst, items_tup, scal_int, scal_bl, scal_non, part_int, mkT0, mkT1, mkT2, mkT3, mkL0, mkL1, mkL2, mkL3, idx_l0, idx_l1, idx_l2, idx_t0, idx_t1, idx_t2, set_l0, set_l2, decide_true, decide_false, if_true, if_false, Bool.false_eq_true, Bool.not_true, Bool.not_false, List.length_map, isin_il, isin_it, notin_il, notin_it, encN, hxY, hlen']
          have hloop : (forR (m_law_left_loop2 (il (S0 ++ [x]))) (Y.1.map U.int) (.bl true)).Sat (CtlP (fun s => s = .bl (decide (Y.1 ⊆ S0 ++ [x]))) (fun _ => False) (fun _ => False)) := by
            have := forR_map (f := m_law_left_loop2 (il (S0 ++ [x]))) U.int (fun d r s => s = .bl (decide (d ⊆ S0 ++ [x]))) (fun _ => False) (fun (_ : U) => False) (fun d y r s h => ?_) Y.1 [] (.bl true) (by simp)
            · simpa using this
            · subst h
              unfold m_law_left_loop2
              simp only [okb, sat_bind, sat_ok, fin_nx, fin_bk, fin_rt, ctlp_nx, ctlp_bk, ctlp_rt, add_int, sub_int, neg_int, lt_int, le_int, gt_int, ge_int, eq_int, ne_int, bool_bl, toInt_int, abs_int, len_lst, len_tup, len_scr, isl_lst, list_lst, list_tup, items_lst, items_tup, scal_int, scal_bl, scal_non, part_int, mkT0, mkT1, mkT2, mkT3, mkL0, mkL1, mkL2, mkL3, idx_l0, idx_l1, idx_l2, idx_t0, idx_t1, idx_t2, set_l0, set_l2, decide_true, decide_false, if_true, if_false, Bool.false_eq_true, Bool.not_true, Bool.not_false, List.length_map, isin_il, isin_it, notin_il, notin_it, encN]
              by_cases hy : y ∈ S0 ++ [x]
              · simp only [okb, sat_bind, sat_ok, fin_nx, fin_bk, fin_rt, ctlp_nx, ctlp_bk, ctlp_rt, add_int, sub_int, neg_int, lt_int, le_int, gt_int, ge_int, eq_int, ne_int, bool_bl, toInt_int, abs_int, len_lst, len_tup, len_scr, isl_lst, list_lst, list_tup, items_lst, items_tup, scal_int, scal_bl, scal_non, part_int, mkT0, mkT1, mkT2, mkT3, mkL0, mkL1, mkL2, mkL3, idx_l0, idx_l1, idx_l2, idx_t0, idx_t1, idx_t2, set_l0, set_l2, decide_true, decide_false, if_true, if_false, Bool.false_eq_true, Bool.not_true, Bool.not_false, List.length_map, isin_il, isin_it, notin_il, notin_it, encN, hy]
                congr 1
                rw [decide_eq_decide]
                constructor
                · intro a z hz
                  rcases List.mem_append.mp hz with q | q
                  · exact a q
                  · rw [List.mem_singleton.mp q]; exact hy
                · exact fun a z hz => a (by simp [hz])
              · simp only [okb, sat_bind, sat_ok, fin_nx, fin_bk, fin_rt, ctlp_nx, ctlp_bk, ctlp_rt, add_int, sub_int, neg_int, lt_int, le_int, gt_int, ge_int, eq_int, ne_int, bool_bl, toInt_int, abs_int, len_lst, len_tup, len_scr, isl_lst, list_lst, list_tup, items_lst, items_tup, scal_int, scal_bl, scal_non, part_int, mkT0, mkT1, mkT2, mkT3, mkL0, mkL1, mkL2, mkL3, idx_l0, idx_l1, idx_l2, idx_t0, idx_t1, idx_t2, set_l0, set_l2, decide_true, decide_false, if_true, if_false, Bool.false_eq_true, Bool.not_true, Bool.not_false, List.length_map, isin_il, isin_it, notin_il, notin_it, encN, hy]
                congr 1
                symm
                rw [decide_eq_false_iff_not]
                exact fun a => hy (a (by simp))
          refine hloop.imp fun c hc => ?_
          cases c with
          | bk s => exact hc.elim
          | rt s => exact hc.elim
          | nx s =>
            have hc : s = _ := hc
            subst hc
            by_cases hs : Y.1 ⊆ S0 ++ [x]
            · simp only [okb, sat_bind, sat_ok, fin_nx, fin_bk, fin_rt, ctlp_nx, ctlp_bk, ctlp_rt, add_int, sub_int, neg_int, lt_int, le_int, gt_int, ge_int, eq_int, ne_int, bool_bl, toInt_int, abs_int, len_lst, len_tup, len_scr, isl_lst, list_lst, list_tup, items_lst, items_tup, scal_int, scal_bl, scal_non, part_int, mkT0, mkT1, mkT2, mkT3, mkL0, mkL1, mkL2, mkL3, idx_l0, idx_l1, idx_l2, idx_t0, idx_t1, idx_t2, set_l0, set_l2, decide_true, decide_false, if_true, if_false, Bool.false_eq_true, Bool.not_true, Bool.not_false, List.length_map, isin_il, isin_it, notin_il, notin_it, encN, hs]
              refine ⟨by rw [List.append_assoc]; exact e, Y, rfl, .inr ⟨by simp, hxY, hs⟩, fun Z hZ a b => ?_⟩
              rcases List.mem_append.mp hZ with z | z
              · have := h2 Z z a b; omega
              · rw [List.mem_singleton.mp z]; exact Nat.le_refl _
            · simp only [okb, sat_bind, sat_ok, fin_nx, fin_bk, fin_rt, ctlp_nx, ctlp_bk, ctlp_rt, add_int, sub_int, neg_int, lt_int, le_int, gt_int, ge_int, eq_int, ne_int, bool_bl, toInt_int, abs_int, len_lst, len_tup, len_scr, isl_lst, list_lst, list_tup, items_lst, items_tup, scal_int, scal_bl, scal_non, part_int, mkT0, mkT1, mkT2, mkT3, mkL0, mkL1, mkL2, mkL3, idx_l0, idx_l1, idx_l2, idx_t0, idx_t1, idx_t2, set_l0, set_l2, decide_true, decide_false, if_true, if_false, Bool.false_eq_true, Bool.not_true, Bool.not_false, List.length_map, isin_il, isin_it, notin_il, notin_it, encN, hs]
              exact hkeep fun z => hs z.2.1
        · have hlen' : ¬ (A.1.length : Int) < (Y.1.length : Int) := by omega
          simp only [okb, sat_bind, sat_ok, fin_nx, fin_bk, fin_rt, ctlp_nx, ctlp_bk, ctlp_rt, add_int, sub_int, neg_int, lt_int, le_int, gt_int, ge_int, eq_int, ne_int, bool_bl, toInt_int, abs_int, len_lst, len_tup, len_scr, isl_lst, list_lst, list_tup, items_lst, items_tup, scal_int, scal_bl, scal_non, part_int, mkT0, mkT1, mkT2, mkT3, mkL0, mkL1, mkL2, mkL3, idx_l0, idx_l1, idx_l2, idx_t0, idx_t1, idx_t2, set_l0, set_l2, decide_true, decide_false, if_true, if_false, Bool.false_eq_true, Bool.not_true, Bool.not_false, List.length_map, isin_il, isin_it, notin_il, notin_it, encN, hxY, hlen']
          exact hkeep fun z => hlen z.2.2
      · simp only [okb, sat_bind, sat_ok, fin_nx, fin_bk, fin_rt, ctlp_nx, ctlp_bk, ctlp_rt, add_int, sub_int, neg_int, lt_int, le_int, gt_int, ge_int, eq_int, ne_int, bool_bl, toInt_int, abs_int, len_lst, len_tup, len_scr, isl_lst, list_lst, list_tup, items_lst, items_tup, scal_int, scal_bl, scal_non, part_int, mkT0, mkT1, mkT2, mkT3, mkL0, mkL1, mkL2, mkL3, idx_l0, idx_l1, idx_l2, idx_t0, idx_t1, idx_t2, set_l0, set_l2, decide_true, decide_false, if_true, if_false, Bool.false_eq_true, Bool.not_true, Bool.not_false, List.length_map, isin_il, isin_it, notin_il, notin_it, encN, hxY]
        exact hkeep fun z => hxY z.1
    · cases c with
      | bk s => exact hc.elim
      | rt s => exact hc.elim
      | nx s =>
        obtain ⟨_, A, rfl, h1, h2⟩ := hc
        simp only [okb, sat_bind, sat_ok, fin_nx, fin_bk, fin_rt, ctlp_nx, ctlp_bk, ctlp_rt, add_int, sub_int, neg_int, lt_int, le_int, gt_int, ge_int, eq_int, ne_int, bool_bl, toInt_int, abs_int, len_lst, len_tup, len_scr, isl_lst, list_lst, list_tup, items_lst, items_tup, scal_int, scal_bl, scal_non, part_int, mkT0, mkT1, mkT2, mkT3, mkL0, mkL1, mkL2, mkL3, idx_l0, idx_l1, idx_l2, idx_t0, idx_t1, idx_t2, set_l0, set_l2, decide_true, decide_false, if_true, if_false, Bool.false_eq_true, Bool.not_true, Bool.not_false, List.length_map, isin_il, isin_it, notin_il, notin_it, encN, List.nil_append] at h1 h2 ⊢
        obtain ⟨B, hB, eB⟩ := hx
        have hBl := h2 B hB (by rw [eB]; simp) (by rw [eB]; intro y hy; rw [List.mem_singleton.mp hy]; simp)
        rcases h1 with z | ⟨a, b, c⟩
        · rw [z, eB] at hBl; exact absurd hBl (by simp)
        · exact ⟨A, rfl, a, b, c, h2⟩
  obtain ⟨r, e, A, rfl, h⟩ := this
  exact ⟨A, e, h⟩
def CardOK (n : Nat) (p : Int) (c : List Int) : Prop := c.Nodup ∧ p ∉ c ∧ ∀ e ∈ c, 0 ≤ e ∧ e < (n : Int)
theorem slice_1 {a : Int} {xs : List Int} : U.slice (il (a :: xs)) (some 1) none = .ok (il xs) := slice_from (xs := a :: xs) (k := 1) (by simp)
theorem card_spec {n : Nat} {N T : List Nd} (hN : Nest n N T) (hc : NoCyc T) (hNl : N.length ≤ 1000000) {p : Nat} (hp : p < n) : (m_law_card (encNs N) (.int p)).Sat fun r => ∃ c, r = il c ∧ CardOK n p c := by
  unfold m_law_card
  simp only [okb, sat_bind, sat_ok, fin_nx, fin_bk, fin_rt, ctlp_nx, ctlp_bk, ctlp_rt, add_int, sub_int, neg_int, lt_int, le_int, gt_int, ge_int, eq_int, ne_int, bool_bl, toInt_int, abs_int, len_lst, len_tup, len_scr, isl_lst, list_lst, list_tup, items_lst, items_tup, scal_int, scal_bl, scal_non, part_int, mkT0, mkT1, mkT2, mkT3, mkL0, mkL1, mkL2, mkL3, idx_l0, idx_l1, idx_l2, idx_t0, idx_t1, idx_t2, set_l0, set_l2, decide_true, decide_false, if_true, if_false, Bool.false_eq_true, Bool.not_true, Bool.not_false, List.length_map, isin_il, isin_it, notin_il, notin_it, encN, rng1_nat (n := N.length) (by omega)]
  have hr0 : ∀ x ∈ [(p : Int)], 0 ≤ x ∧ x < (n : Int) := fun x hx => by rw [List.mem_singleton.mp hx]; omega
  refine (forR_rng (fun i s => ∃ S, s = il S ∧ Rc N [(p : Int)] S ∧ S.length = i + 1) (fun s => ∃ S, s = il S ∧ Rc N [(p : Int)] S) (fun _ => False) ⟨[(p : Int)], rfl, .refl _, rfl⟩ fun i s hi h => ?_).imp fun c hc' => ?_
  · obtain ⟨S, rfl, hS, hl⟩ := h
    have hne : S ≠ [] := fun z => by rw [z] at hl; cases hl
    obtain ⟨S0, x, rfl⟩ := ne_snoc hne
    have hxr := hN.in_range hS hr0 x (by simp)
    obtain ⟨A, eA, hA⟩ := left_spec (S0 := S0) (hN.one x hxr.1 hxr.2)
    unfold m_law_card_loop1
    simp only [okb, sat_bind, sat_ok, fin_nx, fin_bk, fin_rt, ctlp_nx, ctlp_bk, ctlp_rt, add_int, sub_int, neg_int, lt_int, le_int, gt_int, ge_int, eq_int, ne_int, bool_bl, toInt_int, abs_int, len_lst, len_tup, len_scr, isl_lst, list_lst, list_tup, items_lst, items_tup, scal_int, scal_bl, scal_non, part_int, mkT0, mkT1, mkT2, mkT3, mkL0, mkL1, mkL2, mkL3, idx_l0, idx_l1, idx_l2, idx_t0, idx_t1, idx_t2, set_l0, set_l2, decide_true, decide_false, if_true, if_false, Bool.false_eq_true, Bool.not_true, Bool.not_false, List.length_map, isin_il, isin_it, notin_il, notin_it, encN, eA]
    by_cases hg : A.2 < 0
    · simp only [okb, sat_bind, sat_ok, fin_nx, fin_bk, fin_rt, ctlp_nx, ctlp_bk, ctlp_rt, add_int, sub_int, neg_int, lt_int, le_int, gt_int, ge_int, eq_int, ne_int, bool_bl, toInt_int, abs_int, len_lst, len_tup, len_scr, isl_lst, list_lst, list_tup, items_lst, items_tup, scal_int, scal_bl, scal_non, part_int, mkT0, mkT1, mkT2, mkT3, mkL0, mkL1, mkL2, mkL3, idx_l0, idx_l1, idx_l2, idx_t0, idx_t1, idx_t2, set_l0, set_l2, decide_true, decide_false, if_true, if_false, Bool.false_eq_true, Bool.not_true, Bool.not_false, List.length_map, isin_il, isin_it, notin_il, notin_it, encN, hg]
      exact ⟨_, rfl, hS⟩
    · simp only [okb, sat_bind, sat_ok, fin_nx, fin_bk, fin_rt, ctlp_nx, ctlp_bk, ctlp_rt, add_int, sub_int, neg_int, lt_int, le_int, gt_int, ge_int, eq_int, ne_int, bool_bl, toInt_int, abs_int, len_lst, len_tup, len_scr, isl_lst, list_lst, list_tup, items_lst, items_tup, scal_int, scal_bl, scal_non, part_int, mkT0, mkT1, mkT2, mkT3, mkL0, mkL1, mkL2, mkL3, idx_l0, idx_l1, idx_l2, idx_t0, idx_t1, idx_t2, set_l0, set_l2, decide_true, decide_false, if_true, if_false, Bool.false_eq_true, Bool.not_true, Bool.not_false, List.length_map, isin_il, isin_it, notin_il, notin_it, encN, hg]
      have := app_il (xs := S0 ++ [x]) (a := A.2) (by omega)
      rw [this]
      simp only [okb, sat_bind, sat_ok, fin_nx, fin_bk, fin_rt, ctlp_nx, ctlp_bk, ctlp_rt, add_int, sub_int, neg_int, lt_int, le_int, gt_int, ge_int, eq_int, ne_int, bool_bl, toInt_int, abs_int, len_lst, len_tup, len_scr, isl_lst, list_lst, list_tup, items_lst, items_tup, scal_int, scal_bl, scal_non, part_int, mkT0, mkT1, mkT2, mkT3, mkL0, mkL1, mkL2, mkL3, idx_l0, idx_l1, idx_l2, idx_t0, idx_t1, idx_t2, set_l0, set_l2, decide_true, decide_false, if_true, if_false, Bool.false_eq_true, Bool.not_true, Bool.not_false, List.length_map, isin_il, isin_it, notin_il, notin_it, encN]
      exact ⟨_, rfl, hS.trans (.one ⟨S0, x, A, rfl, hA, by omega, rfl⟩), by rw [List.length_append, hl]; rfl⟩
  · have key : ∀ s, (∃ S, s = il S ∧ Rc N [(p : Int)] S) → ((U.slice s (some 1) none) >>= fun a => U.isl a >>= fun y => .ok y).Sat fun r => ∃ c, r = il c ∧ CardOK n p c := by
      rintro s ⟨S, rfl, hS⟩
      obtain ⟨t, rfl⟩ := hS.pre
      have hnd := hN.named hc (by omega) (by omega) hS
      have := slice_1 (a := (p : Int)) (xs := t)
      rw [List.singleton_append, this]
      simp only [okb, sat_bind, sat_ok, fin_nx, fin_bk, fin_rt, ctlp_nx, ctlp_bk, ctlp_rt, add_int, sub_int, neg_int, lt_int, le_int, gt_int, ge_int, eq_int, ne_int, bool_bl, toInt_int, abs_int, len_lst, len_tup, len_scr, isl_lst, list_lst, list_tup, items_lst, items_tup, scal_int, scal_bl, scal_non, part_int, mkT0, mkT1, mkT2, mkT3, mkL0, mkL1, mkL2, mkL3, idx_l0, idx_l1, idx_l2, idx_t0, idx_t1, idx_t2, set_l0, set_l2, decide_true, decide_false, if_true, if_false, Bool.false_eq_true, Bool.not_true, Bool.not_false, List.length_map, isin_il, isin_it, notin_il, notin_it, encN]
      have h2 := List.nodup_cons.mp hnd
      exact ⟨t, rfl, h2.2, h2.1, fun e he => hN.in_range hS hr0 e (by simp [he])⟩
    cases c with
    | nx s => simp only [okb, sat_bind, sat_ok, fin_nx, fin_bk, fin_rt, ctlp_nx, ctlp_bk, ctlp_rt, add_int, sub_int, neg_int, lt_int, le_int, gt_int, ge_int, eq_int, ne_int, bool_bl, toInt_int, abs_int, len_lst, len_tup, len_scr, isl_lst, list_lst, list_tup, items_lst, items_tup, scal_int, scal_bl, scal_non, part_int, mkT0, mkT1, mkT2, mkT3, mkL0, mkL1, mkL2, mkL3, idx_l0, idx_l1, idx_l2, idx_t0, idx_t1, idx_t2, set_l0, set_l2, decide_true, decide_false, if_true, if_false, Bool.false_eq_true, Bool.not_true, Bool.not_false, List.length_map, isin_il, isin_it, notin_il, notin_it, encN]; obtain ⟨S, a, b, _⟩ := hc'; have := key s ⟨S, a, b⟩; simp only [okb, sat_bind, sat_ok, fin_nx, fin_bk, fin_rt, ctlp_nx, ctlp_bk, ctlp_rt, add_int, sub_int, neg_int, lt_int, le_int, gt_int, ge_int, eq_int, ne_int, bool_bl, toInt_int, abs_int, len_lst, len_tup, len_scr, isl_lst, list_lst, list_tup, items_lst, items_tup, scal_int, scal_bl, scal_non, part_int, mkT0, mkT1, mkT2, mkT3, mkL0, mkL1, mkL2, mkL3, idx_l0, idx_l1, idx_l2, idx_t0, idx_t1, idx_t2, set_l0, set_l2, decide_true, decide_false, if_true, if_false, Bool.false_eq_true, Bool.not_true, Bool.not_false, List.length_map, isin_il, isin_it, notin_il, notin_it, encN] at this; exact this
    | bk s => simp only [okb, sat_bind, sat_ok, fin_nx, fin_bk, fin_rt, ctlp_nx, ctlp_bk, ctlp_rt, add_int, sub_int, neg_int, lt_int, le_int, gt_int, ge_int, eq_int, ne_int, bool_bl, toInt_int, abs_int, len_lst, len_tup, len_scr, isl_lst, list_lst, list_tup, items_lst, items_tup, scal_int, scal_bl, scal_non, part_int, mkT0, mkT1, mkT2, mkT3, mkL0, mkL1, mkL2, mkL3, idx_l0, idx_l1, idx_l2, idx_t0, idx_t1, idx_t2, set_l0, set_l2, decide_true, decide_false, if_true, if_false, Bool.false_eq_true, Bool.not_true, Bool.not_false, List.length_map, isin_il, isin_it, notin_il, notin_it, encN]; have := key s hc'; simp only [okb, sat_bind, sat_ok, fin_nx, fin_bk, fin_rt, ctlp_nx, ctlp_bk, ctlp_rt, add_int, sub_int, neg_int, lt_int, le_int, gt_int, ge_int, eq_int, ne_int, bool_bl, toInt_int, abs_int, len_lst, len_tup, len_scr, isl_lst, list_lst, list_tup, items_lst, items_tup, scal_int, scal_bl, scal_non, part_int, mkT0, mkT1, mkT2, mkT3, mkL0, mkL1, mkL2, mkL3, idx_l0, idx_l1, idx_l2, idx_t0, idx_t1, idx_t2, set_l0, set_l2, decide_true, decide_false, if_true, if_false, Bool.false_eq_true, Bool.not_true, Bool.not_false, List.length_map, isin_il, isin_it, notin_il, notin_it, encN] at this; exact this
    | rt r => exact hc'.elim
def BookOK (n : Nat) (cs : List (List Int)) : Prop := cs.length = n ∧ ∀ (i : Nat) (h : i < cs.length), CardOK n i cs[i]
abbrev bl2 (cs : List (List Int)) : U := .lst (cs.map il)
theorem compA_ex {f : U → Res (Option U)} {n : Nat} {P : Nat → List Int → Prop} (hn : n ≤ 1000000) (hf : ∀ i : Nat, i < n → (f (.int i)).Sat fun o => ∃ c, o = some (il c) ∧ P i c) : (compA f (rng n) []).Sat fun ys => ∃ cs : List (List Int), ys = cs.map il ∧ cs.length = n ∧ ∀ (i : Nat) (h : i < cs.length), P i cs[i] := by
  have key : ∀ (k i : Nat) (cs : List (List Int)), i + k = n → cs.length = i → (∀ (j : Nat) (h : j < cs.length), P j cs[j]) → (compA f ((List.range' i k).map fun (j : Nat) => U.int j) (cs.map il)).Sat fun ys => ∃ cs : List (List Int), ys = cs.map il ∧ cs.length = n ∧ ∀ (i : Nat) (h : i < cs.length), P i cs[i] := by
    intro k
    induction k with
    | zero =>
      intro i cs e hl hP
      simp only [List.range'_zero, List.map_nil]
      unfold compA
      exact sat_ok.mpr ⟨cs, rfl, by omega, hP⟩
    | succ k ih =>
      intro i cs e hl hP
      rw [List.range'_succ, List.map_cons]
      unfold compA
      rw [sat_bind]
      refine (hf i (by omega)).imp fun o ⟨c, ho, hc⟩ => ?_
      subst ho
      simp only
      rw [if_pos (by rw [List.length_map]; omega)]
      have := ih (i + 1) (cs ++ [c]) (by omega) (by simp [hl]) fun j hj => by
        by_cases h : j < cs.length
        · rw [List.getElem_append_left h]; exact hP j h
        · have : j = cs.length := by simp at hj; omega
          subst this
          simp [hl]; exact hc
      rw [List.map_append, List.map_singleton] at this
      exact this
  have := key n 0 [] (by omega) rfl fun j h => absurd h (by simp)
  rw [rng, List.range_eq_range']
  exact this
theorem cards_spec {n : Nat} {N T : List Nd} (hN : Nest n N T) (hc : NoCyc T) (hn : n ≤ 1000) (hNl : N.length ≤ 1000000) : (m_law_cards (encNs N) (.int n)).Sat fun r => ∃ cs, r = bl2 cs ∧ BookOK n cs := by
  unfold m_law_cards
  simp only [okb, sat_bind, sat_ok, fin_nx, fin_bk, fin_rt, ctlp_nx, ctlp_bk, ctlp_rt, add_int, sub_int, neg_int, lt_int, le_int, gt_int, ge_int, eq_int, ne_int, bool_bl, toInt_int, abs_int, len_lst, len_tup, len_scr, isl_lst, list_lst, list_tup, items_lst, items_tup, scal_int, scal_bl, scal_non, part_int, mkT0, mkT1, mkT2, mkT3, mkL0, mkL1, mkL2, mkL3, idx_l0, idx_l1, idx_l2, idx_t0, idx_t1, idx_t2, set_l0, set_l2, decide_true, decide_false, if_true, if_false, Bool.false_eq_true, Bool.not_true, Bool.not_false, List.length_map, isin_il, isin_it, notin_il, notin_it, encN, rng1_nat (n := n) (by omega)]
  refine (compA_ex (P := fun i c => CardOK n i c) (by omega) fun i hi => ?_).imp fun ys ⟨cs, e, h⟩ => ?_
  · simp only [okb, sat_bind, sat_ok, fin_nx, fin_bk, fin_rt, ctlp_nx, ctlp_bk, ctlp_rt, add_int, sub_int, neg_int, lt_int, le_int, gt_int, ge_int, eq_int, ne_int, bool_bl, toInt_int, abs_int, len_lst, len_tup, len_scr, isl_lst, list_lst, list_tup, items_lst, items_tup, scal_int, scal_bl, scal_non, part_int, mkT0, mkT1, mkT2, mkT3, mkL0, mkL1, mkL2, mkL3, idx_l0, idx_l1, idx_l2, idx_t0, idx_t1, idx_t2, set_l0, set_l2, decide_true, decide_false, if_true, if_false, Bool.false_eq_true, Bool.not_true, Bool.not_false, List.length_map, isin_il, isin_it, notin_il, notin_it, encN]
    refine (card_spec hN hc hNl hi).imp fun r ⟨c, e, h⟩ => ?_
    exact ⟨c, by rw [e], h⟩
  · subst e
    exact ⟨cs, rfl, h⟩

/-! ### other books -/
theorem erase_perm {A : Type} : ∀ (xs : List A) (k : Nat) (h : k < xs.length), (xs[k] :: xs.eraseIdx k).Perm xs
  | x :: r, 0, _ => .refl _
  | x :: r, k + 1, h => by
    have := erase_perm r k (by simpa using h)
    exact (List.Perm.swap x (r[k]'(by simpa using h)) _).trans (this.cons x)
theorem app_bl2 {cs : List (List Int)} {c : List Int} (h : cs.length < 16777216) : U.app (bl2 cs) (il c) = .ok (bl2 (cs ++ [c])) := by
  rw [bl2, U.app_lst (by simpa using h)]; simp
theorem idx_bl2 {cs : List (List Int)} {k : Nat} (h : k < cs.length) : U.idx (bl2 cs) (.int (k : Int)) = .ok (il cs[k]) := by
  have := idx_nat (us := cs.map il) (k := k) (by simpa using h)
  simpa using this
theorem book_snoc {n : Nat} {cs : List (List Int)} {c : List Int} (h : ∀ (i : Nat) (h : i < cs.length), CardOK n i cs[i]) (hc : CardOK n cs.length c) : ∀ (i : Nat) (h : i < (cs ++ [c]).length), CardOK n i (cs ++ [c])[i] := by
  intro j hj
  by_cases e : j < cs.length
  · rw [List.getElem_append_left e]; exact h j e
  · have : j = cs.length := by simp at hj; omega
    subst this
    simp; exact hc
def BookP (n : Nat) (r : U × U) : Prop := GoodS r.2 ∧ ∃ cs, r.1 = bl2 cs ∧ BookOK n cs
theorem book_spec {s : U} (hs : GoodS s) {n : Nat} (h0 : 0 < n) (hn : n ≤ 1000) : (m_law_book s (.int n)).Sat (BookP n) := by
  unfold m_law_book
  simp only [okb, sat_bind, sat_ok, fin_nx, fin_bk, fin_rt, ctlp_nx, ctlp_bk, ctlp_rt, add_int, sub_int, neg_int, lt_int, le_int, gt_int, ge_int, eq_int, ne_int, bool_bl, toInt_int, abs_int, len_lst, len_tup, len_scr, isl_lst, list_lst, list_tup, items_lst, items_tup, scal_int, scal_bl, scal_non, part_int, mkT0, mkT1, mkT2, mkT3, mkL0, mkL1, mkL2, mkL3, idx_l0, idx_l1, idx_l2, idx_t0, idx_t1, idx_t2, set_l0, set_l2, decide_true, decide_false, if_true, if_false, Bool.false_eq_true, Bool.not_true, Bool.not_false, List.length_map, isin_il, isin_it, notin_il, notin_it, encN, rng1_nat (n := n) (by omega)]
  refine (forR_rng (fun i s => GoodS s.1 ∧ ∃ cs, s.2 = bl2 cs ∧ cs.length = i ∧ ∀ (i : Nat) (h : i < cs.length), CardOK n i cs[i]) (fun _ => False) (fun _ => False) ⟨hs, [], rfl, rfl, fun j h => absurd h (by simp)⟩ fun i s hi h => ?_).imp fun c hc => ?_
  · obtain ⟨s1, s2⟩ := s
    obtain ⟨hs1, cs, e, hl, hP⟩ := h
    simp only at e hs1
    subst e
    unfold m_law_book_loop1
    have e1 : (n : Int) - 1 = ((n - 1 : Nat) : Int) := by omega
    simp only [okb, sat_bind, sat_ok, fin_nx, fin_bk, fin_rt, ctlp_nx, ctlp_bk, ctlp_rt, add_int, sub_int, neg_int, lt_int, le_int, gt_int, ge_int, eq_int, ne_int, bool_bl, toInt_int, abs_int, len_lst, len_tup, len_scr, isl_lst, list_lst, list_tup, items_lst, items_tup, scal_int, scal_bl, scal_non, part_int, mkT0, mkT1, mkT2, mkT3, mkL0, mkL1, mkL2, mkL3, idx_l0, idx_l1, idx_l2, idx_t0, idx_t1, idx_t2, set_l0, set_l2, decide_true, decide_false, if_true, if_false, Bool.false_eq_true, Bool.not_true, Bool.not_false, List.length_map, isin_il, isin_it, notin_il, notin_it, encN, rng1_nat (n := n) (by omega), e1, rng1_nat (n := n - 1) (by omega)]
    rw [filt_rng (p := fun (j : Nat) => !decide ((j : Int) = (i : Int))) (by omega) ?_]
    · generalize hout : rf n (fun (j : Nat) => !decide ((j : Int) = (i : Int))) = L0
      have hL0 : L0.Nodup ∧ ∀ e ∈ L0, (0 ≤ e ∧ e < (n : Int)) ∧ e ≠ (i : Int) := by
        rw [← hout]
        refine ⟨rf_nodup, fun e he => ?_⟩
        obtain ⟨j, h1, h2, h3⟩ := mem_rf.mp he
        simp only [Bool.not_eq_true', decide_eq_false_iff_not] at h2
        rw [h3]
        exact ⟨by omega, h2⟩
      simp only [okb, sat_bind, sat_ok, fin_nx, fin_bk, fin_rt, ctlp_nx, ctlp_bk, ctlp_rt, add_int, sub_int, neg_int, lt_int, le_int, gt_int, ge_int, eq_int, ne_int, bool_bl, toInt_int, abs_int, len_lst, len_tup, len_scr, isl_lst, list_lst, list_tup, items_lst, items_tup, scal_int, scal_bl, scal_non, part_int, mkT0, mkT1, mkT2, mkT3, mkL0, mkL1, mkL2, mkL3, idx_l0, idx_l1, idx_l2, idx_t0, idx_t1, idx_t2, set_l0, set_l2, decide_true, decide_false, if_true, if_false, Bool.false_eq_true, Bool.not_true, Bool.not_false, List.length_map, isin_il, isin_it, notin_il, notin_it, encN]
      let J : U × U × U → Prop := fun s => GoodS s.1 ∧ ∃ L C : List Int, s.2.1 = il L ∧ s.2.2 = il C ∧ (C ++ L).Nodup ∧ ∀ e ∈ C ++ L, (0 ≤ e ∧ e < (n : Int)) ∧ e ≠ (i : Int)
      have hJ0 : J (s1, il L0, .lst []) := ⟨hs1, L0, [], rfl, rfl, hL0.1, hL0.2⟩
      refine (forR_rng (f := m_law_book_loop2) (n := n - 1) (fun _ s => J s) J (fun _ => False) hJ0 fun t s ht h => ?_).imp fun c hc => ?_
      · obtain ⟨s1, s2, s3⟩ := s
        obtain ⟨hs, L, C, e1, e2, hnd, hr⟩ := h
        simp only at hs e1 e2
        subst e1
        subst e2
        have hlen := int_len hnd fun x hx => (hr x hx).1
        rw [List.length_append] at hlen
        unfold m_law_book_loop2
        have ec : (L.length : Int) + 1 = ((L.length + 1 : Nat) : Int) := by omega
        simp only [okb, sat_bind, sat_ok, fin_nx, fin_bk, fin_rt, ctlp_nx, ctlp_bk, ctlp_rt, add_int, sub_int, neg_int, lt_int, le_int, gt_int, ge_int, eq_int, ne_int, bool_bl, toInt_int, abs_int, len_lst, len_tup, len_scr, isl_lst, list_lst, list_tup, items_lst, items_tup, scal_int, scal_bl, scal_non, part_int, mkT0, mkT1, mkT2, mkT3, mkL0, mkL1, mkL2, mkL3, idx_l0, idx_l1, idx_l2, idx_t0, idx_t1, idx_t2, set_l0, set_l2, decide_true, decide_false, if_true, if_false, Bool.false_eq_true, Bool.not_true, Bool.not_false, List.length_map, isin_il, isin_it, notin_il, notin_it, encN, ec]
        refine (draw_spec hs (n := L.length + 1) (by omega) (by omega)).imp fun ⟨x, s2⟩ ⟨k, hk, e, hs2⟩ => ?_
        simp only at e hs2 ⊢
        subst e
        simp only [okb, sat_bind, sat_ok, fin_nx, fin_bk, fin_rt, ctlp_nx, ctlp_bk, ctlp_rt, add_int, sub_int, neg_int, lt_int, le_int, gt_int, ge_int, eq_int, ne_int, bool_bl, toInt_int, abs_int, len_lst, len_tup, len_scr, isl_lst, list_lst, list_tup, items_lst, items_tup, scal_int, scal_bl, scal_non, part_int, mkT0, mkT1, mkT2, mkT3, mkL0, mkL1, mkL2, mkL3, idx_l0, idx_l1, idx_l2, idx_t0, idx_t1, idx_t2, set_l0, set_l2, decide_true, decide_false, if_true, if_false, Bool.false_eq_true, Bool.not_true, Bool.not_false, List.length_map, isin_il, isin_it, notin_il, notin_it, encN]
        by_cases hkl : (k : Int) = (L.length : Int)
        · simp only [okb, sat_bind, sat_ok, fin_nx, fin_bk, fin_rt, ctlp_nx, ctlp_bk, ctlp_rt, add_int, sub_int, neg_int, lt_int, le_int, gt_int, ge_int, eq_int, ne_int, bool_bl, toInt_int, abs_int, len_lst, len_tup, len_scr, isl_lst, list_lst, list_tup, items_lst, items_tup, scal_int, scal_bl, scal_non, part_int, mkT0, mkT1, mkT2, mkT3, mkL0, mkL1, mkL2, mkL3, idx_l0, idx_l1, idx_l2, idx_t0, idx_t1, idx_t2, set_l0, set_l2, decide_true, decide_false, if_true, if_false, Bool.false_eq_true, Bool.not_true, Bool.not_false, List.length_map, isin_il, isin_it, notin_il, notin_it, encN, hkl]
          exact ⟨hs2, L, C, rfl, rfl, hnd, hr⟩
        · have hk' : k < L.length := by omega
          simp only [okb, sat_bind, sat_ok, fin_nx, fin_bk, fin_rt, ctlp_nx, ctlp_bk, ctlp_rt, add_int, sub_int, neg_int, lt_int, le_int, gt_int, ge_int, eq_int, ne_int, bool_bl, toInt_int, abs_int, len_lst, len_tup, len_scr, isl_lst, list_lst, list_tup, items_lst, items_tup, scal_int, scal_bl, scal_non, part_int, mkT0, mkT1, mkT2, mkT3, mkL0, mkL1, mkL2, mkL3, idx_l0, idx_l1, idx_l2, idx_t0, idx_t1, idx_t2, set_l0, set_l2, decide_true, decide_false, if_true, if_false, Bool.false_eq_true, Bool.not_true, Bool.not_false, List.length_map, isin_il, isin_it, notin_il, notin_it, encN, hkl]
          rw [pop_il hk' (by omega)]
          simp only [okb, sat_bind, sat_ok, fin_nx, fin_bk, fin_rt, ctlp_nx, ctlp_bk, ctlp_rt, add_int, sub_int, neg_int, lt_int, le_int, gt_int, ge_int, eq_int, ne_int, bool_bl, toInt_int, abs_int, len_lst, len_tup, len_scr, isl_lst, list_lst, list_tup, items_lst, items_tup, scal_int, scal_bl, scal_non, part_int, mkT0, mkT1, mkT2, mkT3, mkL0, mkL1, mkL2, mkL3, idx_l0, idx_l1, idx_l2, idx_t0, idx_t1, idx_t2, set_l0, set_l2, decide_true, decide_false, if_true, if_false, Bool.false_eq_true, Bool.not_true, Bool.not_false, List.length_map, isin_il, isin_it, notin_il, notin_it, encN]
          rw [app_il (by omega)]
          simp only [okb, sat_bind, sat_ok, fin_nx, fin_bk, fin_rt, ctlp_nx, ctlp_bk, ctlp_rt, add_int, sub_int, neg_int, lt_int, le_int, gt_int, ge_int, eq_int, ne_int, bool_bl, toInt_int, abs_int, len_lst, len_tup, len_scr, isl_lst, list_lst, list_tup, items_lst, items_tup, scal_int, scal_bl, scal_non, part_int, mkT0, mkT1, mkT2, mkT3, mkL0, mkL1, mkL2, mkL3, idx_l0, idx_l1, idx_l2, idx_t0, idx_t1, idx_t2, set_l0, set_l2, decide_true, decide_false, if_true, if_false, Bool.false_eq_true, Bool.not_true, Bool.not_false, List.length_map, isin_il, isin_it, notin_il, notin_it, encN]
          have hp : ((C ++ [L[k]]) ++ L.eraseIdx k).Perm (C ++ L) := by
            rw [List.append_assoc]
            exact (erase_perm L k hk').append_left C
          exact ⟨hs2, _, _, rfl, rfl, hp.nodup_iff.mpr hnd, fun e he => hr e (hp.mem_iff.mp he)⟩
      · have hfin : ∀ s : U × U × U, J s → (U.app (bl2 cs) s.2.2).Sat fun b => GoodS s.1 ∧ ∃ cs, b = bl2 cs ∧ cs.length = i + 1 ∧ ∀ (i : Nat) (h : i < cs.length), CardOK n i cs[i] := by
          rintro ⟨s1, s2, s3⟩ ⟨hs, L, C, e1, e2, hnd, hr⟩
          simp only at hs e1 e2 ⊢
          subst e2
          rw [app_bl2 (by omega)]
          simp only [okb, sat_bind, sat_ok, fin_nx, fin_bk, fin_rt, ctlp_nx, ctlp_bk, ctlp_rt, add_int, sub_int, neg_int, lt_int, le_int, gt_int, ge_int, eq_int, ne_int, bool_bl, toInt_int, abs_int, len_lst, len_tup, len_scr, isl_lst, list_lst, list_tup, items_lst, items_tup, scal_int, scal_bl, scal_non, part_int, mkT0, mkT1, mkT2, mkT3, mkL0, mkL1, mkL2, mkL3, idx_l0, idx_l1, idx_l2, idx_t0, idx_t1, idx_t2, set_l0, set_l2, decide_true, decide_false, if_true, if_false, Bool.false_eq_true, Bool.not_true, Bool.not_false, List.length_map, isin_il, isin_it, notin_il, notin_it, encN]
          refine ⟨hs, _, rfl, by simp [hl], book_snoc hP ?_⟩
          rw [hl]
          exact ⟨(List.nodup_append.mp hnd).1, fun z => (hr _ (List.mem_append_left _ z)).2 rfl, fun e he => (hr e (List.mem_append_left _ he)).1⟩
        cases c with
        | nx s => simp only [okb, sat_bind, sat_ok, fin_nx, fin_bk, fin_rt, ctlp_nx, ctlp_bk, ctlp_rt, add_int, sub_int, neg_int, lt_int, le_int, gt_int, ge_int, eq_int, ne_int, bool_bl, toInt_int, abs_int, len_lst, len_tup, len_scr, isl_lst, list_lst, list_tup, items_lst, items_tup, scal_int, scal_bl, scal_non, part_int, mkT0, mkT1, mkT2, mkT3, mkL0, mkL1, mkL2, mkL3, idx_l0, idx_l1, idx_l2, idx_t0, idx_t1, idx_t2, set_l0, set_l2, decide_true, decide_false, if_true, if_false, Bool.false_eq_true, Bool.not_true, Bool.not_false, List.length_map, isin_il, isin_it, notin_il, notin_it, encN]; exact (hfin s hc).imp fun b hb => hb
        | bk s => simp only [okb, sat_bind, sat_ok, fin_nx, fin_bk, fin_rt, ctlp_nx, ctlp_bk, ctlp_rt, add_int, sub_int, neg_int, lt_int, le_int, gt_int, ge_int, eq_int, ne_int, bool_bl, toInt_int, abs_int, len_lst, len_tup, len_scr, isl_lst, list_lst, list_tup, items_lst, items_tup, scal_int, scal_bl, scal_non, part_int, mkT0, mkT1, mkT2, mkT3, mkL0, mkL1, mkL2, mkL3, idx_l0, idx_l1, idx_l2, idx_t0, idx_t1, idx_t2, set_l0, set_l2, decide_true, decide_false, if_true, if_false, Bool.false_eq_true, Bool.not_true, Bool.not_false, List.length_map, isin_il, isin_it, notin_il, notin_it, encN]; exact (hfin s hc).imp fun b hb => hb
        | rt r => exact hc.elim
    · intro j hj
      simp only [okb, sat_bind, sat_ok, fin_nx, fin_bk, fin_rt, ctlp_nx, ctlp_bk, ctlp_rt, add_int, sub_int, neg_int, lt_int, le_int, gt_int, ge_int, eq_int, ne_int, bool_bl, toInt_int, abs_int, len_lst, len_tup, len_scr, isl_lst, list_lst, list_tup, items_lst, items_tup, scal_int, scal_bl, scal_non, part_int, mkT0, mkT1, mkT2, mkT3, mkL0, mkL1, mkL2, mkL3, idx_l0, idx_l1, idx_l2, idx_t0, idx_t1, idx_t2, set_l0, set_l2, decide_true, decide_false, if_true, if_false, Bool.false_eq_true, Bool.not_true, Bool.not_false, List.length_map, isin_il, isin_it, notin_il, notin_it, encN]
      by_cases h : (j : Int) = (i : Int) <;> simp [h]
  · cases c with
    | nx s =>
      obtain ⟨a, cs, b, c, d⟩ := hc
      simp only [okb, sat_bind, sat_ok, fin_nx, fin_bk, fin_rt, ctlp_nx, ctlp_bk, ctlp_rt, add_int, sub_int, neg_int, lt_int, le_int, gt_int, ge_int, eq_int, ne_int, bool_bl, toInt_int, abs_int, len_lst, len_tup, len_scr, isl_lst, list_lst, list_tup, items_lst, items_tup, scal_int, scal_bl, scal_non, part_int, mkT0, mkT1, mkT2, mkT3, mkL0, mkL1, mkL2, mkL3, idx_l0, idx_l1, idx_l2, idx_t0, idx_t1, idx_t2, set_l0, set_l2, decide_true, decide_false, if_true, if_false, Bool.false_eq_true, Bool.not_true, Bool.not_false, List.length_map, isin_il, isin_it, notin_il, notin_it, encN]
      exact ⟨a, cs, b, c, d⟩
    | bk s => exact hc.elim
    | rt r => exact hc.elim
theorem card_len {n : Nat} {p : Int} {c : List Int} (h : CardOK n p c) : c.length ≤ n := int_len h.1 h.2.2
theorem card_perm {n : Nat} {p : Int} {c c' : List Int} (h : CardOK n p c) (hp : c'.Perm c) : CardOK n p c' := ⟨hp.nodup_iff.mpr h.1, fun z => h.2.1 (hp.mem_iff.mp z), fun e he => h.2.2 e (hp.mem_iff.mp he)⟩
theorem card_sub {n : Nat} {p : Int} {c c' : List Int} (h : CardOK n p c) (hp : c'.Sublist c) : CardOK n p c' := ⟨h.1.sublist hp, fun z => h.2.1 (hp.subset z), fun e he => h.2.2 e (hp.subset he)⟩
theorem swap_perm {c : List Int} {k : Nat} (hk : k + 1 < c.length) : ((c.take k ++ [c[k + 1], c[k]]) ++ c.drop (k + 2)).Perm c := by
  have e : c = c.take k ++ (c[k] :: c[k + 1] :: c.drop (k + 2)) := by
    rw [← List.drop_eq_getElem_cons hk, ← List.drop_eq_getElem_cons (by omega), List.take_append_drop]
  have : (c.take k ++ (c[k + 1] :: c[k] :: c.drop (k + 2))).Perm (c.take k ++ (c[k] :: c[k + 1] :: c.drop (k + 2))) := (List.Perm.swap _ _ _).append_left _
  rw [← e] at this
  rw [List.append_assoc]
  exact this
theorem bent_spec {s : U} (hs : GoodS s) {n : Nat} {cs : List (List Int)} (hB : BookOK n cs) (h0 : 0 < n) (hn : n ≤ 1000) : (m_law_bent s (bl2 cs)).Sat (BookP n) := by
  obtain ⟨hl, hC⟩ := hB
  unfold m_law_bent
  simp only [okb, sat_bind, sat_ok, fin_nx, fin_bk, fin_rt, ctlp_nx, ctlp_bk, ctlp_rt, add_int, sub_int, neg_int, lt_int, le_int, gt_int, ge_int, eq_int, ne_int, bool_bl, toInt_int, abs_int, len_lst, len_tup, len_scr, isl_lst, list_lst, list_tup, items_lst, items_tup, scal_int, scal_bl, scal_non, part_int, mkT0, mkT1, mkT2, mkT3, mkL0, mkL1, mkL2, mkL3, idx_l0, idx_l1, idx_l2, idx_t0, idx_t1, idx_t2, set_l0, set_l2, decide_true, decide_false, if_true, if_false, Bool.false_eq_true, Bool.not_true, Bool.not_false, List.length_map, isin_il, isin_it, notin_il, notin_it, encN, hl]
  refine (draw_spec hs (n := n) h0 (by omega)).imp fun ⟨x, s1⟩ ⟨p, hp, e, hs1⟩ => ?_
  simp only at e hs1 ⊢
  subst e
  have hp' : p < cs.length := by omega
  have hcard := hC p hp'
  generalize hcd : cs[p] = card at hcard
  have hclen := card_len hcard
  simp only [okb, sat_bind, sat_ok, fin_nx, fin_bk, fin_rt, ctlp_nx, ctlp_bk, ctlp_rt, add_int, sub_int, neg_int, lt_int, le_int, gt_int, ge_int, eq_int, ne_int, bool_bl, toInt_int, abs_int, len_lst, len_tup, len_scr, isl_lst, list_lst, list_tup, items_lst, items_tup, scal_int, scal_bl, scal_non, part_int, mkT0, mkT1, mkT2, mkT3, mkL0, mkL1, mkL2, mkL3, idx_l0, idx_l1, idx_l2, idx_t0, idx_t1, idx_t2, set_l0, set_l2, decide_true, decide_false, if_true, if_false, Bool.false_eq_true, Bool.not_true, Bool.not_false, List.length_map, isin_il, isin_it, notin_il, notin_it, encN, idx_bl2 hp', hcd]
  refine (draw_spec hs1 (n := 3) (by omega) (by omega)).imp fun ⟨x, s2⟩ ⟨kind, hk, e, hs2⟩ => ?_
  simp only at e hs2 ⊢
  subst e
  simp only [okb, sat_bind, sat_ok, fin_nx, fin_bk, fin_rt, ctlp_nx, ctlp_bk, ctlp_rt, add_int, sub_int, neg_int, lt_int, le_int, gt_int, ge_int, eq_int, ne_int, bool_bl, toInt_int, abs_int, len_lst, len_tup, len_scr, isl_lst, list_lst, list_tup, items_lst, items_tup, scal_int, scal_bl, scal_non, part_int, mkT0, mkT1, mkT2, mkT3, mkL0, mkL1, mkL2, mkL3, idx_l0, idx_l1, idx_l2, idx_t0, idx_t1, idx_t2, set_l0, set_l2, decide_true, decide_false, if_true, if_false, Bool.false_eq_true, Bool.not_true, Bool.not_false, List.length_map, isin_il, isin_it, notin_il, notin_it, encN]
  -- the end, for any good card
  have hend : ∀ (s3 : U) (c' : List Int), GoodS s3 → CardOK n p c' → ((U.rng1 (.int n)).Sat fun us => (forR (m_law_bent_loop1 (bl2 cs) (.int p) (il c')) us (.lst [])).Sat fun c => (Ctl.fin c (fun s218 => Res.ok (s218, s3)) (fun r => Res.ok r)).Sat (BookP n)) := by
    intro s3 c' hs3 hc'
    rw [rng1_nat (n := n) (by omega)]
    simp only [okb, sat_bind, sat_ok, fin_nx, fin_bk, fin_rt, ctlp_nx, ctlp_bk, ctlp_rt, add_int, sub_int, neg_int, lt_int, le_int, gt_int, ge_int, eq_int, ne_int, bool_bl, toInt_int, abs_int, len_lst, len_tup, len_scr, isl_lst, list_lst, list_tup, items_lst, items_tup, scal_int, scal_bl, scal_non, part_int, mkT0, mkT1, mkT2, mkT3, mkL0, mkL1, mkL2, mkL3, idx_l0, idx_l1, idx_l2, idx_t0, idx_t1, idx_t2, set_l0, set_l2, decide_true, decide_false, if_true, if_false, Bool.false_eq_true, Bool.not_true, Bool.not_false, List.length_map, isin_il, isin_it, notin_il, notin_it, encN]
    refine (forR_rng (f := m_law_bent_loop1 (bl2 cs) (.int p) (il c')) (n := n) (fun i s => ∃ ds, s = bl2 ds ∧ ds.length = i ∧ ∀ (i : Nat) (h : i < ds.length), CardOK n i ds[i]) (fun _ => False) (fun _ => False) ⟨[], rfl, rfl, fun j h => absurd h (by simp)⟩ fun i s hi h => ?_).imp fun c hc => ?_
    · obtain ⟨ds, rfl, hdl, hD⟩ := h
      unfold m_law_bent_loop1
      simp only [okb, sat_bind, sat_ok, fin_nx, fin_bk, fin_rt, ctlp_nx, ctlp_bk, ctlp_rt, add_int, sub_int, neg_int, lt_int, le_int, gt_int, ge_int, eq_int, ne_int, bool_bl, toInt_int, abs_int, len_lst, len_tup, len_scr, isl_lst, list_lst, list_tup, items_lst, items_tup, scal_int, scal_bl, scal_non, part_int, mkT0, mkT1, mkT2, mkT3, mkL0, mkL1, mkL2, mkL3, idx_l0, idx_l1, idx_l2, idx_t0, idx_t1, idx_t2, set_l0, set_l2, decide_true, decide_false, if_true, if_false, Bool.false_eq_true, Bool.not_true, Bool.not_false, List.length_map, isin_il, isin_it, notin_il, notin_it, encN]
      by_cases hip : (i : Int) = (p : Int)
      · simp only [okb, sat_bind, sat_ok, fin_nx, fin_bk, fin_rt, ctlp_nx, ctlp_bk, ctlp_rt, add_int, sub_int, neg_int, lt_int, le_int, gt_int, ge_int, eq_int, ne_int, bool_bl, toInt_int, abs_int, len_lst, len_tup, len_scr, isl_lst, list_lst, list_tup, items_lst, items_tup, scal_int, scal_bl, scal_non, part_int, mkT0, mkT1, mkT2, mkT3, mkL0, mkL1, mkL2, mkL3, idx_l0, idx_l1, idx_l2, idx_t0, idx_t1, idx_t2, set_l0, set_l2, decide_true, decide_false, if_true, if_false, Bool.false_eq_true, Bool.not_true, Bool.not_false, List.length_map, isin_il, isin_it, notin_il, notin_it, encN, hip]
        rw [app_bl2 (by omega)]
        simp only [okb, sat_bind, sat_ok, fin_nx, fin_bk, fin_rt, ctlp_nx, ctlp_bk, ctlp_rt, add_int, sub_int, neg_int, lt_int, le_int, gt_int, ge_int, eq_int, ne_int, bool_bl, toInt_int, abs_int, len_lst, len_tup, len_scr, isl_lst, list_lst, list_tup, items_lst, items_tup, scal_int, scal_bl, scal_non, part_int, mkT0, mkT1, mkT2, mkT3, mkL0, mkL1, mkL2, mkL3, idx_l0, idx_l1, idx_l2, idx_t0, idx_t1, idx_t2, set_l0, set_l2, decide_true, decide_false, if_true, if_false, Bool.false_eq_true, Bool.not_true, Bool.not_false, List.length_map, isin_il, isin_it, notin_il, notin_it, encN]
        refine ⟨_, rfl, by simp [hdl], book_snoc hD ?_⟩
        rw [hdl, hip]
        exact hc'
      · simp only [okb, sat_bind, sat_ok, fin_nx, fin_bk, fin_rt, ctlp_nx, ctlp_bk, ctlp_rt, add_int, sub_int, neg_int, lt_int, le_int, gt_int, ge_int, eq_int, ne_int, bool_bl, toInt_int, abs_int, len_lst, len_tup, len_scr, isl_lst, list_lst, list_tup, items_lst, items_tup, scal_int, scal_bl, scal_non, part_int, mkT0, mkT1, mkT2, mkT3, mkL0, mkL1, mkL2, mkL3, idx_l0, idx_l1, idx_l2, idx_t0, idx_t1, idx_t2, set_l0, set_l2, decide_true, decide_false, if_true, if_false, Bool.false_eq_true, Bool.not_true, Bool.not_false, List.length_map, isin_il, isin_it, notin_il, notin_it, encN, hip, idx_bl2 (cs := cs) (k := i) (by omega)]
        rw [app_bl2 (by omega)]
        simp only [okb, sat_bind, sat_ok, fin_nx, fin_bk, fin_rt, ctlp_nx, ctlp_bk, ctlp_rt, add_int, sub_int, neg_int, lt_int, le_int, gt_int, ge_int, eq_int, ne_int, bool_bl, toInt_int, abs_int, len_lst, len_tup, len_scr, isl_lst, list_lst, list_tup, items_lst, items_tup, scal_int, scal_bl, scal_non, part_int, mkT0, mkT1, mkT2, mkT3, mkL0, mkL1, mkL2, mkL3, idx_l0, idx_l1, idx_l2, idx_t0, idx_t1, idx_t2, set_l0, set_l2, decide_true, decide_false, if_true, if_false, Bool.false_eq_true, Bool.not_true, Bool.not_false, List.length_map, isin_il, isin_it, notin_il, notin_it, encN]
        refine ⟨_, rfl, by simp [hdl], book_snoc hD ?_⟩
        rw [hdl]
        exact hC i (by omega)
    · cases c with
      | nx s =>
        obtain ⟨ds, rfl, a, b⟩ := hc
        simp only [okb, sat_bind, sat_ok, fin_nx, fin_bk, fin_rt, ctlp_nx, ctlp_bk, ctlp_rt, add_int, sub_int, neg_int, lt_int, le_int, gt_int, ge_int, eq_int, ne_int, bool_bl, toInt_int, abs_int, len_lst, len_tup, len_scr, isl_lst, list_lst, list_tup, items_lst, items_tup, scal_int, scal_bl, scal_non, part_int, mkT0, mkT1, mkT2, mkT3, mkL0, mkL1, mkL2, mkL3, idx_l0, idx_l1, idx_l2, idx_t0, idx_t1, idx_t2, set_l0, set_l2, decide_true, decide_false, if_true, if_false, Bool.false_eq_true, Bool.not_true, Bool.not_false, List.length_map, isin_il, isin_it, notin_il, notin_it, encN]
        exact ⟨hs3, ds, rfl, a, b⟩
      | bk s => exact hc.elim
      | rt r => exact hc.elim
  by_cases hA : kind = 0 ∧ 1 < card.length
  · obtain ⟨hk0, hl1⟩ := hA
    have e1 : (kind : Int) = 0 := by omega
    have e2 : (1 : Int) < (card.length : Int) := by omega
    have e3 : (card.length : Int) - 1 = ((card.length - 1 : Nat) : Int) := by omega
    simp only [okb, sat_bind, sat_ok, fin_nx, fin_bk, fin_rt, ctlp_nx, ctlp_bk, ctlp_rt, add_int, sub_int, neg_int, lt_int, le_int, gt_int, ge_int, eq_int, ne_int, bool_bl, toInt_int, abs_int, len_lst, len_tup, len_scr, isl_lst, list_lst, list_tup, items_lst, items_tup, scal_int, scal_bl, scal_non, part_int, mkT0, mkT1, mkT2, mkT3, mkL0, mkL1, mkL2, mkL3, idx_l0, idx_l1, idx_l2, idx_t0, idx_t1, idx_t2, set_l0, set_l2, decide_true, decide_false, if_true, if_false, Bool.false_eq_true, Bool.not_true, Bool.not_false, List.length_map, isin_il, isin_it, notin_il, notin_it, encN, e1, e2, e3]
    refine (draw_spec hs2 (n := card.length - 1) (by omega) (by omega)).imp fun ⟨x, s3⟩ ⟨k, hk, e, hs3⟩ => ?_
    simp only at e hs3 ⊢
    subst e
    have e4 : (k : Int) + 1 = ((k + 1 : Nat) : Int) := by omega
    have e5 : (k : Int) + 2 = ((k + 2 : Nat) : Int) := by omega
    have hk1 : k + 1 < card.length := by omega
    have a1 := slice_to (xs := card) (k := k) (by omega)
    have a2 := slice_from (xs := card) (k := k + 2) (by omega)
    have a3 := idx_il (xs := card) (k := k) (by omega)
    have a4 := idx_il (xs := card) (k := k + 1) hk1
    have a5 : U.add (il (card.take k)) (.lst [.int card[k + 1], .int card[k]]) = .ok (il (card.take k ++ [card[k + 1], card[k]])) := by
      have := add_il (xs := card.take k) (ys := [card[k + 1], card[k]]) (by rw [List.length_take]; simp; omega)
      exact this
    have a6 := add_il (xs := card.take k ++ [card[k + 1], card[k]]) (ys := card.drop (k + 2)) (by rw [List.length_append, List.length_take, List.length_drop]; simp; omega)
    simp only [okb, sat_bind, sat_ok, fin_nx, fin_bk, fin_rt, ctlp_nx, ctlp_bk, ctlp_rt, add_int, sub_int, neg_int, lt_int, le_int, gt_int, ge_int, eq_int, ne_int, bool_bl, toInt_int, abs_int, len_lst, len_tup, len_scr, isl_lst, list_lst, list_tup, items_lst, items_tup, scal_int, scal_bl, scal_non, part_int, mkT0, mkT1, mkT2, mkT3, mkL0, mkL1, mkL2, mkL3, idx_l0, idx_l1, idx_l2, idx_t0, idx_t1, idx_t2, set_l0, set_l2, decide_true, decide_false, if_true, if_false, Bool.false_eq_true, Bool.not_true, Bool.not_false, List.length_map, isin_il, isin_it, notin_il, notin_it, encN, e4, e5, a1, a2, a3, a4, a5, a6]
    exact hend s3 _ hs3 (card_perm hcard (swap_perm hk1))
  · have hcond : (if decide ((kind : Int) = 0) = true then Res.ok (decide ((1 : Int) < (card.length : Int))) else Res.ok false) = Res.ok false := by
      by_cases e1 : kind = 0
      · have e2 : ¬ (1 : Int) < (card.length : Int) := fun z => hA ⟨e1, by omega⟩
        simp [e1]; omega
      · simp [e1]
    rw [hcond]
    simp only [okb, sat_bind, sat_ok, fin_nx, fin_bk, fin_rt, ctlp_nx, ctlp_bk, ctlp_rt, add_int, sub_int, neg_int, lt_int, le_int, gt_int, ge_int, eq_int, ne_int, bool_bl, toInt_int, abs_int, len_lst, len_tup, len_scr, isl_lst, list_lst, list_tup, items_lst, items_tup, scal_int, scal_bl, scal_non, part_int, mkT0, mkT1, mkT2, mkT3, mkL0, mkL1, mkL2, mkL3, idx_l0, idx_l1, idx_l2, idx_t0, idx_t1, idx_t2, set_l0, set_l2, decide_true, decide_false, if_true, if_false, Bool.false_eq_true, Bool.not_true, Bool.not_false, List.length_map, isin_il, isin_it, notin_il, notin_it, encN]
    by_cases e1 : (kind : Int) = 1
    · have ec : (card.length : Int) + 1 = ((card.length + 1 : Nat) : Int) := by omega
      simp only [okb, sat_bind, sat_ok, fin_nx, fin_bk, fin_rt, ctlp_nx, ctlp_bk, ctlp_rt, add_int, sub_int, neg_int, lt_int, le_int, gt_int, ge_int, eq_int, ne_int, bool_bl, toInt_int, abs_int, len_lst, len_tup, len_scr, isl_lst, list_lst, list_tup, items_lst, items_tup, scal_int, scal_bl, scal_non, part_int, mkT0, mkT1, mkT2, mkT3, mkL0, mkL1, mkL2, mkL3, idx_l0, idx_l1, idx_l2, idx_t0, idx_t1, idx_t2, set_l0, set_l2, decide_true, decide_false, if_true, if_false, Bool.false_eq_true, Bool.not_true, Bool.not_false, List.length_map, isin_il, isin_it, notin_il, notin_it, encN, e1, ec]
      refine (draw_spec hs2 (n := card.length + 1) (by omega) (by omega)).imp fun ⟨x, s3⟩ ⟨k, hk, e, hs3⟩ => ?_
      simp only at e hs3 ⊢
      subst e
      have a1 := slice_to (xs := card) (k := k) (by omega)
      simp only [okb, sat_bind, sat_ok, fin_nx, fin_bk, fin_rt, ctlp_nx, ctlp_bk, ctlp_rt, add_int, sub_int, neg_int, lt_int, le_int, gt_int, ge_int, eq_int, ne_int, bool_bl, toInt_int, abs_int, len_lst, len_tup, len_scr, isl_lst, list_lst, list_tup, items_lst, items_tup, scal_int, scal_bl, scal_non, part_int, mkT0, mkT1, mkT2, mkT3, mkL0, mkL1, mkL2, mkL3, idx_l0, idx_l1, idx_l2, idx_t0, idx_t1, idx_t2, set_l0, set_l2, decide_true, decide_false, if_true, if_false, Bool.false_eq_true, Bool.not_true, Bool.not_false, List.length_map, isin_il, isin_it, notin_il, notin_it, encN, a1]
      exact hend s3 _ hs3 (card_sub hcard (List.take_sublist _ _))
    · simp only [okb, sat_bind, sat_ok, fin_nx, fin_bk, fin_rt, ctlp_nx, ctlp_bk, ctlp_rt, add_int, sub_int, neg_int, lt_int, le_int, gt_int, ge_int, eq_int, ne_int, bool_bl, toInt_int, abs_int, len_lst, len_tup, len_scr, isl_lst, list_lst, list_tup, items_lst, items_tup, scal_int, scal_bl, scal_non, part_int, mkT0, mkT1, mkT2, mkT3, mkL0, mkL1, mkL2, mkL3, idx_l0, idx_l1, idx_l2, idx_t0, idx_t1, idx_t2, set_l0, set_l2, decide_true, decide_false, if_true, if_false, Bool.false_eq_true, Bool.not_true, Bool.not_false, List.length_map, isin_il, isin_it, notin_il, notin_it, encN, e1, rng1_nat (n := n) (by omega)]
      rw [filt_rng (p := fun (j : Nat) => !decide ((j : Int) = (p : Int)) && !decide ((j : Int) ∈ card)) (by omega) ?_]
      · generalize hout : rf n (fun (j : Nat) => !decide ((j : Int) = (p : Int)) && !decide ((j : Int) ∈ card)) = L
        have hL : ∀ e ∈ L, (0 ≤ e ∧ e < (n : Int)) ∧ e ≠ (p : Int) ∧ e ∉ card := by
          rw [← hout]
          intro e he
          obtain ⟨j, h1, h2, h3⟩ := mem_rf.mp he
          simp only [Bool.and_eq_true, Bool.not_eq_true', decide_eq_false_iff_not] at h2
          rw [h3]
          exact ⟨by omega, h2⟩
        have hLl : L.length ≤ n := by rw [← hout]; exact rf_len
        simp only [okb, sat_bind, sat_ok, fin_nx, fin_bk, fin_rt, ctlp_nx, ctlp_bk, ctlp_rt, add_int, sub_int, neg_int, lt_int, le_int, gt_int, ge_int, eq_int, ne_int, bool_bl, toInt_int, abs_int, len_lst, len_tup, len_scr, isl_lst, list_lst, list_tup, items_lst, items_tup, scal_int, scal_bl, scal_non, part_int, mkT0, mkT1, mkT2, mkT3, mkL0, mkL1, mkL2, mkL3, idx_l0, idx_l1, idx_l2, idx_t0, idx_t1, idx_t2, set_l0, set_l2, decide_true, decide_false, if_true, if_false, Bool.false_eq_true, Bool.not_true, Bool.not_false, List.length_map, isin_il, isin_it, notin_il, notin_it, encN]
        by_cases h0 : 0 < L.length
        · have h0' : (0 : Int) < (L.length : Int) := by omega
          simp only [okb, sat_bind, sat_ok, fin_nx, fin_bk, fin_rt, ctlp_nx, ctlp_bk, ctlp_rt, add_int, sub_int, neg_int, lt_int, le_int, gt_int, ge_int, eq_int, ne_int, bool_bl, toInt_int, abs_int, len_lst, len_tup, len_scr, isl_lst, list_lst, list_tup, items_lst, items_tup, scal_int, scal_bl, scal_non, part_int, mkT0, mkT1, mkT2, mkT3, mkL0, mkL1, mkL2, mkL3, idx_l0, idx_l1, idx_l2, idx_t0, idx_t1, idx_t2, set_l0, set_l2, decide_true, decide_false, if_true, if_false, Bool.false_eq_true, Bool.not_true, Bool.not_false, List.length_map, isin_il, isin_it, notin_il, notin_it, encN, h0']
          refine (draw_spec hs2 (n := L.length) h0 (by omega)).imp fun ⟨x, s3⟩ ⟨k, hk, e, hs3⟩ => ?_
          simp only at e hs3 ⊢
          subst e
          have a1 := idx_il (xs := L) (k := k) hk
          have a2 : U.add (il card) (.lst [.int L[k]]) = .ok (il (card ++ [L[k]])) := add_il (xs := card) (ys := [L[k]]) (by simp; omega)
          simp only [okb, sat_bind, sat_ok, fin_nx, fin_bk, fin_rt, ctlp_nx, ctlp_bk, ctlp_rt, add_int, sub_int, neg_int, lt_int, le_int, gt_int, ge_int, eq_int, ne_int, bool_bl, toInt_int, abs_int, len_lst, len_tup, len_scr, isl_lst, list_lst, list_tup, items_lst, items_tup, scal_int, scal_bl, scal_non, part_int, mkT0, mkT1, mkT2, mkT3, mkL0, mkL1, mkL2, mkL3, idx_l0, idx_l1, idx_l2, idx_t0, idx_t1, idx_t2, set_l0, set_l2, decide_true, decide_false, if_true, if_false, Bool.false_eq_true, Bool.not_true, Bool.not_false, List.length_map, isin_il, isin_it, notin_il, notin_it, encN, a1, a2]
          have := hL _ (List.getElem_mem hk)
          have hz := fun hq : CardOK n p (card ++ [L[k]]) => hend s3 _ hs3 hq
          simp only [rng1_nat (n := n) (show n ≤ 16777216 by omega), sat_ok] at hz
          refine hz ⟨List.nodup_append.mpr ⟨hcard.1, by simp, fun a ha b hb e => ?_⟩, fun z => ?_, fun e he => ?_⟩
          · rw [List.mem_singleton.mp hb] at e
            exact this.2.2 (e ▸ ha)
          · rcases List.mem_append.mp z with q | q
            · exact hcard.2.1 q
            · exact this.2.1 (List.mem_singleton.mp q).symm
          · rcases List.mem_append.mp he with q | q
            · exact hcard.2.2 e q
            · rw [List.mem_singleton.mp q]; exact this.1
        · have h0' : ¬ (0 : Int) < (L.length : Int) := by omega
          simp only [okb, sat_bind, sat_ok, fin_nx, fin_bk, fin_rt, ctlp_nx, ctlp_bk, ctlp_rt, add_int, sub_int, neg_int, lt_int, le_int, gt_int, ge_int, eq_int, ne_int, bool_bl, toInt_int, abs_int, len_lst, len_tup, len_scr, isl_lst, list_lst, list_tup, items_lst, items_tup, scal_int, scal_bl, scal_non, part_int, mkT0, mkT1, mkT2, mkT3, mkL0, mkL1, mkL2, mkL3, idx_l0, idx_l1, idx_l2, idx_t0, idx_t1, idx_t2, set_l0, set_l2, decide_true, decide_false, if_true, if_false, Bool.false_eq_true, Bool.not_true, Bool.not_false, List.length_map, isin_il, isin_it, notin_il, notin_it, encN, h0']
          have hz := hend s2 card hs2 hcard
          simp only [rng1_nat (n := n) (show n ≤ 16777216 by omega), sat_ok] at hz
          exact hz
      · intro j hj
        simp only [okb, sat_bind, sat_ok, fin_nx, fin_bk, fin_rt, ctlp_nx, ctlp_bk, ctlp_rt, add_int, sub_int, neg_int, lt_int, le_int, gt_int, ge_int, eq_int, ne_int, bool_bl, toInt_int, abs_int, len_lst, len_tup, len_scr, isl_lst, list_lst, list_tup, items_lst, items_tup, scal_int, scal_bl, scal_non, part_int, mkT0, mkT1, mkT2, mkT3, mkL0, mkL1, mkL2, mkL3, idx_l0, idx_l1, idx_l2, idx_t0, idx_t1, idx_t2, set_l0, set_l2, decide_true, decide_false, if_true, if_false, Bool.false_eq_true, Bool.not_true, Bool.not_false, List.length_map, isin_il, isin_it, notin_il, notin_it, encN]
        by_cases h : (j : Int) = (p : Int)
        · simp [h]
        · by_cases h2 : (j : Int) ∈ card <;> simp [h, h2]
theorem some_book_spec {s : U} (hs : GoodS s) {n : Nat} (h0 : 0 < n) (hn : n ≤ 1000) : (m_law_some_book s (.int n)).Sat (BookP n) := by
  unfold m_law_some_book
  simp only [okb, sat_bind, sat_ok, fin_nx, fin_bk, fin_rt, ctlp_nx, ctlp_bk, ctlp_rt, add_int, sub_int, neg_int, lt_int, le_int, gt_int, ge_int, eq_int, ne_int, bool_bl, toInt_int, abs_int, len_lst, len_tup, len_scr, isl_lst, list_lst, list_tup, items_lst, items_tup, scal_int, scal_bl, scal_non, part_int, mkT0, mkT1, mkT2, mkT3, mkL0, mkL1, mkL2, mkL3, idx_l0, idx_l1, idx_l2, idx_t0, idx_t1, idx_t2, set_l0, set_l2, decide_true, decide_false, if_true, if_false, Bool.false_eq_true, Bool.not_true, Bool.not_false, List.length_map, isin_il, isin_it, notin_il, notin_it, encN]
  refine (draw_spec hs (n := 3) (by omega) (by omega)).imp fun ⟨x, s1⟩ ⟨kind, hk, e, hs1⟩ => ?_
  simp only at e hs1 ⊢
  subst e
  simp only [okb, sat_bind, sat_ok, fin_nx, fin_bk, fin_rt, ctlp_nx, ctlp_bk, ctlp_rt, add_int, sub_int, neg_int, lt_int, le_int, gt_int, ge_int, eq_int, ne_int, bool_bl, toInt_int, abs_int, len_lst, len_tup, len_scr, isl_lst, list_lst, list_tup, items_lst, items_tup, scal_int, scal_bl, scal_non, part_int, mkT0, mkT1, mkT2, mkT3, mkL0, mkL1, mkL2, mkL3, idx_l0, idx_l1, idx_l2, idx_t0, idx_t1, idx_t2, set_l0, set_l2, decide_true, decide_false, if_true, if_false, Bool.false_eq_true, Bool.not_true, Bool.not_false, List.length_map, isin_il, isin_it, notin_il, notin_it, encN]
  by_cases h : (kind : Int) = 0
  · simp only [okb, sat_bind, sat_ok, fin_nx, fin_bk, fin_rt, ctlp_nx, ctlp_bk, ctlp_rt, add_int, sub_int, neg_int, lt_int, le_int, gt_int, ge_int, eq_int, ne_int, bool_bl, toInt_int, abs_int, len_lst, len_tup, len_scr, isl_lst, list_lst, list_tup, items_lst, items_tup, scal_int, scal_bl, scal_non, part_int, mkT0, mkT1, mkT2, mkT3, mkL0, mkL1, mkL2, mkL3, idx_l0, idx_l1, idx_l2, idx_t0, idx_t1, idx_t2, set_l0, set_l2, decide_true, decide_false, if_true, if_false, Bool.false_eq_true, Bool.not_true, Bool.not_false, List.length_map, isin_il, isin_it, notin_il, notin_it, encN, h]
    exact (book_spec hs1 h0 hn).imp fun a ha => ha
  · simp only [okb, sat_bind, sat_ok, fin_nx, fin_bk, fin_rt, ctlp_nx, ctlp_bk, ctlp_rt, add_int, sub_int, neg_int, lt_int, le_int, gt_int, ge_int, eq_int, ne_int, bool_bl, toInt_int, abs_int, len_lst, len_tup, len_scr, isl_lst, list_lst, list_tup, items_lst, items_tup, scal_int, scal_bl, scal_non, part_int, mkT0, mkT1, mkT2, mkT3, mkL0, mkL1, mkL2, mkL3, idx_l0, idx_l1, idx_l2, idx_t0, idx_t1, idx_t2, set_l0, set_l2, decide_true, decide_false, if_true, if_false, Bool.false_eq_true, Bool.not_true, Bool.not_false, List.length_map, isin_il, isin_it, notin_il, notin_it, encN, h]
    refine (nest_spec hs1 h0 hn false).imp fun ⟨x, s2⟩ ⟨hs2, N, T, e, hN, hc, hl⟩ => ?_
    simp only at e hs2 ⊢
    subst e
    refine (cards_spec hN hc hn (by omega)).imp fun b ⟨cs, e, hB⟩ => ?_
    subst e
    by_cases h1 : (kind : Int) = 1
    · simp only [okb, sat_bind, sat_ok, fin_nx, fin_bk, fin_rt, ctlp_nx, ctlp_bk, ctlp_rt, add_int, sub_int, neg_int, lt_int, le_int, gt_int, ge_int, eq_int, ne_int, bool_bl, toInt_int, abs_int, len_lst, len_tup, len_scr, isl_lst, list_lst, list_tup, items_lst, items_tup, scal_int, scal_bl, scal_non, part_int, mkT0, mkT1, mkT2, mkT3, mkL0, mkL1, mkL2, mkL3, idx_l0, idx_l1, idx_l2, idx_t0, idx_t1, idx_t2, set_l0, set_l2, decide_true, decide_false, if_true, if_false, Bool.false_eq_true, Bool.not_true, Bool.not_false, List.length_map, isin_il, isin_it, notin_il, notin_it, encN, h1]
      exact ⟨hs2, cs, rfl, hB⟩
    · simp only [okb, sat_bind, sat_ok, fin_nx, fin_bk, fin_rt, ctlp_nx, ctlp_bk, ctlp_rt, add_int, sub_int, neg_int, lt_int, le_int, gt_int, ge_int, eq_int, ne_int, bool_bl, toInt_int, abs_int, len_lst, len_tup, len_scr, isl_lst, list_lst, list_tup, items_lst, items_tup, scal_int, scal_bl, scal_non, part_int, mkT0, mkT1, mkT2, mkT3, mkL0, mkL1, mkL2, mkL3, idx_l0, idx_l1, idx_l2, idx_t0, idx_t1, idx_t2, set_l0, set_l2, decide_true, decide_false, if_true, if_false, Bool.false_eq_true, Bool.not_true, Bool.not_false, List.length_map, isin_il, isin_it, notin_il, notin_it, encN, h1]
      exact (bent_spec hs2 hB h0 hn).imp fun a ha => ha
def SetP (n : Nat) (r : U × U) : Prop := GoodS r.2 ∧ ∃ xs : List Int, r.1 = il xs ∧ xs.Nodup ∧ ∀ x ∈ xs, 0 ≤ x ∧ x < (n : Int)
theorem set_spec {s : U} (hs : GoodS s) {n : Nat} (hn : n ≤ 1000) : (m_law_set s (.int n)).Sat (SetP n) := by
  unfold m_law_set
  simp only [okb, sat_bind, sat_ok, fin_nx, fin_bk, fin_rt, ctlp_nx, ctlp_bk, ctlp_rt, add_int, sub_int, neg_int, lt_int, le_int, gt_int, ge_int, eq_int, ne_int, bool_bl, toInt_int, abs_int, len_lst, len_tup, len_scr, isl_lst, list_lst, list_tup, items_lst, items_tup, scal_int, scal_bl, scal_non, part_int, mkT0, mkT1, mkT2, mkT3, mkL0, mkL1, mkL2, mkL3, idx_l0, idx_l1, idx_l2, idx_t0, idx_t1, idx_t2, set_l0, set_l2, decide_true, decide_false, if_true, if_false, Bool.false_eq_true, Bool.not_true, Bool.not_false, List.length_map, isin_il, isin_it, notin_il, notin_it, encN, rng1_nat (n := n) (by omega)]
  refine (compS_rng (fun i a s => GoodS s ∧ ∃ xs : List Int, a = xs.map U.int ∧ xs.Nodup ∧ ∀ x ∈ xs, 0 ≤ x ∧ x < (i : Int)) (by omega) (fun i a s h => ?_) ⟨hs, [], rfl, List.nodup_nil, by simp⟩ fun i a s hi h => ?_).imp fun ⟨a, s1⟩ h => ?_
  · obtain ⟨_, xs, rfl, h1, h2⟩ := h
    rw [List.length_map]
    exact int_len h1 h2
  · obtain ⟨hs, xs, rfl, h1, h2⟩ := h
    simp only [okb, sat_bind, sat_ok, fin_nx, fin_bk, fin_rt, ctlp_nx, ctlp_bk, ctlp_rt, add_int, sub_int, neg_int, lt_int, le_int, gt_int, ge_int, eq_int, ne_int, bool_bl, toInt_int, abs_int, len_lst, len_tup, len_scr, isl_lst, list_lst, list_tup, items_lst, items_tup, scal_int, scal_bl, scal_non, part_int, mkT0, mkT1, mkT2, mkT3, mkL0, mkL1, mkL2, mkL3, idx_l0, idx_l1, idx_l2, idx_t0, idx_t1, idx_t2, set_l0, set_l2, decide_true, decide_false, if_true, if_false, Bool.false_eq_true, Bool.not_true, Bool.not_false, List.length_map, isin_il, isin_it, notin_il, notin_it, encN]
    refine (draw_spec hs (n := 2) (by omega) (by omega)).imp fun ⟨x, s2⟩ ⟨k, hk, e, hs2⟩ => ?_
    simp only at e hs2 ⊢
    subst e
    simp only [okb, sat_bind, sat_ok, fin_nx, fin_bk, fin_rt, ctlp_nx, ctlp_bk, ctlp_rt, add_int, sub_int, neg_int, lt_int, le_int, gt_int, ge_int, eq_int, ne_int, bool_bl, toInt_int, abs_int, len_lst, len_tup, len_scr, isl_lst, list_lst, list_tup, items_lst, items_tup, scal_int, scal_bl, scal_non, part_int, mkT0, mkT1, mkT2, mkT3, mkL0, mkL1, mkL2, mkL3, idx_l0, idx_l1, idx_l2, idx_t0, idx_t1, idx_t2, set_l0, set_l2, decide_true, decide_false, if_true, if_false, Bool.false_eq_true, Bool.not_true, Bool.not_false, List.length_map, isin_il, isin_it, notin_il, notin_it, encN]
    by_cases h : (k : Int) = 1
    · simp only [okb, sat_bind, sat_ok, fin_nx, fin_bk, fin_rt, ctlp_nx, ctlp_bk, ctlp_rt, add_int, sub_int, neg_int, lt_int, le_int, gt_int, ge_int, eq_int, ne_int, bool_bl, toInt_int, abs_int, len_lst, len_tup, len_scr, isl_lst, list_lst, list_tup, items_lst, items_tup, scal_int, scal_bl, scal_non, part_int, mkT0, mkT1, mkT2, mkT3, mkL0, mkL1, mkL2, mkL3, idx_l0, idx_l1, idx_l2, idx_t0, idx_t1, idx_t2, set_l0, set_l2, decide_true, decide_false, if_true, if_false, Bool.false_eq_true, Bool.not_true, Bool.not_false, List.length_map, isin_il, isin_it, notin_il, notin_it, encN, h]
      refine ⟨hs2, xs ++ [(i : Int)], by simp, List.nodup_append.mpr ⟨h1, by simp, fun a ha b hb e => ?_⟩, fun x hx => ?_⟩
      · rw [List.mem_singleton.mp hb] at e
        have := h2 a ha
        omega
      · rcases List.mem_append.mp hx with z | z
        · have := h2 x z; omega
        · rw [List.mem_singleton.mp z]; omega
    · simp only [okb, sat_bind, sat_ok, fin_nx, fin_bk, fin_rt, ctlp_nx, ctlp_bk, ctlp_rt, add_int, sub_int, neg_int, lt_int, le_int, gt_int, ge_int, eq_int, ne_int, bool_bl, toInt_int, abs_int, len_lst, len_tup, len_scr, isl_lst, list_lst, list_tup, items_lst, items_tup, scal_int, scal_bl, scal_non, part_int, mkT0, mkT1, mkT2, mkT3, mkL0, mkL1, mkL2, mkL3, idx_l0, idx_l1, idx_l2, idx_t0, idx_t1, idx_t2, set_l0, set_l2, decide_true, decide_false, if_true, if_false, Bool.false_eq_true, Bool.not_true, Bool.not_false, List.length_map, isin_il, isin_it, notin_il, notin_it, encN, h]
      exact ⟨hs2, xs, rfl, h1, fun x hx => by have := h2 x hx; omega⟩
  · obtain ⟨hs1, xs, e, h1, h2⟩ := h
    simp only at e hs1 ⊢
    subst e
    exact ⟨hs1, xs, rfl, h1, h2⟩
theorem order_spec {s : U} (hs : GoodS s) {n : Nat} {xs : List Int} (hn : xs.Nodup) (hr : ∀ x ∈ xs, 0 ≤ x ∧ x < (n : Int)) (hnn : n ≤ 1000) : (m_law_order s (il xs)).Sat (SetP n) := by
  have hxl := int_len hn hr
  unfold m_law_order
  simp only [okb, sat_bind, sat_ok, fin_nx, fin_bk, fin_rt, ctlp_nx, ctlp_bk, ctlp_rt, add_int, sub_int, neg_int, lt_int, le_int, gt_int, ge_int, eq_int, ne_int, bool_bl, toInt_int, abs_int, len_lst, len_tup, len_scr, isl_lst, list_lst, list_tup, items_lst, items_tup, scal_int, scal_bl, scal_non, part_int, mkT0, mkT1, mkT2, mkT3, mkL0, mkL1, mkL2, mkL3, idx_l0, idx_l1, idx_l2, idx_t0, idx_t1, idx_t2, set_l0, set_l2, decide_true, decide_false, if_true, if_false, Bool.false_eq_true, Bool.not_true, Bool.not_false, List.length_map, isin_il, isin_it, notin_il, notin_it, encN, rng1_nat (n := xs.length) (by omega)]
  refine (forR_rng (n := xs.length) (fun i s => GoodS s.1 ∧ ∃ L C : List Int, s.2.1 = il L ∧ s.2.2 = il C ∧ (C ++ L).Perm xs ∧ L.length + i = xs.length) (fun _ => False) (fun _ => False) ⟨hs, xs, [], rfl, rfl, .refl _, rfl⟩ fun i s hi h => ?_).imp fun c hc => ?_
  · obtain ⟨s1, s2, s3⟩ := s
    obtain ⟨hs1, L, C, e1, e2, hp, hl⟩ := h
    simp only at hs1 e1 e2
    subst e1
    subst e2
    have hcl := hp.length_eq
    rw [List.length_append] at hcl
    unfold m_law_order_loop1
    simp only [okb, sat_bind, sat_ok, fin_nx, fin_bk, fin_rt, ctlp_nx, ctlp_bk, ctlp_rt, add_int, sub_int, neg_int, lt_int, le_int, gt_int, ge_int, eq_int, ne_int, bool_bl, toInt_int, abs_int, len_lst, len_tup, len_scr, isl_lst, list_lst, list_tup, items_lst, items_tup, scal_int, scal_bl, scal_non, part_int, mkT0, mkT1, mkT2, mkT3, mkL0, mkL1, mkL2, mkL3, idx_l0, idx_l1, idx_l2, idx_t0, idx_t1, idx_t2, set_l0, set_l2, decide_true, decide_false, if_true, if_false, Bool.false_eq_true, Bool.not_true, Bool.not_false, List.length_map, isin_il, isin_it, notin_il, notin_it, encN]
    refine (draw_spec hs1 (n := L.length) (by omega) (by omega)).imp fun ⟨x, s4⟩ ⟨k, hk, e, hs4⟩ => ?_
    simp only at e hs4 ⊢
    subst e
    rw [pop_il hk (by omega)]
    simp only [okb, sat_bind, sat_ok, fin_nx, fin_bk, fin_rt, ctlp_nx, ctlp_bk, ctlp_rt, add_int, sub_int, neg_int, lt_int, le_int, gt_int, ge_int, eq_int, ne_int, bool_bl, toInt_int, abs_int, len_lst, len_tup, len_scr, isl_lst, list_lst, list_tup, items_lst, items_tup, scal_int, scal_bl, scal_non, part_int, mkT0, mkT1, mkT2, mkT3, mkL0, mkL1, mkL2, mkL3, idx_l0, idx_l1, idx_l2, idx_t0, idx_t1, idx_t2, set_l0, set_l2, decide_true, decide_false, if_true, if_false, Bool.false_eq_true, Bool.not_true, Bool.not_false, List.length_map, isin_il, isin_it, notin_il, notin_it, encN]
    rw [app_il (by omega)]
    simp only [okb, sat_bind, sat_ok, fin_nx, fin_bk, fin_rt, ctlp_nx, ctlp_bk, ctlp_rt, add_int, sub_int, neg_int, lt_int, le_int, gt_int, ge_int, eq_int, ne_int, bool_bl, toInt_int, abs_int, len_lst, len_tup, len_scr, isl_lst, list_lst, list_tup, items_lst, items_tup, scal_int, scal_bl, scal_non, part_int, mkT0, mkT1, mkT2, mkT3, mkL0, mkL1, mkL2, mkL3, idx_l0, idx_l1, idx_l2, idx_t0, idx_t1, idx_t2, set_l0, set_l2, decide_true, decide_false, if_true, if_false, Bool.false_eq_true, Bool.not_true, Bool.not_false, List.length_map, isin_il, isin_it, notin_il, notin_it, encN]
    refine ⟨hs4, _, _, rfl, rfl, ?_, by have := (erase_perm L k hk).length_eq; rw [List.length_cons] at this; omega⟩
    refine List.Perm.trans ?_ hp
    rw [List.append_assoc]
    exact (erase_perm L k hk).append_left C
  · cases c with
    | nx s =>
      obtain ⟨hs1, L, C, e1, e2, hp, hl⟩ := hc
      simp only [okb, sat_bind, sat_ok, fin_nx, fin_bk, fin_rt, ctlp_nx, ctlp_bk, ctlp_rt, add_int, sub_int, neg_int, lt_int, le_int, gt_int, ge_int, eq_int, ne_int, bool_bl, toInt_int, abs_int, len_lst, len_tup, len_scr, isl_lst, list_lst, list_tup, items_lst, items_tup, scal_int, scal_bl, scal_non, part_int, mkT0, mkT1, mkT2, mkT3, mkL0, mkL1, mkL2, mkL3, idx_l0, idx_l1, idx_l2, idx_t0, idx_t1, idx_t2, set_l0, set_l2, decide_true, decide_false, if_true, if_false, Bool.false_eq_true, Bool.not_true, Bool.not_false, List.length_map, isin_il, isin_it, notin_il, notin_it, encN]
      have : L = [] := List.length_eq_zero_iff.mp (by omega)
      subst this
      rw [List.append_nil] at hp
      exact ⟨hs1, C, e2, hp.nodup_iff.mpr hn, fun x hx => hr x (hp.mem_iff.mp hx)⟩
    | bk s => exact hc.elim
    | rt r => exact hc.elim

/-! ### the program's own checks -/
theorem is_card_spec {n p : Nat} {c : List Int} (hc : CardOK n p c) (hn : n ≤ 1000) : m_is_card (.int n) (.int p) (il c) = .ok (.bl true) := by
  have hcl := card_len hc
  apply Res.Sat.eq
  unfold m_is_card
  simp only [okb, sat_bind, sat_ok, fin_nx, fin_bk, fin_rt, ctlp_nx, ctlp_bk, ctlp_rt, add_int, sub_int, neg_int, lt_int, le_int, gt_int, ge_int, eq_int, ne_int, bool_bl, toInt_int, abs_int, len_lst, len_tup, len_scr, isl_lst, list_lst, list_tup, items_lst, items_tup, scal_int, scal_bl, scal_non, part_int, mkT0, mkT1, mkT2, mkT3, mkL0, mkL1, mkL2, mkL3, idx_l0, idx_l1, idx_l2, idx_t0, idx_t1, idx_t2, set_l0, set_l2, decide_true, decide_false, if_true, if_false, Bool.false_eq_true, Bool.not_true, Bool.not_false, List.length_map, isin_il, isin_it, notin_il, notin_it, encN, rng1_nat (n := c.length) (by omega)]
  refine (forR_rng (fun _ _ => True) (fun _ => False) (fun _ => False) trivial fun i s hi _ => ?_).imp fun c hc => ?_
  · have hm := List.getElem_mem hi
    have h1 := hc.2.2 _ hm
    have h2 : ¬ c[i] = (p : Int) := fun z => hc.2.1 (z ▸ hm)
    have h3 : c[i] ∉ c.take i := by
      intro z
      obtain ⟨j, hj, e⟩ := List.mem_iff_getElem.mp z
      rw [List.length_take] at hj
      rw [List.getElem_take] at e
      have := (List.getElem_inj hc.1).mp e
      omega
    have a1 := idx_il hi
    have a2 := slice_to (xs := c) (k := i) (by omega)
    unfold m_is_card_loop1
    simp only [okb, sat_bind, sat_ok, fin_nx, fin_bk, fin_rt, ctlp_nx, ctlp_bk, ctlp_rt, add_int, sub_int, neg_int, lt_int, le_int, gt_int, ge_int, eq_int, ne_int, bool_bl, toInt_int, abs_int, len_lst, len_tup, len_scr, isl_lst, list_lst, list_tup, items_lst, items_tup, scal_int, scal_bl, scal_non, part_int, mkT0, mkT1, mkT2, mkT3, mkL0, mkL1, mkL2, mkL3, idx_l0, idx_l1, idx_l2, idx_t0, idx_t1, idx_t2, set_l0, set_l2, decide_true, decide_false, if_true, if_false, Bool.false_eq_true, Bool.not_true, Bool.not_false, List.length_map, isin_il, isin_it, notin_il, notin_it, encN, a1, h1.1, h1.2, h2, a2, h3]
  · cases c with
    | nx s => simp only [okb, sat_bind, sat_ok, fin_nx, fin_bk, fin_rt, ctlp_nx, ctlp_bk, ctlp_rt, add_int, sub_int, neg_int, lt_int, le_int, gt_int, ge_int, eq_int, ne_int, bool_bl, toInt_int, abs_int, len_lst, len_tup, len_scr, isl_lst, list_lst, list_tup, items_lst, items_tup, scal_int, scal_bl, scal_non, part_int, mkT0, mkT1, mkT2, mkT3, mkL0, mkL1, mkL2, mkL3, idx_l0, idx_l1, idx_l2, idx_t0, idx_t1, idx_t2, set_l0, set_l2, decide_true, decide_false, if_true, if_false, Bool.false_eq_true, Bool.not_true, Bool.not_false, List.length_map, isin_il, isin_it, notin_il, notin_it, encN]
    | bk s => exact hc.elim
    | rt r => exact hc.elim
theorem check_book_spec {n : Nat} {cs : List (List Int)} (hB : BookOK n cs) (h0 : 0 < n) (hn : n ≤ 16) : m_check_book (bl2 cs) = .ok .non := by
  obtain ⟨hl, hC⟩ := hB
  apply Res.Sat.eq
  unfold m_check_book
  have h1 : (1 : Int) ≤ (n : Int) := by omega
  have h2 : (n : Int) ≤ 16 := by omega
  simp only [okb, sat_bind, sat_ok, fin_nx, fin_bk, fin_rt, ctlp_nx, ctlp_bk, ctlp_rt, add_int, sub_int, neg_int, lt_int, le_int, gt_int, ge_int, eq_int, ne_int, bool_bl, toInt_int, abs_int, len_lst, len_tup, len_scr, isl_lst, list_lst, list_tup, items_lst, items_tup, scal_int, scal_bl, scal_non, part_int, mkT0, mkT1, mkT2, mkT3, mkL0, mkL1, mkL2, mkL3, idx_l0, idx_l1, idx_l2, idx_t0, idx_t1, idx_t2, set_l0, set_l2, decide_true, decide_false, if_true, if_false, Bool.false_eq_true, Bool.not_true, Bool.not_false, List.length_map, isin_il, isin_it, notin_il, notin_it, encN, hl, h1, h2, rng1_nat (n := n) (by omega)]
  refine (forR_rng (fun _ _ => True) (fun _ => False) (fun _ => False) trivial fun i s hi _ => ?_).imp fun c hc => ?_
  · have a1 := idx_bl2 (cs := cs) (k := i) (by omega)
    have a2 := is_card_spec (hC i (by omega)) (by omega)
    unfold m_check_book_loop1
    simp only [okb, sat_bind, sat_ok, fin_nx, fin_bk, fin_rt, ctlp_nx, ctlp_bk, ctlp_rt, add_int, sub_int, neg_int, lt_int, le_int, gt_int, ge_int, eq_int, ne_int, bool_bl, toInt_int, abs_int, len_lst, len_tup, len_scr, isl_lst, list_lst, list_tup, items_lst, items_tup, scal_int, scal_bl, scal_non, part_int, mkT0, mkT1, mkT2, mkT3, mkL0, mkL1, mkL2, mkL3, idx_l0, idx_l1, idx_l2, idx_t0, idx_t1, idx_t2, set_l0, set_l2, decide_true, decide_false, if_true, if_false, Bool.false_eq_true, Bool.not_true, Bool.not_false, List.length_map, isin_il, isin_it, notin_il, notin_it, encN, hl, a1, a2]
  · cases c with
    | nx s => simp only [okb, sat_bind, sat_ok, fin_nx, fin_bk, fin_rt, ctlp_nx, ctlp_bk, ctlp_rt, add_int, sub_int, neg_int, lt_int, le_int, gt_int, ge_int, eq_int, ne_int, bool_bl, toInt_int, abs_int, len_lst, len_tup, len_scr, isl_lst, list_lst, list_tup, items_lst, items_tup, scal_int, scal_bl, scal_non, part_int, mkT0, mkT1, mkT2, mkT3, mkL0, mkL1, mkL2, mkL3, idx_l0, idx_l1, idx_l2, idx_t0, idx_t1, idx_t2, set_l0, set_l2, decide_true, decide_false, if_true, if_false, Bool.false_eq_true, Bool.not_true, Bool.not_false, List.length_map, isin_il, isin_it, notin_il, notin_it, encN]
    | bk s => exact hc.elim
    | rt r => exact hc.elim
theorem check_places_spec {n : Nat} {ps : List Int} (hnd : ps.Nodup) (hr : ∀ x ∈ ps, 0 ≤ x ∧ x < (n : Int)) (h0 : 0 < n) (hn : n ≤ 16) : ∃ ys, m_check_places (.int n) (il ps) = .ok (il ys) ∧ ys.Perm ps := by
  obtain ⟨ys, hy, hp⟩ := sort_il ps
  have hl := int_len hnd hr
  refine ⟨ys, ?_, hp⟩
  apply Res.Sat.eq
  unfold m_check_places
  have h1 : (1 : Int) ≤ (n : Int) := by omega
  have h2 : (n : Int) ≤ 16 := by omega
  simp only [okb, sat_bind, sat_ok, fin_nx, fin_bk, fin_rt, ctlp_nx, ctlp_bk, ctlp_rt, add_int, sub_int, neg_int, lt_int, le_int, gt_int, ge_int, eq_int, ne_int, bool_bl, toInt_int, abs_int, len_lst, len_tup, len_scr, isl_lst, list_lst, list_tup, items_lst, items_tup, scal_int, scal_bl, scal_non, part_int, mkT0, mkT1, mkT2, mkT3, mkL0, mkL1, mkL2, mkL3, idx_l0, idx_l1, idx_l2, idx_t0, idx_t1, idx_t2, set_l0, set_l2, decide_true, decide_false, if_true, if_false, Bool.false_eq_true, Bool.not_true, Bool.not_false, List.length_map, isin_il, isin_it, notin_il, notin_it, encN, h1, h2, rng1_nat (n := ps.length) (by omega)]
  refine (forR_rng (fun _ _ => True) (fun _ => False) (fun _ => False) trivial fun i s hi _ => ?_).imp fun c hc => ?_
  · have hm := List.getElem_mem hi
    have h1 := hr _ hm
    have h3 : ps[i] ∉ ps.take i := by
      intro z
      obtain ⟨j, hj, e⟩ := List.mem_iff_getElem.mp z
      rw [List.length_take] at hj
      rw [List.getElem_take] at e
      have := (List.getElem_inj hnd).mp e
      omega
    have a1 := idx_il hi
    have a2 := slice_to (xs := ps) (k := i) (by omega)
    unfold m_check_places_loop1
    simp only [okb, sat_bind, sat_ok, fin_nx, fin_bk, fin_rt, ctlp_nx, ctlp_bk, ctlp_rt, add_int, sub_int, neg_int, lt_int, le_int, gt_int, ge_int, eq_int, ne_int, bool_bl, toInt_int, abs_int, len_lst, len_tup, len_scr, isl_lst, list_lst, list_tup, items_lst, items_tup, scal_int, scal_bl, scal_non, part_int, mkT0, mkT1, mkT2, mkT3, mkL0, mkL1, mkL2, mkL3, idx_l0, idx_l1, idx_l2, idx_t0, idx_t1, idx_t2, set_l0, set_l2, decide_true, decide_false, if_true, if_false, Bool.false_eq_true, Bool.not_true, Bool.not_false, List.length_map, isin_il, isin_it, notin_il, notin_it, encN, a1, h1.1, h1.2, a2, h3]
  · cases c with
    | nx s => simp only [okb, sat_bind, sat_ok, fin_nx, fin_bk, fin_rt, ctlp_nx, ctlp_bk, ctlp_rt, add_int, sub_int, neg_int, lt_int, le_int, gt_int, ge_int, eq_int, ne_int, bool_bl, toInt_int, abs_int, len_lst, len_tup, len_scr, isl_lst, list_lst, list_tup, items_lst, items_tup, scal_int, scal_bl, scal_non, part_int, mkT0, mkT1, mkT2, mkT3, mkL0, mkL1, mkL2, mkL3, idx_l0, idx_l1, idx_l2, idx_t0, idx_t1, idx_t2, set_l0, set_l2, decide_true, decide_false, if_true, if_false, Bool.false_eq_true, Bool.not_true, Bool.not_false, List.length_map, isin_il, isin_it, notin_il, notin_it, encN, hy]
    | bk s => exact hc.elim
    | rt r => exact hc.elim
def firstOut (c l : List Int) : Int := ((c.filter fun e => !decide (e ∈ l)).head?).getD (-1)
theorem first_outside_spec (c l : List Int) : m_first_outside (il c) (il l) = .ok (.int (firstOut c l)) := by
  apply Res.Sat.eq
  unfold m_first_outside
  simp only [okb, sat_bind, sat_ok, fin_nx, fin_bk, fin_rt, ctlp_nx, ctlp_bk, ctlp_rt, add_int, sub_int, neg_int, lt_int, le_int, gt_int, ge_int, eq_int, ne_int, bool_bl, toInt_int, abs_int, len_lst, len_tup, len_scr, isl_lst, list_lst, list_tup, items_lst, items_tup, scal_int, scal_bl, scal_non, part_int, mkT0, mkT1, mkT2, mkT3, mkL0, mkL1, mkL2, mkL3, idx_l0, idx_l1, idx_l2, idx_t0, idx_t1, idx_t2, set_l0, set_l2, decide_true, decide_false, if_true, if_false, Bool.false_eq_true, Bool.not_true, Bool.not_false, List.length_map, isin_il, isin_it, notin_il, notin_it, encN]
  refine (forR_map U.int (fun d r _ => d ++ r = c ∧ (d.filter fun e => !decide (e ∈ l)) = []) (fun _ => False) (fun r => r = .int (firstOut c l)) (fun d x r s h => ?_) c [] () ⟨rfl, rfl⟩).imp fun k hk => ?_
  · obtain ⟨e, hd⟩ := h
    unfold m_first_outside_loop1
    simp only [okb, sat_bind, sat_ok, fin_nx, fin_bk, fin_rt, ctlp_nx, ctlp_bk, ctlp_rt, add_int, sub_int, neg_int, lt_int, le_int, gt_int, ge_int, eq_int, ne_int, bool_bl, toInt_int, abs_int, len_lst, len_tup, len_scr, isl_lst, list_lst, list_tup, items_lst, items_tup, scal_int, scal_bl, scal_non, part_int, mkT0, mkT1, mkT2, mkT3, mkL0, mkL1, mkL2, mkL3, idx_l0, idx_l1, idx_l2, idx_t0, idx_t1, idx_t2, set_l0, set_l2, decide_true, decide_false, if_true, if_false, Bool.false_eq_true, Bool.not_true, Bool.not_false, List.length_map, isin_il, isin_it, notin_il, notin_it, encN]
    by_cases hx : x ∈ l
    · simp only [okb, sat_bind, sat_ok, fin_nx, fin_bk, fin_rt, ctlp_nx, ctlp_bk, ctlp_rt, add_int, sub_int, neg_int, lt_int, le_int, gt_int, ge_int, eq_int, ne_int, bool_bl, toInt_int, abs_int, len_lst, len_tup, len_scr, isl_lst, list_lst, list_tup, items_lst, items_tup, scal_int, scal_bl, scal_non, part_int, mkT0, mkT1, mkT2, mkT3, mkL0, mkL1, mkL2, mkL3, idx_l0, idx_l1, idx_l2, idx_t0, idx_t1, idx_t2, set_l0, set_l2, decide_true, decide_false, if_true, if_false, Bool.false_eq_true, Bool.not_true, Bool.not_false, List.length_map, isin_il, isin_it, notin_il, notin_it, encN, hx]
      refine ⟨by rw [List.append_assoc]; exact e, ?_⟩
      rw [List.filter_append, hd]
      simp [hx]
    · simp only [okb, sat_bind, sat_ok, fin_nx, fin_bk, fin_rt, ctlp_nx, ctlp_bk, ctlp_rt, add_int, sub_int, neg_int, lt_int, le_int, gt_int, ge_int, eq_int, ne_int, bool_bl, toInt_int, abs_int, len_lst, len_tup, len_scr, isl_lst, list_lst, list_tup, items_lst, items_tup, scal_int, scal_bl, scal_non, part_int, mkT0, mkT1, mkT2, mkT3, mkL0, mkL1, mkL2, mkL3, idx_l0, idx_l1, idx_l2, idx_t0, idx_t1, idx_t2, set_l0, set_l2, decide_true, decide_false, if_true, if_false, Bool.false_eq_true, Bool.not_true, Bool.not_false, List.length_map, isin_il, isin_it, notin_il, notin_it, encN, hx]
      unfold firstOut
      rw [← e, List.filter_append, hd]
      simp [hx]
  · cases k with
    | nx s =>
      obtain ⟨_, hd⟩ := hk
      simp only [okb, sat_bind, sat_ok, fin_nx, fin_bk, fin_rt, ctlp_nx, ctlp_bk, ctlp_rt, add_int, sub_int, neg_int, lt_int, le_int, gt_int, ge_int, eq_int, ne_int, bool_bl, toInt_int, abs_int, len_lst, len_tup, len_scr, isl_lst, list_lst, list_tup, items_lst, items_tup, scal_int, scal_bl, scal_non, part_int, mkT0, mkT1, mkT2, mkT3, mkL0, mkL1, mkL2, mkL3, idx_l0, idx_l1, idx_l2, idx_t0, idx_t1, idx_t2, set_l0, set_l2, decide_true, decide_false, if_true, if_false, Bool.false_eq_true, Bool.not_true, Bool.not_false, List.length_map, isin_il, isin_it, notin_il, notin_it, encN]
      unfold firstOut
      rw [List.nil_append] at hd
      rw [hd]
      rfl
    | bk s => exact hk.elim
    | rt r => simp only [okb, sat_bind, sat_ok, fin_nx, fin_bk, fin_rt, ctlp_nx, ctlp_bk, ctlp_rt, add_int, sub_int, neg_int, lt_int, le_int, gt_int, ge_int, eq_int, ne_int, bool_bl, toInt_int, abs_int, len_lst, len_tup, len_scr, isl_lst, list_lst, list_tup, items_lst, items_tup, scal_int, scal_bl, scal_non, part_int, mkT0, mkT1, mkT2, mkT3, mkL0, mkL1, mkL2, mkL3, idx_l0, idx_l1, idx_l2, idx_t0, idx_t1, idx_t2, set_l0, set_l2, decide_true, decide_false, if_true, if_false, Bool.false_eq_true, Bool.not_true, Bool.not_false, List.length_map, isin_il, isin_it, notin_il, notin_it, encN]; exact hk
theorem first_open_spec {n p : Nat} {cs : List (List Int)} {sh : List Int} (hB : BookOK n cs) (hn : n ≤ 16) (hp : p < cs.length) (hs : sh.Nodup) (hr : ∀ x ∈ sh, 0 ≤ x ∧ x < (n : Int)) :
    m_first_open (bl2 cs) (.int p) (il sh) = .ok (.int (firstOut cs[p] sh)) := by
  have hl := hB.1
  unfold m_first_open
  obtain ⟨y1, e1, _⟩ := check_places_spec (n := n) (ps := [(p : Int)]) (by simp) (fun x hx => by rw [List.mem_singleton.mp hx]; omega) (by omega) hn
  obtain ⟨y2, e2, _⟩ := check_places_spec (n := n) (ps := sh) hs hr (by omega) hn
  have e1' : m_check_places (.int n) (.lst [.int p]) = .ok (il y1) := e1
  simp only [okb, sat_bind, sat_ok, fin_nx, fin_bk, fin_rt, ctlp_nx, ctlp_bk, ctlp_rt, add_int, sub_int, neg_int, lt_int, le_int, gt_int, ge_int, eq_int, ne_int, bool_bl, toInt_int, abs_int, len_lst, len_tup, len_scr, isl_lst, list_lst, list_tup, items_lst, items_tup, scal_int, scal_bl, scal_non, part_int, mkT0, mkT1, mkT2, mkT3, mkL0, mkL1, mkL2, mkL3, idx_l0, idx_l1, idx_l2, idx_t0, idx_t1, idx_t2, set_l0, set_l2, decide_true, decide_false, if_true, if_false, Bool.false_eq_true, Bool.not_true, Bool.not_false, List.length_map, isin_il, isin_it, notin_il, notin_it, encN, check_book_spec hB (by omega) hn, hl, e1', e2, idx_bl2 hp, first_outside_spec]
theorem isi_int (a : Int) : U.isi "int" (.int a) = .ok (.bl true) := by simp [U.isi, U.isa, U.tyn]
theorem isi_bool (a : Int) : U.isi "bool" (.int a) = .ok (.bl false) := by simp [U.isi, U.isa, U.tyn]
theorem isi_list (us : List U) : U.isi "list" (.lst us) = .ok (.bl true) := by simp [U.isi, U.isa, U.tyn]
theorem whole_spec (a : Int) : m_law_whole (.int a) = .ok (.bl true) := by
  unfold m_law_whole
  simp only [okb, sat_bind, sat_ok, fin_nx, fin_bk, fin_rt, ctlp_nx, ctlp_bk, ctlp_rt, add_int, sub_int, neg_int, lt_int, le_int, gt_int, ge_int, eq_int, ne_int, bool_bl, toInt_int, abs_int, len_lst, len_tup, len_scr, isl_lst, list_lst, list_tup, items_lst, items_tup, scal_int, scal_bl, scal_non, part_int, mkT0, mkT1, mkT2, mkT3, mkL0, mkL1, mkL2, mkL3, idx_l0, idx_l1, idx_l2, idx_t0, idx_t1, idx_t2, set_l0, set_l2, decide_true, decide_false, if_true, if_false, Bool.false_eq_true, Bool.not_true, Bool.not_false, List.length_map, isin_il, isin_it, notin_il, notin_it, encN, isi_int, isi_bool]
theorem same_row_spec {a : List Int} (ha : a.length ≤ 1000000) : m_law_same_row (il a) (il a) = .ok (.bl true) := by
  apply Res.Sat.eq
  unfold m_law_same_row
  simp only [okb, sat_bind, sat_ok, fin_nx, fin_bk, fin_rt, ctlp_nx, ctlp_bk, ctlp_rt, add_int, sub_int, neg_int, lt_int, le_int, gt_int, ge_int, eq_int, ne_int, bool_bl, toInt_int, abs_int, len_lst, len_tup, len_scr, isl_lst, list_lst, list_tup, items_lst, items_tup, scal_int, scal_bl, scal_non, part_int, mkT0, mkT1, mkT2, mkT3, mkL0, mkL1, mkL2, mkL3, idx_l0, idx_l1, idx_l2, idx_t0, idx_t1, idx_t2, set_l0, set_l2, decide_true, decide_false, if_true, if_false, Bool.false_eq_true, Bool.not_true, Bool.not_false, List.length_map, isin_il, isin_it, notin_il, notin_it, encN, isi_list, rng1_nat (n := a.length) (by omega)]
  refine (forR_rng (fun _ _ => True) (fun _ => False) (fun _ => False) trivial fun i s hi _ => ?_).imp fun c hc => ?_
  · have a1 := idx_il hi
    unfold m_law_same_row_loop1
    simp only [okb, sat_bind, sat_ok, fin_nx, fin_bk, fin_rt, ctlp_nx, ctlp_bk, ctlp_rt, add_int, sub_int, neg_int, lt_int, le_int, gt_int, ge_int, eq_int, ne_int, bool_bl, toInt_int, abs_int, len_lst, len_tup, len_scr, isl_lst, list_lst, list_tup, items_lst, items_tup, scal_int, scal_bl, scal_non, part_int, mkT0, mkT1, mkT2, mkT3, mkL0, mkL1, mkL2, mkL3, idx_l0, idx_l1, idx_l2, idx_t0, idx_t1, idx_t2, set_l0, set_l2, decide_true, decide_false, if_true, if_false, Bool.false_eq_true, Bool.not_true, Bool.not_false, List.length_map, isin_il, isin_it, notin_il, notin_it, encN, a1, whole_spec]
  · cases c with
    | nx s => simp only [okb, sat_bind, sat_ok, fin_nx, fin_bk, fin_rt, ctlp_nx, ctlp_bk, ctlp_rt, add_int, sub_int, neg_int, lt_int, le_int, gt_int, ge_int, eq_int, ne_int, bool_bl, toInt_int, abs_int, len_lst, len_tup, len_scr, isl_lst, list_lst, list_tup, items_lst, items_tup, scal_int, scal_bl, scal_non, part_int, mkT0, mkT1, mkT2, mkT3, mkL0, mkL1, mkL2, mkL3, idx_l0, idx_l1, idx_l2, idx_t0, idx_t1, idx_t2, set_l0, set_l2, decide_true, decide_false, if_true, if_false, Bool.false_eq_true, Bool.not_true, Bool.not_false, List.length_map, isin_il, isin_it, notin_il, notin_it, encN]
    | bk s => exact hc.elim
    | rt r => exact hc.elim
theorem same_book_spec {n : Nat} {cs : List (List Int)} (hB : BookOK n cs) (hn : n ≤ 1000) : m_law_same_book (bl2 cs) (bl2 cs) = .ok (.bl true) := by
  apply Res.Sat.eq
  unfold m_law_same_book
  have hl := hB.1
  simp only [okb, sat_bind, sat_ok, fin_nx, fin_bk, fin_rt, ctlp_nx, ctlp_bk, ctlp_rt, add_int, sub_int, neg_int, lt_int, le_int, gt_int, ge_int, eq_int, ne_int, bool_bl, toInt_int, abs_int, len_lst, len_tup, len_scr, isl_lst, list_lst, list_tup, items_lst, items_tup, scal_int, scal_bl, scal_non, part_int, mkT0, mkT1, mkT2, mkT3, mkL0, mkL1, mkL2, mkL3, idx_l0, idx_l1, idx_l2, idx_t0, idx_t1, idx_t2, set_l0, set_l2, decide_true, decide_false, if_true, if_false, Bool.false_eq_true, Bool.not_true, Bool.not_false, List.length_map, isin_il, isin_it, notin_il, notin_it, encN, isi_list, rng1_nat (n := cs.length) (by omega)]
  refine (forR_rng (fun _ _ => True) (fun _ => False) (fun _ => False) trivial fun i s hi _ => ?_).imp fun c hc => ?_
  · have a1 := idx_bl2 hi
    have a2 := same_row_spec (a := cs[i]) (by have := card_len (hB.2 i hi); omega)
    unfold m_law_same_book_loop1
    simp only [okb, sat_bind, sat_ok, fin_nx, fin_bk, fin_rt, ctlp_nx, ctlp_bk, ctlp_rt, add_int, sub_int, neg_int, lt_int, le_int, gt_int, ge_int, eq_int, ne_int, bool_bl, toInt_int, abs_int, len_lst, len_tup, len_scr, isl_lst, list_lst, list_tup, items_lst, items_tup, scal_int, scal_bl, scal_non, part_int, mkT0, mkT1, mkT2, mkT3, mkL0, mkL1, mkL2, mkL3, idx_l0, idx_l1, idx_l2, idx_t0, idx_t1, idx_t2, set_l0, set_l2, decide_true, decide_false, if_true, if_false, Bool.false_eq_true, Bool.not_true, Bool.not_false, List.length_map, isin_il, isin_it, notin_il, notin_it, encN, a1, a2]
  · cases c with
    | nx s => simp only [okb, sat_bind, sat_ok, fin_nx, fin_bk, fin_rt, ctlp_nx, ctlp_bk, ctlp_rt, add_int, sub_int, neg_int, lt_int, le_int, gt_int, ge_int, eq_int, ne_int, bool_bl, toInt_int, abs_int, len_lst, len_tup, len_scr, isl_lst, list_lst, list_tup, items_lst, items_tup, scal_int, scal_bl, scal_non, part_int, mkT0, mkT1, mkT2, mkT3, mkL0, mkL1, mkL2, mkL3, idx_l0, idx_l1, idx_l2, idx_t0, idx_t1, idx_t2, set_l0, set_l2, decide_true, decide_false, if_true, if_false, Bool.false_eq_true, Bool.not_true, Bool.not_false, List.length_map, isin_il, isin_it, notin_il, notin_it, encN]
    | bk s => exact hc.elim
    | rt r => exact hc.elim
theorem copy_spec {cs : List (List Int)} (h : cs.length ≤ 1000000) : compA (fun x6 => U.list x6 >>= fun y14 => Res.ok (some y14)) (cs.map il) [] = .ok (cs.map il) :=
  compA_all il il cs (by omega) fun x hx => by simp only [okb, sat_bind, sat_ok, fin_nx, fin_bk, fin_rt, ctlp_nx, ctlp_bk, ctlp_rt, add_int, sub_int, neg_int, lt_int, le_int, gt_int, ge_int, eq_int, ne_int, bool_bl, toInt_int, abs_int, len_lst, len_tup, len_scr, isl_lst, list_lst, list_tup, items_lst, items_tup, scal_int, scal_bl, scal_non, part_int, mkT0, mkT1, mkT2, mkT3, mkL0, mkL1, mkL2, mkL3, idx_l0, idx_l1, idx_l2, idx_t0, idx_t1, idx_t2, set_l0, set_l2, decide_true, decide_false, if_true, if_false, Bool.false_eq_true, Bool.not_true, Bool.not_false, List.length_map, isin_il, isin_it, notin_il, notin_it, encN]
abbrev outs (c l : List Int) : List Int := c.filter fun e => !decide (e ∈ l)
theorem open_entries_spec {c l : List Int} (hc : c.length ≤ 1000000) : m_law_open_entries (il c) (il l) = .ok (il (outs c l)) := by
  apply Res.Sat.eq
  unfold m_law_open_entries
  simp only [okb, sat_bind, sat_ok, fin_nx, fin_bk, fin_rt, ctlp_nx, ctlp_bk, ctlp_rt, add_int, sub_int, neg_int, lt_int, le_int, gt_int, ge_int, eq_int, ne_int, bool_bl, toInt_int, abs_int, len_lst, len_tup, len_scr, isl_lst, list_lst, list_tup, items_lst, items_tup, scal_int, scal_bl, scal_non, part_int, mkT0, mkT1, mkT2, mkT3, mkL0, mkL1, mkL2, mkL3, idx_l0, idx_l1, idx_l2, idx_t0, idx_t1, idx_t2, set_l0, set_l2, decide_true, decide_false, if_true, if_false, Bool.false_eq_true, Bool.not_true, Bool.not_false, List.length_map, isin_il, isin_it, notin_il, notin_it, encN, rng1_nat (n := c.length) (by omega)]
  refine (forR_rng (fun i s => s = il (outs (c.drop (c.length - i)) l)) (fun _ => False) (fun _ => False) (by simp) fun i s hi h => ?_).imp fun k hk => ?_
  · subst h
    have e1 : (c.length : Int) - 1 - (i : Int) = ((c.length - 1 - i : Nat) : Int) := by omega
    have hlt : c.length - 1 - i < c.length := by omega
    have a1 := idx_il hlt
    have e2 : c.drop (c.length - (i + 1)) = c[c.length - 1 - i] :: c.drop (c.length - i) := by
      have := List.drop_eq_getElem_cons hlt
      have e3 : c.length - 1 - i + 1 = c.length - i := by omega
      have e4 : c.length - (i + 1) = c.length - 1 - i := by omega
      rw [e4, this, e3]
    unfold m_law_open_entries_loop1
    simp only [okb, sat_bind, sat_ok, fin_nx, fin_bk, fin_rt, ctlp_nx, ctlp_bk, ctlp_rt, add_int, sub_int, neg_int, lt_int, le_int, gt_int, ge_int, eq_int, ne_int, bool_bl, toInt_int, abs_int, len_lst, len_tup, len_scr, isl_lst, list_lst, list_tup, items_lst, items_tup, scal_int, scal_bl, scal_non, part_int, mkT0, mkT1, mkT2, mkT3, mkL0, mkL1, mkL2, mkL3, idx_l0, idx_l1, idx_l2, idx_t0, idx_t1, idx_t2, set_l0, set_l2, decide_true, decide_false, if_true, if_false, Bool.false_eq_true, Bool.not_true, Bool.not_false, List.length_map, isin_il, isin_it, notin_il, notin_it, encN, e1, a1]
    rw [e2]
    by_cases hx : c[c.length - 1 - i] ∈ l
    · simp only [okb, sat_bind, sat_ok, fin_nx, fin_bk, fin_rt, ctlp_nx, ctlp_bk, ctlp_rt, add_int, sub_int, neg_int, lt_int, le_int, gt_int, ge_int, eq_int, ne_int, bool_bl, toInt_int, abs_int, len_lst, len_tup, len_scr, isl_lst, list_lst, list_tup, items_lst, items_tup, scal_int, scal_bl, scal_non, part_int, mkT0, mkT1, mkT2, mkT3, mkL0, mkL1, mkL2, mkL3, idx_l0, idx_l1, idx_l2, idx_t0, idx_t1, idx_t2, set_l0, set_l2, decide_true, decide_false, if_true, if_false, Bool.false_eq_true, Bool.not_true, Bool.not_false, List.length_map, isin_il, isin_it, notin_il, notin_it, encN, hx]
      unfold outs
      rw [List.filter_cons]
      simp [hx]
    · have hlen : (outs (c.drop (c.length - i)) l).length ≤ 1000000 := by
        have := List.length_filter_le (fun e => !decide (e ∈ l)) (c.drop (c.length - i))
        rw [List.length_drop] at this
        unfold outs
        omega
      have a2 : U.add (.lst [.int c[c.length - 1 - i]]) (il (outs (c.drop (c.length - i)) l)) = .ok (il ([c[c.length - 1 - i]] ++ outs (c.drop (c.length - i)) l)) := add_il (xs := [c[c.length - 1 - i]]) (by simp; omega)
      simp only [okb, sat_bind, sat_ok, fin_nx, fin_bk, fin_rt, ctlp_nx, ctlp_bk, ctlp_rt, add_int, sub_int, neg_int, lt_int, le_int, gt_int, ge_int, eq_int, ne_int, bool_bl, toInt_int, abs_int, len_lst, len_tup, len_scr, isl_lst, list_lst, list_tup, items_lst, items_tup, scal_int, scal_bl, scal_non, part_int, mkT0, mkT1, mkT2, mkT3, mkL0, mkL1, mkL2, mkL3, idx_l0, idx_l1, idx_l2, idx_t0, idx_t1, idx_t2, set_l0, set_l2, decide_true, decide_false, if_true, if_false, Bool.false_eq_true, Bool.not_true, Bool.not_false, List.length_map, isin_il, isin_it, notin_il, notin_it, encN, hx, a2]
      unfold outs
      rw [List.filter_cons]
      simp [hx]
  · cases k with
    | nx s =>
      have hk : s = _ := hk
      rw [Nat.sub_self, List.drop_zero] at hk
      simp only [okb, sat_bind, sat_ok, fin_nx, fin_bk, fin_rt, ctlp_nx, ctlp_bk, ctlp_rt, add_int, sub_int, neg_int, lt_int, le_int, gt_int, ge_int, eq_int, ne_int, bool_bl, toInt_int, abs_int, len_lst, len_tup, len_scr, isl_lst, list_lst, list_tup, items_lst, items_tup, scal_int, scal_bl, scal_non, part_int, mkT0, mkT1, mkT2, mkT3, mkL0, mkL1, mkL2, mkL3, idx_l0, idx_l1, idx_l2, idx_t0, idx_t1, idx_t2, set_l0, set_l2, decide_true, decide_false, if_true, if_false, Bool.false_eq_true, Bool.not_true, Bool.not_false, List.length_map, isin_il, isin_it, notin_il, notin_it, encN]
      exact hk
    | bk s => exact hk.elim
    | rt r => exact hk.elim
/-- with the first k of the open ones shut as well, the next is the (k + 1)-th -/
theorem first_out_take {c l : List Int} (hc : c.Nodup) {k : Nat} (hk : k ≤ (outs c l).length) : firstOut c (l ++ (outs c l).take k) = (outs c l ++ [-1])[k]'(by rw [List.length_append]; simp; omega) := by
  unfold firstOut
  have e : (c.filter fun e => !decide (e ∈ l ++ (outs c l).take k)) = (outs c l).drop k := by
    have h1 : (c.filter fun e => !decide (e ∈ l ++ (outs c l).take k)) = (outs c l).filter fun e => !decide (e ∈ (outs c l).take k) := by
      unfold outs
      rw [List.filter_filter]
      refine List.filter_congr fun x hx => ?_
      by_cases a : x ∈ l <;> simp [a]
    rw [h1]
    generalize hd : outs c l = D
    have hD : D.Nodup := by rw [← hd]; exact hc.filter _
    have : ∀ (A B : List Int), (A ++ B).Nodup → (A ++ B).filter (fun e => !decide (e ∈ A)) = B := by
      intro A B h
      rw [List.filter_append]
      have h2 : A.filter (fun e => !decide (e ∈ A)) = [] := List.filter_eq_nil_iff.mpr fun x hx => by simp [hx]
      have h3 : B.filter (fun e => !decide (e ∈ A)) = B := List.filter_eq_self.mpr fun x hx => by
        have : x ∉ A := fun z => (List.nodup_append.mp h).2.2 x z x hx rfl
        simp [this]
      rw [h2, h3, List.nil_append]
    have := this (D.take k) (D.drop k) (by rw [List.take_append_drop]; exact hD)
    rwa [List.take_append_drop] at this
  rw [e]
  by_cases h : k < (outs c l).length
  · rw [List.getElem_append_left h, List.head?_drop, List.getElem?_eq_getElem h]
    rfl
  · have hke : k = (outs c l).length := by omega
    subst hke
    simp
theorem shuts_along_spec {n p : Nat} {cs : List (List Int)} {sh : List Int} (hB : BookOK n cs) (hn : n ≤ 16) (hp : p < cs.length) (hs : sh.Nodup) (hr : ∀ x ∈ sh, 0 ≤ x ∧ x < (n : Int)) :
    m_law_shuts_along (bl2 cs) (.int p) (il sh) = .ok (.bl true) := by
  have hl := hB.1
  have hC := hB.2 p hp
  have hcl := card_len hC
  have hsl := int_len hs hr
  have hol : (outs cs[p] sh).length ≤ 16 := by
    have := List.length_filter_le (fun e => !decide (e ∈ sh)) cs[p]
    unfold outs; omega
  apply Res.Sat.eq
  unfold m_law_shuts_along
  have a1 := copy_spec (cs := cs) (by omega)
  have a2 : U.add (il (outs cs[p] sh)) (.lst [.int (-1)]) = .ok (il (outs cs[p] sh ++ [-1])) := add_il (ys := [-1]) (by simp; omega)
  have a3 : U.rng1 (.int ((outs cs[p] sh ++ [-1]).length : Int)) = .ok (rng ((outs cs[p] sh).length + 1)) := by rw [List.length_append]; exact rng1_nat (n := (outs cs[p] sh).length + 1) (by omega)
  simp only [okb, sat_bind, sat_ok, fin_nx, fin_bk, fin_rt, ctlp_nx, ctlp_bk, ctlp_rt, add_int, sub_int, neg_int, lt_int, le_int, gt_int, ge_int, eq_int, ne_int, bool_bl, toInt_int, abs_int, len_lst, len_tup, len_scr, isl_lst, list_lst, list_tup, items_lst, items_tup, scal_int, scal_bl, scal_non, part_int, mkT0, mkT1, mkT2, mkT3, mkL0, mkL1, mkL2, mkL3, idx_l0, idx_l1, idx_l2, idx_t0, idx_t1, idx_t2, set_l0, set_l2, decide_true, decide_false, if_true, if_false, Bool.false_eq_true, Bool.not_true, Bool.not_false, List.length_map, isin_il, isin_it, notin_il, notin_it, encN, a1, idx_bl2 hp, open_entries_spec (c := cs[p]) (l := sh) (by omega), a2, a3]
  have h00 : U.lst (sh.map U.int) = il (sh ++ (outs cs[p] sh ++ [-1]).take 0) := by simp
  refine (forR_rng (n := (outs cs[p] sh).length + 1) (fun i s => s = il (sh ++ (outs cs[p] sh ++ [-1]).take i)) (fun _ => False) (fun _ => False) h00 fun i s hi h => ?_).imp fun k hk => ?_
  · subst h
    have hin : i ≤ (outs cs[p] sh).length := by omega
    have et : (outs cs[p] sh ++ [-1]).take i = (outs cs[p] sh).take i := by rw [List.take_append_of_le_length hin]
    have hnd : (sh ++ (outs cs[p] sh).take i).Nodup := by
      refine List.nodup_append.mpr ⟨hs, (hC.1.filter _).sublist (List.take_sublist _ _), fun a ha b hb e => ?_⟩
      have := (List.mem_filter.mp ((List.take_sublist _ _).subset hb)).2
      simp at this
      exact this (e ▸ ha)
    have hrr : ∀ x ∈ sh ++ (outs cs[p] sh).take i, 0 ≤ x ∧ x < (n : Int) := fun x hx => by
      rcases List.mem_append.mp hx with z | z
      · exact hr x z
      · exact hC.2.2 x (List.mem_filter.mp ((List.take_sublist _ _).subset z)).1
    have hlt : i < (outs cs[p] sh ++ [-1]).length := by rw [List.length_append]; exact hi
    have b1 := first_open_spec hB hn hp hnd hrr
    have b2 := first_out_take (l := sh) hC.1 hin
    rw [b2] at b1
    have b3 := idx_il hlt
    have b4 := slice_to (xs := outs cs[p] sh ++ [-1]) (k := i) (by omega)
    have b5 := add_il (xs := sh) (ys := (outs cs[p] sh).take i) (by rw [List.length_take]; omega)
    have b6 := ne_il (sh ++ (outs cs[p] sh).take i) (sh ++ (outs cs[p] sh).take i)
    have b7 := app_il (xs := sh ++ (outs cs[p] sh).take i) (a := (outs cs[p] sh ++ [-1])[i]) (by rw [List.length_append, List.length_take]; omega)
    unfold m_law_shuts_along_loop1
    rw [et] at b4
    rw [et]
    simp only [okb, sat_bind, sat_ok, fin_nx, fin_bk, fin_rt, ctlp_nx, ctlp_bk, ctlp_rt, add_int, sub_int, neg_int, lt_int, le_int, gt_int, ge_int, eq_int, ne_int, bool_bl, toInt_int, abs_int, len_lst, len_tup, len_scr, isl_lst, list_lst, list_tup, items_lst, items_tup, scal_int, scal_bl, scal_non, part_int, mkT0, mkT1, mkT2, mkT3, mkL0, mkL1, mkL2, mkL3, idx_l0, idx_l1, idx_l2, idx_t0, idx_t1, idx_t2, set_l0, set_l2, decide_true, decide_false, if_true, if_false, Bool.false_eq_true, Bool.not_true, Bool.not_false, List.length_map, isin_il, isin_it, notin_il, notin_it, encN, b1, whole_spec, b3, b4, b5, b6, same_book_spec hB (by omega), b7]
    rw [← et, List.append_assoc, List.take_append_getElem]
  · cases k with
    | nx s => simp only [okb, sat_bind, sat_ok, fin_nx, fin_bk, fin_rt, ctlp_nx, ctlp_bk, ctlp_rt, add_int, sub_int, neg_int, lt_int, le_int, gt_int, ge_int, eq_int, ne_int, bool_bl, toInt_int, abs_int, len_lst, len_tup, len_scr, isl_lst, list_lst, list_tup, items_lst, items_tup, scal_int, scal_bl, scal_non, part_int, mkT0, mkT1, mkT2, mkT3, mkL0, mkL1, mkL2, mkL3, idx_l0, idx_l1, idx_l2, idx_t0, idx_t1, idx_t2, set_l0, set_l2, decide_true, decide_false, if_true, if_false, Bool.false_eq_true, Bool.not_true, Bool.not_false, List.length_map, isin_il, isin_it, notin_il, notin_it, encN]
    | bk s => exact hk.elim
    | rt r => exact hk.elim

/-! ### who is ahead -/
def cutAt (c : List Int) (g : Int) : List Int := c.takeWhile fun e => !decide (e = g)
theorem take_while_snoc {c d r : List Int} {x g : Int} (e : d ++ x :: r = c) (hd : ∀ y ∈ d, y ≠ g) (hx : x = g) : cutAt c g = d := by
  unfold cutAt
  rw [← e, List.takeWhile_append_of_pos (fun y hy => by simp [hd y hy])]
  simp [hx]
theorem ahead_spec {c : List Int} {p g : Int} (hc : c.length ≤ 1000000) : m_law_ahead (il c) (.int p) (.int g) = .ok (if g ∈ c then il (p :: cutAt c g) else .non) := by
  apply Res.Sat.eq
  unfold m_law_ahead
  simp only [okb, sat_bind, sat_ok, fin_nx, fin_bk, fin_rt, ctlp_nx, ctlp_bk, ctlp_rt, add_int, sub_int, neg_int, lt_int, le_int, gt_int, ge_int, eq_int, ne_int, bool_bl, toInt_int, abs_int, len_lst, len_tup, len_scr, isl_lst, list_lst, list_tup, items_lst, items_tup, scal_int, scal_bl, scal_non, part_int, mkT0, mkT1, mkT2, mkT3, mkL0, mkL1, mkL2, mkL3, idx_l0, idx_l1, idx_l2, idx_t0, idx_t1, idx_t2, set_l0, set_l2, decide_true, decide_false, if_true, if_false, Bool.false_eq_true, Bool.not_true, Bool.not_false, List.length_map, isin_il, isin_it, notin_il, notin_it, encN]
  refine (forR_map U.int (fun d r s => d ++ r = c ∧ s = il (p :: d) ∧ ∀ y ∈ d, y ≠ g) (fun _ => False) (fun s => g ∈ c ∧ s = il (p :: cutAt c g)) (fun d x r s h => ?_) c [] (.lst [.int p]) ⟨rfl, rfl, by simp⟩).imp fun k hk => ?_
  · obtain ⟨e, rfl, hd⟩ := h
    have hle : d.length < 1000000 := by have := congrArg List.length e; rw [List.length_append, List.length_cons] at this; omega
    unfold m_law_ahead_loop1
    by_cases hx : x = g
    · simp only [okb, sat_bind, sat_ok, fin_nx, fin_bk, fin_rt, ctlp_nx, ctlp_bk, ctlp_rt, add_int, sub_int, neg_int, lt_int, le_int, gt_int, ge_int, eq_int, ne_int, bool_bl, toInt_int, abs_int, len_lst, len_tup, len_scr, isl_lst, list_lst, list_tup, items_lst, items_tup, scal_int, scal_bl, scal_non, part_int, mkT0, mkT1, mkT2, mkT3, mkL0, mkL1, mkL2, mkL3, idx_l0, idx_l1, idx_l2, idx_t0, idx_t1, idx_t2, set_l0, set_l2, decide_true, decide_false, if_true, if_false, Bool.false_eq_true, Bool.not_true, Bool.not_false, List.length_map, isin_il, isin_it, notin_il, notin_it, encN, hx]
      refine ⟨by rw [← e, ← hx]; simp, ?_⟩
      rw [take_while_snoc e hd hx]
    · have a1 := app_il (xs := p :: d) (a := x) (by rw [List.length_cons]; omega)
      simp only [okb, sat_bind, sat_ok, fin_nx, fin_bk, fin_rt, ctlp_nx, ctlp_bk, ctlp_rt, add_int, sub_int, neg_int, lt_int, le_int, gt_int, ge_int, eq_int, ne_int, bool_bl, toInt_int, abs_int, len_lst, len_tup, len_scr, isl_lst, list_lst, list_tup, items_lst, items_tup, scal_int, scal_bl, scal_non, part_int, mkT0, mkT1, mkT2, mkT3, mkL0, mkL1, mkL2, mkL3, idx_l0, idx_l1, idx_l2, idx_t0, idx_t1, idx_t2, set_l0, set_l2, decide_true, decide_false, if_true, if_false, Bool.false_eq_true, Bool.not_true, Bool.not_false, List.length_map, isin_il, isin_it, notin_il, notin_it, encN, hx, a1]
      refine ⟨by rw [List.append_assoc]; exact e, rfl, fun y hy => ?_⟩
      rcases List.mem_append.mp hy with z | z
      · exact hd y z
      · rw [List.mem_singleton.mp z]; exact hx
  · cases k with
    | nx s =>
      obtain ⟨_, _, hd⟩ := hk
      rw [List.nil_append] at hd
      have : g ∉ c := fun z => hd g z rfl
      simp only [okb, sat_bind, sat_ok, fin_nx, fin_bk, fin_rt, ctlp_nx, ctlp_bk, ctlp_rt, add_int, sub_int, neg_int, lt_int, le_int, gt_int, ge_int, eq_int, ne_int, bool_bl, toInt_int, abs_int, len_lst, len_tup, len_scr, isl_lst, list_lst, list_tup, items_lst, items_tup, scal_int, scal_bl, scal_non, part_int, mkT0, mkT1, mkT2, mkT3, mkL0, mkL1, mkL2, mkL3, idx_l0, idx_l1, idx_l2, idx_t0, idx_t1, idx_t2, set_l0, set_l2, decide_true, decide_false, if_true, if_false, Bool.false_eq_true, Bool.not_true, Bool.not_false, List.length_map, isin_il, isin_it, notin_il, notin_it, encN, this]
    | bk s => exact hk.elim
    | rt r =>
      obtain ⟨hg, hr⟩ := hk
      simp only [okb, sat_bind, sat_ok, fin_nx, fin_bk, fin_rt, ctlp_nx, ctlp_bk, ctlp_rt, add_int, sub_int, neg_int, lt_int, le_int, gt_int, ge_int, eq_int, ne_int, bool_bl, toInt_int, abs_int, len_lst, len_tup, len_scr, isl_lst, list_lst, list_tup, items_lst, items_tup, scal_int, scal_bl, scal_non, part_int, mkT0, mkT1, mkT2, mkT3, mkL0, mkL1, mkL2, mkL3, idx_l0, idx_l1, idx_l2, idx_t0, idx_t1, idx_t2, set_l0, set_l2, decide_true, decide_false, if_true, if_false, Bool.false_eq_true, Bool.not_true, Bool.not_false, List.length_map, isin_il, isin_it, notin_il, notin_it, encN, hg]
      exact hr
theorem find_ix {g : Int} : ∀ (c : List Int) (k : Nat), g ∈ c → U.findIx (.int g) (c.map U.int) k = some (k + (cutAt c g).length)
  | x :: r, k, h => by
    rw [List.map_cons, U.findIx, eqv_int]
    unfold cutAt
    rw [List.takeWhile_cons]
    by_cases e : x = g
    · simp [e]
    · have hg : g ∈ r := by
        rcases List.mem_cons.mp h with z | z
        · exact absurd z.symm e
        · exact z
      have := find_ix r (k + 1) hg
      simp only [e, decide_false, Bool.false_eq_true, if_false, Bool.not_false, if_true, List.length_cons]
      rw [this]
      unfold cutAt
      congr 1
      omega
theorem cut_take {c : List Int} {g : Int} : c.take (cutAt c g).length = cutAt c g := by
  have : cutAt c g <+: c := List.takeWhile_prefix _
  exact (List.prefix_iff_eq_take.mp this).symm
theorem cut_len {c : List Int} {g : Int} : (cutAt c g).length ≤ c.length := (List.takeWhile_prefix _).length_le
theorem places_ahead_spec {n p g : Nat} {cs : List (List Int)} (hB : BookOK n cs) (hn : n ≤ 16) (hp : p < cs.length) (hg : g < n) :
    m_places_ahead (bl2 cs) (.int p) (.int g) = .ok (if (g : Int) = p then il [] else if (g : Int) ∈ cs[p] then il ((p : Int) :: cutAt cs[p] g) else .non) := by
  have hl := hB.1
  have hcl := card_len (hB.2 p hp)
  obtain ⟨y1, e1, _⟩ := check_places_spec (n := n) (ps := [(p : Int)]) (by simp) (fun x hx => by rw [List.mem_singleton.mp hx]; omega) (by omega) hn
  obtain ⟨y2, e2, _⟩ := check_places_spec (n := n) (ps := [(g : Int)]) (by simp) (fun x hx => by rw [List.mem_singleton.mp hx]; omega) (by omega) hn
  have e1' : m_check_places (.int n) (.lst [.int p]) = .ok (il y1) := e1
  have e2' : m_check_places (.int n) (.lst [.int g]) = .ok (il y2) := e2
  unfold m_places_ahead
  by_cases h1 : (g : Int) = (p : Int)
  · have e0 : m_check_places (.int n) (.lst [.int g]) = .ok (il y1) := by rw [h1]; exact e1'
    simp only [okb, sat_bind, sat_ok, fin_nx, fin_bk, fin_rt, ctlp_nx, ctlp_bk, ctlp_rt, add_int, sub_int, neg_int, lt_int, le_int, gt_int, ge_int, eq_int, ne_int, bool_bl, toInt_int, abs_int, len_lst, len_tup, len_scr, isl_lst, list_lst, list_tup, items_lst, items_tup, scal_int, scal_bl, scal_non, part_int, mkT0, mkT1, mkT2, mkT3, mkL0, mkL1, mkL2, mkL3, idx_l0, idx_l1, idx_l2, idx_t0, idx_t1, idx_t2, set_l0, set_l2, decide_true, decide_false, if_true, if_false, Bool.false_eq_true, Bool.not_true, Bool.not_false, List.length_map, isin_il, isin_it, notin_il, notin_it, encN, check_book_spec hB (by omega) hn, hl, e1', e2', idx_bl2 hp, h1]
    rfl
  · by_cases h2 : (g : Int) ∈ cs[p]
    · have a1 : U.index (il cs[p]) (.int g) = .ok (.int ((cutAt cs[p] g).length : Int)) := by
        show (if U.shp (.int g) = true ∧ U.shp (il cs[p]) = true then _ else _) = _
        rw [if_pos ⟨shp_int, shp_il _⟩, find_ix cs[p] 0 h2, Nat.zero_add]
      have a2 := slice_to (xs := cs[p]) (k := (cutAt cs[p] g).length) cut_len
      rw [cut_take] at a2
      have a3 : U.add (.lst [.int p]) (il (cutAt cs[p] g)) = .ok (il ((p : Int) :: cutAt cs[p] g)) := add_il (xs := [(p : Int)]) (by have := cut_len (c := cs[p]) (g := g); simp; omega)
      simp only [okb, sat_bind, sat_ok, fin_nx, fin_bk, fin_rt, ctlp_nx, ctlp_bk, ctlp_rt, add_int, sub_int, neg_int, lt_int, le_int, gt_int, ge_int, eq_int, ne_int, bool_bl, toInt_int, abs_int, len_lst, len_tup, len_scr, isl_lst, list_lst, list_tup, items_lst, items_tup, scal_int, scal_bl, scal_non, part_int, mkT0, mkT1, mkT2, mkT3, mkL0, mkL1, mkL2, mkL3, idx_l0, idx_l1, idx_l2, idx_t0, idx_t1, idx_t2, set_l0, set_l2, decide_true, decide_false, if_true, if_false, Bool.false_eq_true, Bool.not_true, Bool.not_false, List.length_map, isin_il, isin_it, notin_il, notin_it, encN, check_book_spec hB (by omega) hn, hl, e1', e2', idx_bl2 hp, h1, h2, a1, a2, a3]
    · simp only [okb, sat_bind, sat_ok, fin_nx, fin_bk, fin_rt, ctlp_nx, ctlp_bk, ctlp_rt, add_int, sub_int, neg_int, lt_int, le_int, gt_int, ge_int, eq_int, ne_int, bool_bl, toInt_int, abs_int, len_lst, len_tup, len_scr, isl_lst, list_lst, list_tup, items_lst, items_tup, scal_int, scal_bl, scal_non, part_int, mkT0, mkT1, mkT2, mkT3, mkL0, mkL1, mkL2, mkL3, idx_l0, idx_l1, idx_l2, idx_t0, idx_t1, idx_t2, set_l0, set_l2, decide_true, decide_false, if_true, if_false, Bool.false_eq_true, Bool.not_true, Bool.not_false, List.length_map, isin_il, isin_it, notin_il, notin_it, encN, check_book_spec hB (by omega) hn, hl, e1', e2', idx_bl2 hp, h1, h2]
theorem isN_il (a : List Int) : U.isN (il a) .non = .ok (.bl false) := (rfl)
theorem isN_non : U.isN .non .non = .ok (.bl true) := (rfl)
theorem notN_non : U.notN .non .non = .ok (.bl false) := (rfl)
theorem tells_ahead_spec {n p g : Nat} {cs : List (List Int)} (hB : BookOK n cs) (hn : n ≤ 16) (hp : p < cs.length) (hg : g < n) : m_law_tells_ahead (bl2 cs) (.int p) (.int g) = .ok (.bl true) := by
  have hl := hB.1
  have hcl := card_len (hB.2 p hp)
  have hct := cut_len (c := cs[p]) (g := g)
  apply Res.Sat.eq
  unfold m_law_tells_ahead
  have a1 := copy_spec (cs := cs) (by omega)
  have hbody : ∀ due : U, due = (if (g : Int) = p then il [] else if (g : Int) ∈ cs[p] then il ((p : Int) :: cutAt cs[p] g) else .non) → ∀ s x, (m_law_tells_ahead_loop1 (bl2 cs) (.int p) (.int g) (bl2 cs) due s x).Sat (CtlP (fun _ => True) (fun _ => False) (fun _ => False)) := by
    intro due hd s x
    have b1 := places_ahead_spec hB hn hp hg
    unfold m_law_tells_ahead_loop1
    rw [← hd] at b1
    simp only [okb, sat_bind, sat_ok, fin_nx, fin_bk, fin_rt, ctlp_nx, ctlp_bk, ctlp_rt, add_int, sub_int, neg_int, lt_int, le_int, gt_int, ge_int, eq_int, ne_int, bool_bl, toInt_int, abs_int, len_lst, len_tup, len_scr, isl_lst, list_lst, list_tup, items_lst, items_tup, scal_int, scal_bl, scal_non, part_int, mkT0, mkT1, mkT2, mkT3, mkL0, mkL1, mkL2, mkL3, idx_l0, idx_l1, idx_l2, idx_t0, idx_t1, idx_t2, set_l0, set_l2, decide_true, decide_false, if_true, if_false, Bool.false_eq_true, Bool.not_true, Bool.not_false, List.length_map, isin_il, isin_it, notin_il, notin_it, encN, b1, same_book_spec hB (by omega)]
    by_cases h1 : (g : Int) = (p : Int)
    · rw [if_pos h1] at hd
      subst hd
      have c1 := same_row_spec (a := []) (by simp)
      have c2 := app_il (xs := []) (a := (g : Int)) (by simp)
      simp only [okb, sat_bind, sat_ok, fin_nx, fin_bk, fin_rt, ctlp_nx, ctlp_bk, ctlp_rt, add_int, sub_int, neg_int, lt_int, le_int, gt_int, ge_int, eq_int, ne_int, bool_bl, toInt_int, abs_int, len_lst, len_tup, len_scr, isl_lst, list_lst, list_tup, items_lst, items_tup, scal_int, scal_bl, scal_non, part_int, mkT0, mkT1, mkT2, mkT3, mkL0, mkL1, mkL2, mkL3, idx_l0, idx_l1, idx_l2, idx_t0, idx_t1, idx_t2, set_l0, set_l2, decide_true, decide_false, if_true, if_false, Bool.false_eq_true, Bool.not_true, Bool.not_false, List.length_map, isin_il, isin_it, notin_il, notin_it, encN, isN_il, c1, c2]
    · rw [if_neg h1] at hd
      by_cases h2 : (g : Int) ∈ cs[p]
      · rw [if_pos h2] at hd
        subst hd
        have c1 := same_row_spec (a := (p : Int) :: cutAt cs[p] g) (by rw [List.length_cons]; omega)
        have c2 := app_il (xs := (p : Int) :: cutAt cs[p] g) (a := (g : Int)) (by rw [List.length_cons]; omega)
        simp only [okb, sat_bind, sat_ok, fin_nx, fin_bk, fin_rt, ctlp_nx, ctlp_bk, ctlp_rt, add_int, sub_int, neg_int, lt_int, le_int, gt_int, ge_int, eq_int, ne_int, bool_bl, toInt_int, abs_int, len_lst, len_tup, len_scr, isl_lst, list_lst, list_tup, items_lst, items_tup, scal_int, scal_bl, scal_non, part_int, mkT0, mkT1, mkT2, mkT3, mkL0, mkL1, mkL2, mkL3, idx_l0, idx_l1, idx_l2, idx_t0, idx_t1, idx_t2, set_l0, set_l2, decide_true, decide_false, if_true, if_false, Bool.false_eq_true, Bool.not_true, Bool.not_false, List.length_map, isin_il, isin_it, notin_il, notin_it, encN, isN_il, c1, c2]
      · rw [if_neg h2] at hd
        subst hd
        simp only [okb, sat_bind, sat_ok, fin_nx, fin_bk, fin_rt, ctlp_nx, ctlp_bk, ctlp_rt, add_int, sub_int, neg_int, lt_int, le_int, gt_int, ge_int, eq_int, ne_int, bool_bl, toInt_int, abs_int, len_lst, len_tup, len_scr, isl_lst, list_lst, list_tup, items_lst, items_tup, scal_int, scal_bl, scal_non, part_int, mkT0, mkT1, mkT2, mkT3, mkL0, mkL1, mkL2, mkL3, idx_l0, idx_l1, idx_l2, idx_t0, idx_t1, idx_t2, set_l0, set_l2, decide_true, decide_false, if_true, if_false, Bool.false_eq_true, Bool.not_true, Bool.not_false, List.length_map, isin_il, isin_it, notin_il, notin_it, encN, isN_non, notN_non]
  have hfin : ∀ due : U, due = (if (g : Int) = p then il [] else if (g : Int) ∈ cs[p] then il ((p : Int) :: cutAt cs[p] g) else .non) → (forR (m_law_tells_ahead_loop1 (bl2 cs) (.int p) (.int g) (bl2 cs) due) (rng 2) ()).Sat fun c => (Ctl.fin c (fun _ => Res.ok (U.bl true)) (fun r => Res.ok r)).Sat fun a => a = .bl true := by
    intro due hd
    refine (forR_rng (fun _ _ => True) (fun _ => False) (fun _ => False) trivial fun i s hi _ => hbody due hd s _).imp fun k hk => ?_
    cases k with
    | nx s => simp only [okb, sat_bind, sat_ok, fin_nx, fin_bk, fin_rt, ctlp_nx, ctlp_bk, ctlp_rt, add_int, sub_int, neg_int, lt_int, le_int, gt_int, ge_int, eq_int, ne_int, bool_bl, toInt_int, abs_int, len_lst, len_tup, len_scr, isl_lst, list_lst, list_tup, items_lst, items_tup, scal_int, scal_bl, scal_non, part_int, mkT0, mkT1, mkT2, mkT3, mkL0, mkL1, mkL2, mkL3, idx_l0, idx_l1, idx_l2, idx_t0, idx_t1, idx_t2, set_l0, set_l2, decide_true, decide_false, if_true, if_false, Bool.false_eq_true, Bool.not_true, Bool.not_false, List.length_map, isin_il, isin_it, notin_il, notin_it, encN]
    | bk s => exact hk.elim
    | rt r => exact hk.elim
  have a2 : U.rng1 (.int 2) = .ok (rng 2) := rng1_nat (n := 2) (by omega)
  by_cases h1 : (p : Int) = (g : Int)
  · have h1n : p = g := by omega
    subst h1n
    simp only [okb, sat_bind, sat_ok, fin_nx, fin_bk, fin_rt, ctlp_nx, ctlp_bk, ctlp_rt, add_int, sub_int, neg_int, lt_int, le_int, gt_int, ge_int, eq_int, ne_int, bool_bl, toInt_int, abs_int, len_lst, len_tup, len_scr, isl_lst, list_lst, list_tup, items_lst, items_tup, scal_int, scal_bl, scal_non, part_int, mkT0, mkT1, mkT2, mkT3, mkL0, mkL1, mkL2, mkL3, idx_l0, idx_l1, idx_l2, idx_t0, idx_t1, idx_t2, set_l0, set_l2, decide_true, decide_false, if_true, if_false, Bool.false_eq_true, Bool.not_true, Bool.not_false, List.length_map, isin_il, isin_it, notin_il, notin_it, encN, a1, idx_bl2 hp, ahead_spec (c := cs[p]) (p := p) (g := p) (by omega), a2, eq_self]
    exact hfin (il []) (by rw [if_pos rfl])
  · have h1' : ¬ (g : Int) = (p : Int) := fun z => h1 z.symm
    simp only [okb, sat_bind, sat_ok, fin_nx, fin_bk, fin_rt, ctlp_nx, ctlp_bk, ctlp_rt, add_int, sub_int, neg_int, lt_int, le_int, gt_int, ge_int, eq_int, ne_int, bool_bl, toInt_int, abs_int, len_lst, len_tup, len_scr, isl_lst, list_lst, list_tup, items_lst, items_tup, scal_int, scal_bl, scal_non, part_int, mkT0, mkT1, mkT2, mkT3, mkL0, mkL1, mkL2, mkL3, idx_l0, idx_l1, idx_l2, idx_t0, idx_t1, idx_t2, set_l0, set_l2, decide_true, decide_false, if_true, if_false, Bool.false_eq_true, Bool.not_true, Bool.not_false, List.length_map, isin_il, isin_it, notin_il, notin_it, encN, a1, idx_bl2 hp, ahead_spec (c := cs[p]) (p := p) (g := g) (by omega), h1, a2]
    exact hfin _ (by rw [if_neg h1'])

/-! ### the law -/
theorem law_true (ns : List Int) (hl : ns.length ≤ 63) : m_law (.scr ns) = .ok (.bl true) := by
  apply Res.Sat.eq
  unfold m_law
  simp only [okb, sat_bind, sat_ok, fin_nx, fin_bk, fin_rt, ctlp_nx, ctlp_bk, ctlp_rt, add_int, sub_int, neg_int, lt_int, le_int, gt_int, ge_int, eq_int, ne_int, bool_bl, toInt_int, abs_int, len_lst, len_tup, len_scr, isl_lst, list_lst, list_tup, items_lst, items_tup, scal_int, scal_bl, scal_non, part_int, mkT0, mkT1, mkT2, mkT3, mkL0, mkL1, mkL2, mkL3, idx_l0, idx_l1, idx_l2, idx_t0, idx_t1, idx_t2, set_l0, set_l2, decide_true, decide_false, if_true, if_false, Bool.false_eq_true, Bool.not_true, Bool.not_false, List.length_map, isin_il, isin_it, notin_il, notin_it, encN]
  refine (start_spec ns 0).imp fun s0 hs0 => ?_
  refine (size_spec hs0).imp fun ⟨x, s1⟩ ⟨n, hn1, hn2, e, hs1⟩ => ?_
  simp only at e hs1 ⊢
  subst e
  refine (start_spec ns 1).imp fun s2 hs2 => ?_
  refine (some_book_spec hs2 (n := n) (by omega) (by omega)).imp fun ⟨b, s3⟩ ⟨hs3, cs, e, hB⟩ => ?_
  simp only at e hs3 ⊢
  subst e
  refine (start_spec ns 3).imp fun s4 hs4 => ?_
  refine (draw_spec hs4 (n := n) (by omega) (by omega)).imp fun ⟨x, s5⟩ ⟨p, hp, e, hs5⟩ => ?_
  simp only at e hs5 ⊢
  subst e
  refine (set_spec hs5 (n := n) (by omega)).imp fun ⟨a, s6⟩ ⟨hs6, xs, e, hx1, hx2⟩ => ?_
  simp only at e hs6 ⊢
  subst e
  refine (order_spec hs6 (n := n) hx1 hx2 (by omega)).imp fun ⟨a, s7⟩ ⟨hs7, sh, e, hy1, hy2⟩ => ?_
  simp only at e hs7 ⊢
  subst e
  have hcl := hB.1
  have b1 := shuts_along_spec hB hn2 (p := p) (by omega) hy1 hy2
  have b2 : m_law_shuts_along (bl2 cs) (.int 0) (il sh) = .ok (.bl true) := shuts_along_spec hB hn2 (p := 0) (by omega) hy1 hy2
  simp only [okb, sat_bind, sat_ok, fin_nx, fin_bk, fin_rt, ctlp_nx, ctlp_bk, ctlp_rt, add_int, sub_int, neg_int, lt_int, le_int, gt_int, ge_int, eq_int, ne_int, bool_bl, toInt_int, abs_int, len_lst, len_tup, len_scr, isl_lst, list_lst, list_tup, items_lst, items_tup, scal_int, scal_bl, scal_non, part_int, mkT0, mkT1, mkT2, mkT3, mkL0, mkL1, mkL2, mkL3, idx_l0, idx_l1, idx_l2, idx_t0, idx_t1, idx_t2, set_l0, set_l2, decide_true, decide_false, if_true, if_false, Bool.false_eq_true, Bool.not_true, Bool.not_false, List.length_map, isin_il, isin_it, notin_il, notin_it, encN, b1, b2, rng1_nat (n := n) (by omega)]
  refine (forR_rng (fun _ _ => True) (fun _ => False) (fun _ => False) trivial fun i s hi _ => ?_).imp fun k hk => ?_
  · unfold m_law_loop1
    simp only [okb, sat_bind, sat_ok, fin_nx, fin_bk, fin_rt, ctlp_nx, ctlp_bk, ctlp_rt, add_int, sub_int, neg_int, lt_int, le_int, gt_int, ge_int, eq_int, ne_int, bool_bl, toInt_int, abs_int, len_lst, len_tup, len_scr, isl_lst, list_lst, list_tup, items_lst, items_tup, scal_int, scal_bl, scal_non, part_int, mkT0, mkT1, mkT2, mkT3, mkL0, mkL1, mkL2, mkL3, idx_l0, idx_l1, idx_l2, idx_t0, idx_t1, idx_t2, set_l0, set_l2, decide_true, decide_false, if_true, if_false, Bool.false_eq_true, Bool.not_true, Bool.not_false, List.length_map, isin_il, isin_it, notin_il, notin_it, encN, tells_ahead_spec hB hn2 (p := p) (g := i) (by omega) hi]
  · cases k with
    | nx s => simp only [okb, sat_bind, sat_ok, fin_nx, fin_bk, fin_rt, ctlp_nx, ctlp_bk, ctlp_rt, add_int, sub_int, neg_int, lt_int, le_int, gt_int, ge_int, eq_int, ne_int, bool_bl, toInt_int, abs_int, len_lst, len_tup, len_scr, isl_lst, list_lst, list_tup, items_lst, items_tup, scal_int, scal_bl, scal_non, part_int, mkT0, mkT1, mkT2, mkT3, mkL0, mkL1, mkL2, mkL3, idx_l0, idx_l1, idx_l2, idx_t0, idx_t1, idx_t2, set_l0, set_l2, decide_true, decide_false, if_true, if_false, Bool.false_eq_true, Bool.not_true, Bool.not_false, List.length_map, isin_il, isin_it, notin_il, notin_it, encN]
    | bk s => exact hk.elim
    | rt r => exact hk.elim
end UW

set_option Elab.async false
set_option linter.all false
set_option maxRecDepth 100000
set_option maxHeartbeats 4000000
namespace UW
open PySem PySem.Spec PyProof.Rows L2 UL
theorem all_mk {l : PySem.W.OpenLaw} {w : World} {K : PySem.W.Frag} {h : Heap} {mg : Str → Option Value} {fa : Addr} (X : K.In h) (G : h.Ns mainGlobals mg) (hfa : mg "law" = some (.ref fa)) {t_HOME t_MOST : Tok} {ocm_law_draw kVm_law_draw dcm_law_draw pmm_law_draw cdm_law_draw ctm_law_draw ocm_law_size kVm_law_size dcm_law_size pmm_law_size cdm_law_size ctm_law_size ocm_law_left kVm_law_left dcm_law_left pmm_law_left cdm_law_left ctm_law_left ocm_law_card kVm_law_card dcm_law_card pmm_law_card cdm_law_card ctm_law_card ocm_law_cards kVm_law_cards dcm_law_cards pmm_law_cards cdm_law_cards ctm_law_cards ocm_law_bent kVm_law_bent dcm_law_bent pmm_law_bent cdm_law_bent ctm_law_bent ocm_law_book kVm_law_book dcm_law_book pmm_law_book cdm_law_book ctm_law_book ocm_law_sorted kVm_law_sorted dcm_law_sorted pmm_law_sorted cdm_law_sorted ctm_law_sorted ocm_law_top_at kVm_law_top_at dcm_law_top_at pmm_law_top_at cdm_law_top_at ctm_law_top_at ocm_law_circle kVm_law_circle dcm_law_circle pmm_law_circle cdm_law_circle ctm_law_circle ocm_law_gate kVm_law_gate dcm_law_gate pmm_law_gate cdm_law_gate ctm_law_gate ocm_law_nest kVm_law_nest dcm_law_nest pmm_law_nest cdm_law_nest ctm_law_nest ocm_law_some_book kVm_law_some_book dcm_law_some_book pmm_law_some_book cdm_law_some_book ctm_law_some_book ocm_law_start kVm_law_start dcm_law_start pmm_law_start cdm_law_start ctm_law_start ocm_law_order kVm_law_order dcm_law_order pmm_law_order cdm_law_order ctm_law_order ocm_law_set kVm_law_set dcm_law_set pmm_law_set cdm_law_set ctm_law_set ocm_law_open_entries kVm_law_open_entries dcm_law_open_entries pmm_law_open_entries cdm_law_open_entries ctm_law_open_entries ocm_is_card kVm_is_card dcm_is_card pmm_is_card cdm_is_card ctm_is_card ocm_check_book kVm_check_book dcm_check_book pmm_check_book cdm_check_book ctm_check_book ocm_check_places kVm_check_places dcm_check_places pmm_check_places cdm_check_places ctm_check_places ocm_first_outside kVm_first_outside dcm_first_outside pmm_first_outside cdm_first_outside ctm_first_outside ocm_first_open kVm_first_open dcm_first_open pmm_first_open cdm_first_open ctm_first_open ocm_law_whole kVm_law_whole dcm_law_whole pmm_law_whole cdm_law_whole ctm_law_whole ocm_law_same_row kVm_law_same_row dcm_law_same_row pmm_law_same_row cdm_law_same_row ctm_law_same_row ocm_law_same_book kVm_law_same_book dcm_law_same_book pmm_law_same_book cdm_law_same_book ctm_law_same_book ocm_law_shuts_along kVm_law_shuts_along dcm_law_shuts_along pmm_law_shuts_along cdm_law_shuts_along ctm_law_shuts_along ocm_law_ahead kVm_law_ahead dcm_law_ahead pmm_law_ahead cdm_law_ahead ctm_law_ahead ocm_places_ahead kVm_places_ahead dcm_places_ahead pmm_places_ahead cdm_places_ahead ctm_places_ahead ocm_law_tells_ahead kVm_law_tells_ahead dcm_law_tells_ahead pmm_law_tells_ahead cdm_law_tells_ahead ctm_law_tells_ahead ocm_law kVm_law dcm_law pmm_law cdm_law ctm_law : Value} {odm_law_draw anm_law_draw odm_law_size anm_law_size odm_law_left anm_law_left odm_law_card anm_law_card odm_law_cards anm_law_cards odm_law_bent anm_law_bent odm_law_book anm_law_book odm_law_sorted anm_law_sorted odm_law_top_at anm_law_top_at odm_law_circle anm_law_circle odm_law_gate anm_law_gate odm_law_nest anm_law_nest odm_law_some_book anm_law_some_book odm_law_start anm_law_start odm_law_order anm_law_order odm_law_set anm_law_set odm_law_open_entries anm_law_open_entries odm_is_card anm_is_card odm_check_book anm_check_book odm_check_places anm_check_places odm_first_outside anm_first_outside odm_first_open anm_first_open odm_law_whole anm_law_whole odm_law_same_row anm_law_same_row odm_law_same_book anm_law_same_book odm_law_shuts_along anm_law_shuts_along odm_law_ahead anm_law_ahead odm_places_ahead anm_places_ahead odm_law_tells_ahead anm_law_tells_ahead odm_law anm_law : Option Addr} {slm_law_draw slm_law_size slm_law_left slm_law_card slm_law_cards slm_law_bent slm_law_book slm_law_sorted slm_law_top_at slm_law_circle slm_law_gate slm_law_nest slm_law_some_book slm_law_start slm_law_order slm_law_set slm_law_open_entries slm_is_card slm_check_book slm_check_places slm_first_outside slm_first_open slm_law_whole slm_law_same_row slm_law_same_book slm_law_shuts_along slm_law_ahead slm_places_ahead slm_law_tells_ahead slm_law : Array (Option Value)} {fm_law_draw fm_law_size fm_law_left fm_law_card fm_law_cards fm_law_bent fm_law_book fm_law_sorted fm_law_top_at fm_law_circle fm_law_gate fm_law_nest fm_law_some_book fm_law_start fm_law_order fm_law_set fm_law_open_entries fm_is_card fm_check_book fm_check_places fm_first_outside fm_first_open fm_law_whole fm_law_same_row fm_law_same_book fm_law_shuts_along fm_law_ahead fm_places_ahead fm_law_tells_ahead fm_law : Addr}
    (n_abs : PySem.W.nsIn K mainGlobals "abs" = some none)
    (n_bool : PySem.W.nsIn K mainGlobals "bool" = some none)
    (n_int : PySem.W.nsIn K mainGlobals "int" = some none)
    (n_isinstance : PySem.W.nsIn K mainGlobals "isinstance" = some none)
    (n_len : PySem.W.nsIn K mainGlobals "len" = some none)
    (n_list : PySem.W.nsIn K mainGlobals "list" = some none)
    (n_range : PySem.W.nsIn K mainGlobals "range" = some none)
    (n_sorted : PySem.W.nsIn K mainGlobals "sorted" = some none)
    (n_tuple : PySem.W.nsIn K mainGlobals "tuple" = some none)
    (c_HOME : PySem.W.nsIn K mainGlobals "HOME" = some (some (.int (-1) t_HOME)))
    (c_MOST : PySem.W.nsIn K mainGlobals "MOST" = some (some (.int 16 t_MOST)))
    (am_law_draw : PySem.W.nsIn K mainGlobals "_law_draw" = some (some (.ref fm_law_draw)))
    (lm_law_draw : K.lookup fm_law_draw = some ⟨ocm_law_draw, odm_law_draw, .func (PySem.W.fnOf "_law_draw" "_law_draw" (defArgs sm_law_draw) (defBody sm_law_draw) (defScope sm_law_draw) .none kVm_law_draw dcm_law_draw pmm_law_draw anm_law_draw cdm_law_draw ctm_law_draw), slm_law_draw⟩)
    (km_law_draw : PySem.W.codeIn K cdm_law_draw "_law_draw" = true)
    (pm_law_draw : PySem.W.keepIn K (.ref fm_law_draw) = true)
    (am_law_size : PySem.W.nsIn K mainGlobals "_law_size" = some (some (.ref fm_law_size)))
    (lm_law_size : K.lookup fm_law_size = some ⟨ocm_law_size, odm_law_size, .func (PySem.W.fnOf "_law_size" "_law_size" (defArgs sm_law_size) (defBody sm_law_size) (defScope sm_law_size) .none kVm_law_size dcm_law_size pmm_law_size anm_law_size cdm_law_size ctm_law_size), slm_law_size⟩)
    (km_law_size : PySem.W.codeIn K cdm_law_size "_law_size" = true)
    (pm_law_size : PySem.W.keepIn K (.ref fm_law_size) = true)
    (am_law_left : PySem.W.nsIn K mainGlobals "_law_left" = some (some (.ref fm_law_left)))
    (lm_law_left : K.lookup fm_law_left = some ⟨ocm_law_left, odm_law_left, .func (PySem.W.fnOf "_law_left" "_law_left" (defArgs sm_law_left) (defBody sm_law_left) (defScope sm_law_left) .none kVm_law_left dcm_law_left pmm_law_left anm_law_left cdm_law_left ctm_law_left), slm_law_left⟩)
    (km_law_left : PySem.W.codeIn K cdm_law_left "_law_left" = true)
    (pm_law_left : PySem.W.keepIn K (.ref fm_law_left) = true)
    (am_law_card : PySem.W.nsIn K mainGlobals "_law_card" = some (some (.ref fm_law_card)))
    (lm_law_card : K.lookup fm_law_card = some ⟨ocm_law_card, odm_law_card, .func (PySem.W.fnOf "_law_card" "_law_card" (defArgs sm_law_card) (defBody sm_law_card) (defScope sm_law_card) .none kVm_law_card dcm_law_card pmm_law_card anm_law_card cdm_law_card ctm_law_card), slm_law_card⟩)
    (km_law_card : PySem.W.codeIn K cdm_law_card "_law_card" = true)
    (pm_law_card : PySem.W.keepIn K (.ref fm_law_card) = true)
    (am_law_cards : PySem.W.nsIn K mainGlobals "_law_cards" = some (some (.ref fm_law_cards)))
    (lm_law_cards : K.lookup fm_law_cards = some ⟨ocm_law_cards, odm_law_cards, .func (PySem.W.fnOf "_law_cards" "_law_cards" (defArgs sm_law_cards) (defBody sm_law_cards) (defScope sm_law_cards) .none kVm_law_cards dcm_law_cards pmm_law_cards anm_law_cards cdm_law_cards ctm_law_cards), slm_law_cards⟩)
    (km_law_cards : PySem.W.codeIn K cdm_law_cards "_law_cards" = true)
    (pm_law_cards : PySem.W.keepIn K (.ref fm_law_cards) = true)
    (am_law_bent : PySem.W.nsIn K mainGlobals "_law_bent" = some (some (.ref fm_law_bent)))
    (lm_law_bent : K.lookup fm_law_bent = some ⟨ocm_law_bent, odm_law_bent, .func (PySem.W.fnOf "_law_bent" "_law_bent" (defArgs sm_law_bent) (defBody sm_law_bent) (defScope sm_law_bent) .none kVm_law_bent dcm_law_bent pmm_law_bent anm_law_bent cdm_law_bent ctm_law_bent), slm_law_bent⟩)
    (km_law_bent : PySem.W.codeIn K cdm_law_bent "_law_bent" = true)
    (pm_law_bent : PySem.W.keepIn K (.ref fm_law_bent) = true)
    (am_law_book : PySem.W.nsIn K mainGlobals "_law_book" = some (some (.ref fm_law_book)))
    (lm_law_book : K.lookup fm_law_book = some ⟨ocm_law_book, odm_law_book, .func (PySem.W.fnOf "_law_book" "_law_book" (defArgs sm_law_book) (defBody sm_law_book) (defScope sm_law_book) .none kVm_law_book dcm_law_book pmm_law_book anm_law_book cdm_law_book ctm_law_book), slm_law_book⟩)
    (km_law_book : PySem.W.codeIn K cdm_law_book "_law_book" = true)
    (pm_law_book : PySem.W.keepIn K (.ref fm_law_book) = true)
    (am_law_sorted : PySem.W.nsIn K mainGlobals "_law_sorted" = some (some (.ref fm_law_sorted)))
    (lm_law_sorted : K.lookup fm_law_sorted = some ⟨ocm_law_sorted, odm_law_sorted, .func (PySem.W.fnOf "_law_sorted" "_law_sorted" (defArgs sm_law_sorted) (defBody sm_law_sorted) (defScope sm_law_sorted) .none kVm_law_sorted dcm_law_sorted pmm_law_sorted anm_law_sorted cdm_law_sorted ctm_law_sorted), slm_law_sorted⟩)
    (km_law_sorted : PySem.W.codeIn K cdm_law_sorted "_law_sorted" = true)
    (pm_law_sorted : PySem.W.keepIn K (.ref fm_law_sorted) = true)
    (am_law_top_at : PySem.W.nsIn K mainGlobals "_law_top_at" = some (some (.ref fm_law_top_at)))
    (lm_law_top_at : K.lookup fm_law_top_at = some ⟨ocm_law_top_at, odm_law_top_at, .func (PySem.W.fnOf "_law_top_at" "_law_top_at" (defArgs sm_law_top_at) (defBody sm_law_top_at) (defScope sm_law_top_at) .none kVm_law_top_at dcm_law_top_at pmm_law_top_at anm_law_top_at cdm_law_top_at ctm_law_top_at), slm_law_top_at⟩)
    (km_law_top_at : PySem.W.codeIn K cdm_law_top_at "_law_top_at" = true)
    (pm_law_top_at : PySem.W.keepIn K (.ref fm_law_top_at) = true)
    (am_law_circle : PySem.W.nsIn K mainGlobals "_law_circle" = some (some (.ref fm_law_circle)))
    (lm_law_circle : K.lookup fm_law_circle = some ⟨ocm_law_circle, odm_law_circle, .func (PySem.W.fnOf "_law_circle" "_law_circle" (defArgs sm_law_circle) (defBody sm_law_circle) (defScope sm_law_circle) .none kVm_law_circle dcm_law_circle pmm_law_circle anm_law_circle cdm_law_circle ctm_law_circle), slm_law_circle⟩)
    (km_law_circle : PySem.W.codeIn K cdm_law_circle "_law_circle" = true)
    (pm_law_circle : PySem.W.keepIn K (.ref fm_law_circle) = true)
    (am_law_gate : PySem.W.nsIn K mainGlobals "_law_gate" = some (some (.ref fm_law_gate)))
    (lm_law_gate : K.lookup fm_law_gate = some ⟨ocm_law_gate, odm_law_gate, .func (PySem.W.fnOf "_law_gate" "_law_gate" (defArgs sm_law_gate) (defBody sm_law_gate) (defScope sm_law_gate) .none kVm_law_gate dcm_law_gate pmm_law_gate anm_law_gate cdm_law_gate ctm_law_gate), slm_law_gate⟩)
    (km_law_gate : PySem.W.codeIn K cdm_law_gate "_law_gate" = true)
    (pm_law_gate : PySem.W.keepIn K (.ref fm_law_gate) = true)
    (am_law_nest : PySem.W.nsIn K mainGlobals "_law_nest" = some (some (.ref fm_law_nest)))
    (lm_law_nest : K.lookup fm_law_nest = some ⟨ocm_law_nest, odm_law_nest, .func (PySem.W.fnOf "_law_nest" "_law_nest" (defArgs sm_law_nest) (defBody sm_law_nest) (defScope sm_law_nest) .none kVm_law_nest dcm_law_nest pmm_law_nest anm_law_nest cdm_law_nest ctm_law_nest), slm_law_nest⟩)
    (km_law_nest : PySem.W.codeIn K cdm_law_nest "_law_nest" = true)
    (pm_law_nest : PySem.W.keepIn K (.ref fm_law_nest) = true)
    (am_law_some_book : PySem.W.nsIn K mainGlobals "_law_some_book" = some (some (.ref fm_law_some_book)))
    (lm_law_some_book : K.lookup fm_law_some_book = some ⟨ocm_law_some_book, odm_law_some_book, .func (PySem.W.fnOf "_law_some_book" "_law_some_book" (defArgs sm_law_some_book) (defBody sm_law_some_book) (defScope sm_law_some_book) .none kVm_law_some_book dcm_law_some_book pmm_law_some_book anm_law_some_book cdm_law_some_book ctm_law_some_book), slm_law_some_book⟩)
    (km_law_some_book : PySem.W.codeIn K cdm_law_some_book "_law_some_book" = true)
    (pm_law_some_book : PySem.W.keepIn K (.ref fm_law_some_book) = true)
    (am_law_start : PySem.W.nsIn K mainGlobals "_law_start" = some (some (.ref fm_law_start)))
    (lm_law_start : K.lookup fm_law_start = some ⟨ocm_law_start, odm_law_start, .func (PySem.W.fnOf "_law_start" "_law_start" (defArgs sm_law_start) (defBody sm_law_start) (defScope sm_law_start) .none kVm_law_start dcm_law_start pmm_law_start anm_law_start cdm_law_start ctm_law_start), slm_law_start⟩)
    (km_law_start : PySem.W.codeIn K cdm_law_start "_law_start" = true)
    (pm_law_start : PySem.W.keepIn K (.ref fm_law_start) = true)
    (am_law_order : PySem.W.nsIn K mainGlobals "_law_order" = some (some (.ref fm_law_order)))
    (lm_law_order : K.lookup fm_law_order = some ⟨ocm_law_order, odm_law_order, .func (PySem.W.fnOf "_law_order" "_law_order" (defArgs sm_law_order) (defBody sm_law_order) (defScope sm_law_order) .none kVm_law_order dcm_law_order pmm_law_order anm_law_order cdm_law_order ctm_law_order), slm_law_order⟩)
    (km_law_order : PySem.W.codeIn K cdm_law_order "_law_order" = true)
    (pm_law_order : PySem.W.keepIn K (.ref fm_law_order) = true)
    (am_law_set : PySem.W.nsIn K mainGlobals "_law_set" = some (some (.ref fm_law_set)))
    (lm_law_set : K.lookup fm_law_set = some ⟨ocm_law_set, odm_law_set, .func (PySem.W.fnOf "_law_set" "_law_set" (defArgs sm_law_set) (defBody sm_law_set) (defScope sm_law_set) .none kVm_law_set dcm_law_set pmm_law_set anm_law_set cdm_law_set ctm_law_set), slm_law_set⟩)
    (km_law_set : PySem.W.codeIn K cdm_law_set "_law_set" = true)
    (pm_law_set : PySem.W.keepIn K (.ref fm_law_set) = true)
    (am_law_open_entries : PySem.W.nsIn K mainGlobals "_law_open_entries" = some (some (.ref fm_law_open_entries)))
    (lm_law_open_entries : K.lookup fm_law_open_entries = some ⟨ocm_law_open_entries, odm_law_open_entries, .func (PySem.W.fnOf "_law_open_entries" "_law_open_entries" (defArgs sm_law_open_entries) (defBody sm_law_open_entries) (defScope sm_law_open_entries) .none kVm_law_open_entries dcm_law_open_entries pmm_law_open_entries anm_law_open_entries cdm_law_open_entries ctm_law_open_entries), slm_law_open_entries⟩)
    (km_law_open_entries : PySem.W.codeIn K cdm_law_open_entries "_law_open_entries" = true)
    (pm_law_open_entries : PySem.W.keepIn K (.ref fm_law_open_entries) = true)
    (am_is_card : PySem.W.nsIn K mainGlobals "is_card" = some (some (.ref fm_is_card)))
    (lm_is_card : K.lookup fm_is_card = some ⟨ocm_is_card, odm_is_card, .func (PySem.W.fnOf "is_card" "is_card" (defArgs sm_is_card) (defBody sm_is_card) (defScope sm_is_card) .none kVm_is_card dcm_is_card pmm_is_card anm_is_card cdm_is_card ctm_is_card), slm_is_card⟩)
    (km_is_card : PySem.W.codeIn K cdm_is_card "is_card" = true)
    (pm_is_card : PySem.W.keepIn K (.ref fm_is_card) = true)
    (am_check_book : PySem.W.nsIn K mainGlobals "check_book" = some (some (.ref fm_check_book)))
    (lm_check_book : K.lookup fm_check_book = some ⟨ocm_check_book, odm_check_book, .func (PySem.W.fnOf "check_book" "check_book" (defArgs sm_check_book) (defBody sm_check_book) (defScope sm_check_book) .none kVm_check_book dcm_check_book pmm_check_book anm_check_book cdm_check_book ctm_check_book), slm_check_book⟩)
    (km_check_book : PySem.W.codeIn K cdm_check_book "check_book" = true)
    (pm_check_book : PySem.W.keepIn K (.ref fm_check_book) = true)
    (am_check_places : PySem.W.nsIn K mainGlobals "check_places" = some (some (.ref fm_check_places)))
    (lm_check_places : K.lookup fm_check_places = some ⟨ocm_check_places, odm_check_places, .func (PySem.W.fnOf "check_places" "check_places" (defArgs sm_check_places) (defBody sm_check_places) (defScope sm_check_places) .none kVm_check_places dcm_check_places pmm_check_places anm_check_places cdm_check_places ctm_check_places), slm_check_places⟩)
    (km_check_places : PySem.W.codeIn K cdm_check_places "check_places" = true)
    (pm_check_places : PySem.W.keepIn K (.ref fm_check_places) = true)
    (am_first_outside : PySem.W.nsIn K mainGlobals "first_outside" = some (some (.ref fm_first_outside)))
    (lm_first_outside : K.lookup fm_first_outside = some ⟨ocm_first_outside, odm_first_outside, .func (PySem.W.fnOf "first_outside" "first_outside" (defArgs sm_first_outside) (defBody sm_first_outside) (defScope sm_first_outside) .none kVm_first_outside dcm_first_outside pmm_first_outside anm_first_outside cdm_first_outside ctm_first_outside), slm_first_outside⟩)
    (km_first_outside : PySem.W.codeIn K cdm_first_outside "first_outside" = true)
    (pm_first_outside : PySem.W.keepIn K (.ref fm_first_outside) = true)
    (am_first_open : PySem.W.nsIn K mainGlobals "first_open" = some (some (.ref fm_first_open)))
    (lm_first_open : K.lookup fm_first_open = some ⟨ocm_first_open, odm_first_open, .func (PySem.W.fnOf "first_open" "first_open" (defArgs sm_first_open) (defBody sm_first_open) (defScope sm_first_open) .none kVm_first_open dcm_first_open pmm_first_open anm_first_open cdm_first_open ctm_first_open), slm_first_open⟩)
    (km_first_open : PySem.W.codeIn K cdm_first_open "first_open" = true)
    (pm_first_open : PySem.W.keepIn K (.ref fm_first_open) = true)
    (am_law_whole : PySem.W.nsIn K mainGlobals "_law_whole" = some (some (.ref fm_law_whole)))
    (lm_law_whole : K.lookup fm_law_whole = some ⟨ocm_law_whole, odm_law_whole, .func (PySem.W.fnOf "_law_whole" "_law_whole" (defArgs sm_law_whole) (defBody sm_law_whole) (defScope sm_law_whole) .none kVm_law_whole dcm_law_whole pmm_law_whole anm_law_whole cdm_law_whole ctm_law_whole), slm_law_whole⟩)
    (km_law_whole : PySem.W.codeIn K cdm_law_whole "_law_whole" = true)
    (pm_law_whole : PySem.W.keepIn K (.ref fm_law_whole) = true)
    (am_law_same_row : PySem.W.nsIn K mainGlobals "_law_same_row" = some (some (.ref fm_law_same_row)))
    (lm_law_same_row : K.lookup fm_law_same_row = some ⟨ocm_law_same_row, odm_law_same_row, .func (PySem.W.fnOf "_law_same_row" "_law_same_row" (defArgs sm_law_same_row) (defBody sm_law_same_row) (defScope sm_law_same_row) .none kVm_law_same_row dcm_law_same_row pmm_law_same_row anm_law_same_row cdm_law_same_row ctm_law_same_row), slm_law_same_row⟩)
    (km_law_same_row : PySem.W.codeIn K cdm_law_same_row "_law_same_row" = true)
    (pm_law_same_row : PySem.W.keepIn K (.ref fm_law_same_row) = true)
    (am_law_same_book : PySem.W.nsIn K mainGlobals "_law_same_book" = some (some (.ref fm_law_same_book)))
    (lm_law_same_book : K.lookup fm_law_same_book = some ⟨ocm_law_same_book, odm_law_same_book, .func (PySem.W.fnOf "_law_same_book" "_law_same_book" (defArgs sm_law_same_book) (defBody sm_law_same_book) (defScope sm_law_same_book) .none kVm_law_same_book dcm_law_same_book pmm_law_same_book anm_law_same_book cdm_law_same_book ctm_law_same_book), slm_law_same_book⟩)
    (km_law_same_book : PySem.W.codeIn K cdm_law_same_book "_law_same_book" = true)
    (pm_law_same_book : PySem.W.keepIn K (.ref fm_law_same_book) = true)
    (am_law_shuts_along : PySem.W.nsIn K mainGlobals "_law_shuts_along" = some (some (.ref fm_law_shuts_along)))
    (lm_law_shuts_along : K.lookup fm_law_shuts_along = some ⟨ocm_law_shuts_along, odm_law_shuts_along, .func (PySem.W.fnOf "_law_shuts_along" "_law_shuts_along" (defArgs sm_law_shuts_along) (defBody sm_law_shuts_along) (defScope sm_law_shuts_along) .none kVm_law_shuts_along dcm_law_shuts_along pmm_law_shuts_along anm_law_shuts_along cdm_law_shuts_along ctm_law_shuts_along), slm_law_shuts_along⟩)
    (km_law_shuts_along : PySem.W.codeIn K cdm_law_shuts_along "_law_shuts_along" = true)
    (pm_law_shuts_along : PySem.W.keepIn K (.ref fm_law_shuts_along) = true)
    (am_law_ahead : PySem.W.nsIn K mainGlobals "_law_ahead" = some (some (.ref fm_law_ahead)))
    (lm_law_ahead : K.lookup fm_law_ahead = some ⟨ocm_law_ahead, odm_law_ahead, .func (PySem.W.fnOf "_law_ahead" "_law_ahead" (defArgs sm_law_ahead) (defBody sm_law_ahead) (defScope sm_law_ahead) .none kVm_law_ahead dcm_law_ahead pmm_law_ahead anm_law_ahead cdm_law_ahead ctm_law_ahead), slm_law_ahead⟩)
    (km_law_ahead : PySem.W.codeIn K cdm_law_ahead "_law_ahead" = true)
    (pm_law_ahead : PySem.W.keepIn K (.ref fm_law_ahead) = true)
    (am_places_ahead : PySem.W.nsIn K mainGlobals "places_ahead" = some (some (.ref fm_places_ahead)))
    (lm_places_ahead : K.lookup fm_places_ahead = some ⟨ocm_places_ahead, odm_places_ahead, .func (PySem.W.fnOf "places_ahead" "places_ahead" (defArgs sm_places_ahead) (defBody sm_places_ahead) (defScope sm_places_ahead) .none kVm_places_ahead dcm_places_ahead pmm_places_ahead anm_places_ahead cdm_places_ahead ctm_places_ahead), slm_places_ahead⟩)
    (km_places_ahead : PySem.W.codeIn K cdm_places_ahead "places_ahead" = true)
    (pm_places_ahead : PySem.W.keepIn K (.ref fm_places_ahead) = true)
    (am_law_tells_ahead : PySem.W.nsIn K mainGlobals "_law_tells_ahead" = some (some (.ref fm_law_tells_ahead)))
    (lm_law_tells_ahead : K.lookup fm_law_tells_ahead = some ⟨ocm_law_tells_ahead, odm_law_tells_ahead, .func (PySem.W.fnOf "_law_tells_ahead" "_law_tells_ahead" (defArgs sm_law_tells_ahead) (defBody sm_law_tells_ahead) (defScope sm_law_tells_ahead) .none kVm_law_tells_ahead dcm_law_tells_ahead pmm_law_tells_ahead anm_law_tells_ahead cdm_law_tells_ahead ctm_law_tells_ahead), slm_law_tells_ahead⟩)
    (km_law_tells_ahead : PySem.W.codeIn K cdm_law_tells_ahead "_law_tells_ahead" = true)
    (pm_law_tells_ahead : PySem.W.keepIn K (.ref fm_law_tells_ahead) = true)
    (am_law : PySem.W.nsIn K mainGlobals "law" = some (some (.ref fm_law)))
    (lm_law : K.lookup fm_law = some ⟨ocm_law, odm_law, .func (PySem.W.fnOf "law" "law" (defArgs sm_law) (defBody sm_law) (defScope sm_law) .none kVm_law dcm_law pmm_law anm_law cdm_law ctm_law), slm_law⟩)
    (km_law : PySem.W.codeIn K cdm_law "law" = true)
    (pm_law : PySem.W.keepIn K (.ref fm_law) = true) :
    ∃ fd : FuncData, (∀ (s : Shared) (v : Value), BindsTo s fd ⟨[v], []⟩ [("script", v)]) ∧ ∀ base : Heap, K.In base → base.Ns mainGlobals mg → FnOk l.prog w K mg base CX0 6 fa fd ["script"] (SpF K noX 1 (ar1 m_law)) := by
  have e := hfa.symm.trans (PySem.W.mg_of X G am_law)
  cases e
  have Fm_law_draw := fun_mk (st := sm_law_draw) lm_law_draw km_law_draw pm_law_draw
  have bm_law_draw := Fm_law_draw.binds (ps := ["state", "many"]) fun _ _ _ _ _ _ us hl => match us, hl with | [_, _], _ => rfl
  have Fm_law_size := fun_mk (st := sm_law_size) lm_law_size km_law_size pm_law_size
  have bm_law_size := Fm_law_size.binds (ps := ["state", "small", "large"]) fun _ _ _ _ _ _ us hl => match us, hl with | [_, _, _], _ => rfl
  have Fm_law_left := fun_mk (st := sm_law_left) lm_law_left km_law_left pm_law_left
  have bm_law_left := Fm_law_left.binds (ps := ["nodes", "named"]) fun _ _ _ _ _ _ us hl => match us, hl with | [_, _], _ => rfl
  have Fm_law_card := fun_mk (st := sm_law_card) lm_law_card km_law_card pm_law_card
  have bm_law_card := Fm_law_card.binds (ps := ["nodes", "place"]) fun _ _ _ _ _ _ us hl => match us, hl with | [_, _], _ => rfl
  have Fm_law_cards := fun_mk (st := sm_law_cards) lm_law_cards km_law_cards pm_law_cards
  have bm_law_cards := Fm_law_cards.binds (ps := ["nodes", "size"]) fun _ _ _ _ _ _ us hl => match us, hl with | [_, _], _ => rfl
  have Fm_law_bent := fun_mk (st := sm_law_bent) lm_law_bent km_law_bent pm_law_bent
  have bm_law_bent := Fm_law_bent.binds (ps := ["state", "book"]) fun _ _ _ _ _ _ us hl => match us, hl with | [_, _], _ => rfl
  have Fm_law_book := fun_mk (st := sm_law_book) lm_law_book km_law_book pm_law_book
  have bm_law_book := Fm_law_book.binds (ps := ["state", "size"]) fun _ _ _ _ _ _ us hl => match us, hl with | [_, _], _ => rfl
  have Fm_law_sorted := fun_mk (st := sm_law_sorted) lm_law_sorted km_law_sorted pm_law_sorted
  have bm_law_sorted := Fm_law_sorted.binds (ps := ["nodes"]) fun _ _ _ _ _ _ us hl => match us, hl with | [_], _ => rfl
  have Fm_law_top_at := fun_mk (st := sm_law_top_at) lm_law_top_at km_law_top_at pm_law_top_at
  have bm_law_top_at := Fm_law_top_at.binds (ps := ["tops", "place"]) fun _ _ _ _ _ _ us hl => match us, hl with | [_, _], _ => rfl
  have Fm_law_circle := fun_mk (st := sm_law_circle) lm_law_circle km_law_circle pm_law_circle
  have bm_law_circle := Fm_law_circle.binds (ps := ["tops"]) fun _ _ _ _ _ _ us hl => match us, hl with | [_], _ => rfl
  have Fm_law_gate := fun_mk (st := sm_law_gate) lm_law_gate km_law_gate pm_law_gate
  have bm_law_gate := Fm_law_gate.binds (ps := ["state", "places", "size", "closed"]) fun _ _ _ _ _ _ us hl => match us, hl with | [_, _, _, _], _ => rfl
  have Fm_law_nest := fun_mk (st := sm_law_nest) lm_law_nest km_law_nest pm_law_nest
  have bm_law_nest := Fm_law_nest.binds (ps := ["state", "size", "closed"]) fun _ _ _ _ _ _ us hl => match us, hl with | [_, _, _], _ => rfl
  have Fm_law_some_book := fun_mk (st := sm_law_some_book) lm_law_some_book km_law_some_book pm_law_some_book
  have bm_law_some_book := Fm_law_some_book.binds (ps := ["state", "size"]) fun _ _ _ _ _ _ us hl => match us, hl with | [_, _], _ => rfl
  have Fm_law_start := fun_mk (st := sm_law_start) lm_law_start km_law_start pm_law_start
  have bm_law_start := Fm_law_start.binds (ps := ["script", "at"]) fun _ _ _ _ _ _ us hl => match us, hl with | [_, _], _ => rfl
  have Fm_law_order := fun_mk (st := sm_law_order) lm_law_order km_law_order pm_law_order
  have bm_law_order := Fm_law_order.binds (ps := ["state", "places"]) fun _ _ _ _ _ _ us hl => match us, hl with | [_, _], _ => rfl
  have Fm_law_set := fun_mk (st := sm_law_set) lm_law_set km_law_set pm_law_set
  have bm_law_set := Fm_law_set.binds (ps := ["state", "size"]) fun _ _ _ _ _ _ us hl => match us, hl with | [_, _], _ => rfl
  have Fm_law_open_entries := fun_mk (st := sm_law_open_entries) lm_law_open_entries km_law_open_entries pm_law_open_entries
  have bm_law_open_entries := Fm_law_open_entries.binds (ps := ["card", "shut"]) fun _ _ _ _ _ _ us hl => match us, hl with | [_, _], _ => rfl
  have Fm_is_card := fun_mk (st := sm_is_card) lm_is_card km_is_card pm_is_card
  have bm_is_card := Fm_is_card.binds (ps := ["size", "place", "card"]) fun _ _ _ _ _ _ us hl => match us, hl with | [_, _, _], _ => rfl
  have Fm_check_book := fun_mk (st := sm_check_book) lm_check_book km_check_book pm_check_book
  have bm_check_book := Fm_check_book.binds (ps := ["book"]) fun _ _ _ _ _ _ us hl => match us, hl with | [_], _ => rfl
  have Fm_check_places := fun_mk (st := sm_check_places) lm_check_places km_check_places pm_check_places
  have bm_check_places := Fm_check_places.binds (ps := ["size", "places"]) fun _ _ _ _ _ _ us hl => match us, hl with | [_, _], _ => rfl
  have Fm_first_outside := fun_mk (st := sm_first_outside) lm_first_outside km_first_outside pm_first_outside
  have bm_first_outside := Fm_first_outside.binds (ps := ["card", "listed"]) fun _ _ _ _ _ _ us hl => match us, hl with | [_, _], _ => rfl
  have Fm_first_open := fun_mk (st := sm_first_open) lm_first_open km_first_open pm_first_open
  have bm_first_open := Fm_first_open.binds (ps := ["book", "place", "shut"]) fun _ _ _ _ _ _ us hl => match us, hl with | [_, _, _], _ => rfl
  have Fm_law_whole := fun_mk (st := sm_law_whole) lm_law_whole km_law_whole pm_law_whole
  have bm_law_whole := Fm_law_whole.binds (ps := ["thing"]) fun _ _ _ _ _ _ us hl => match us, hl with | [_], _ => rfl
  have Fm_law_same_row := fun_mk (st := sm_law_same_row) lm_law_same_row km_law_same_row pm_law_same_row
  have bm_law_same_row := Fm_law_same_row.binds (ps := ["told", "due"]) fun _ _ _ _ _ _ us hl => match us, hl with | [_, _], _ => rfl
  have Fm_law_same_book := fun_mk (st := sm_law_same_book) lm_law_same_book km_law_same_book pm_law_same_book
  have bm_law_same_book := Fm_law_same_book.binds (ps := ["told", "due"]) fun _ _ _ _ _ _ us hl => match us, hl with | [_, _], _ => rfl
  have Fm_law_shuts_along := fun_mk (st := sm_law_shuts_along) lm_law_shuts_along km_law_shuts_along pm_law_shuts_along
  have bm_law_shuts_along := Fm_law_shuts_along.binds (ps := ["book", "place", "shut"]) fun _ _ _ _ _ _ us hl => match us, hl with | [_, _, _], _ => rfl
  have Fm_law_ahead := fun_mk (st := sm_law_ahead) lm_law_ahead km_law_ahead pm_law_ahead
  have bm_law_ahead := Fm_law_ahead.binds (ps := ["card", "place", "goal"]) fun _ _ _ _ _ _ us hl => match us, hl with | [_, _, _], _ => rfl
  have Fm_places_ahead := fun_mk (st := sm_places_ahead) lm_places_ahead km_places_ahead pm_places_ahead
  have bm_places_ahead := Fm_places_ahead.binds (ps := ["book", "place", "goal"]) fun _ _ _ _ _ _ us hl => match us, hl with | [_, _, _], _ => rfl
  have Fm_law_tells_ahead := fun_mk (st := sm_law_tells_ahead) lm_law_tells_ahead km_law_tells_ahead pm_law_tells_ahead
  have bm_law_tells_ahead := Fm_law_tells_ahead.binds (ps := ["book", "place", "goal"]) fun _ _ _ _ _ _ us hl => match us, hl with | [_, _, _], _ => rfl
  have Fm_law := fun_mk (st := sm_law) lm_law km_law pm_law
  have bm_law := Fm_law.binds (ps := ["script"]) fun _ _ _ _ _ _ us hl => match us, hl with | [_], _ => rfl
  have T : Txt K mg ⟨fm_law_draw, _, fm_law_size, _, fm_law_left, _, fm_law_card, _, fm_law_cards, _, fm_law_bent, _, fm_law_book, _, fm_law_sorted, _, fm_law_top_at, _, fm_law_circle, _, fm_law_gate, _, fm_law_nest, _, fm_law_some_book, _, fm_law_start, _, fm_law_order, _, fm_law_set, _, fm_law_open_entries, _, fm_is_card, _, fm_check_book, _, fm_check_places, _, fm_first_outside, _, fm_first_open, _, fm_law_whole, _, fm_law_same_row, _, fm_law_same_book, _, fm_law_shuts_along, _, fm_law_ahead, _, fm_places_ahead, _, fm_law_tells_ahead, _, fa, _⟩ := ⟨PySem.W.mg_none_of X G n_abs, PySem.W.mg_none_of X G n_bool, PySem.W.mg_none_of X G n_int, PySem.W.mg_none_of X G n_isinstance, PySem.W.mg_none_of X G n_len, PySem.W.mg_none_of X G n_list, PySem.W.mg_none_of X G n_range, PySem.W.mg_none_of X G n_sorted, PySem.W.mg_none_of X G n_tuple, ⟨_, PySem.W.mg_of X G c_HOME⟩, ⟨_, PySem.W.mg_of X G c_MOST⟩, PySem.W.mg_of X G am_law_draw, Fm_law_draw, bm_law_draw, PySem.W.mg_of X G am_law_size, Fm_law_size, bm_law_size, PySem.W.mg_of X G am_law_left, Fm_law_left, bm_law_left, PySem.W.mg_of X G am_law_card, Fm_law_card, bm_law_card, PySem.W.mg_of X G am_law_cards, Fm_law_cards, bm_law_cards, PySem.W.mg_of X G am_law_bent, Fm_law_bent, bm_law_bent, PySem.W.mg_of X G am_law_book, Fm_law_book, bm_law_book, PySem.W.mg_of X G am_law_sorted, Fm_law_sorted, bm_law_sorted, PySem.W.mg_of X G am_law_top_at, Fm_law_top_at, bm_law_top_at, PySem.W.mg_of X G am_law_circle, Fm_law_circle, bm_law_circle, PySem.W.mg_of X G am_law_gate, Fm_law_gate, bm_law_gate, PySem.W.mg_of X G am_law_nest, Fm_law_nest, bm_law_nest, PySem.W.mg_of X G am_law_some_book, Fm_law_some_book, bm_law_some_book, PySem.W.mg_of X G am_law_start, Fm_law_start, bm_law_start, PySem.W.mg_of X G am_law_order, Fm_law_order, bm_law_order, PySem.W.mg_of X G am_law_set, Fm_law_set, bm_law_set, PySem.W.mg_of X G am_law_open_entries, Fm_law_open_entries, bm_law_open_entries, PySem.W.mg_of X G am_is_card, Fm_is_card, bm_is_card, PySem.W.mg_of X G am_check_book, Fm_check_book, bm_check_book, PySem.W.mg_of X G am_check_places, Fm_check_places, bm_check_places, PySem.W.mg_of X G am_first_outside, Fm_first_outside, bm_first_outside, PySem.W.mg_of X G am_first_open, Fm_first_open, bm_first_open, PySem.W.mg_of X G am_law_whole, Fm_law_whole, bm_law_whole, PySem.W.mg_of X G am_law_same_row, Fm_law_same_row, bm_law_same_row, PySem.W.mg_of X G am_law_same_book, Fm_law_same_book, bm_law_same_book, PySem.W.mg_of X G am_law_shuts_along, Fm_law_shuts_along, bm_law_shuts_along, PySem.W.mg_of X G am_law_ahead, Fm_law_ahead, bm_law_ahead, PySem.W.mg_of X G am_places_ahead, Fm_places_ahead, bm_places_ahead, PySem.W.mg_of X G am_law_tells_ahead, Fm_law_tells_ahead, bm_law_tells_ahead, PySem.W.mg_of X G am_law, Fm_law, bm_law⟩
  exact ⟨_, fun s v => .of_eq rfl, fun base _ _ => okm_law T⟩
theorem walk {l : PySem.W.OpenLaw} {q : Program} {loose : List Str} {XP : (Str → Option Value) → Heap → Prop} {YP : World → Heap → Prop} {d : DefRec} {K : Params → PySem.W.Frag} (hn : l.most = some 63) (hdf : d.params.defaults = [])
    (hY : ∀ (w : World) (h : Heap), YP w h → (K w.params).In h)
    (F : ∀ (w : World) (mg : Str → Option Value) (fa : Addr) (h : Heap), (K w.params).In h → h.Ns mainGlobals mg → mg d.name = some (.ref fa) →
      ∃ fd : FuncData, (∀ (s : Shared) (u : Value), BindsTo s fd ⟨[u], []⟩ [("script", u)]) ∧ ∀ base : Heap, (K w.params).In base → base.Ns mainGlobals mg → FnOk l.prog w (K w.params) mg base CX0 6 fa fd ["script"] (SpF (K w.params) noX 1 (ar1 m_law))) :
    PySem.W.WalkO q loose XP YP l.row.toRowW d [] (fun f vs => PySem.call f vs) :=
  L2.walk_of (n := 63) (k := 6) (x := "script") (CX := fun _ => CX0) (sp := fun w => SpF (K w.params) noX 1 (ar1 m_law)) hn (by decide) hdf ⟨rfl, by decide, by decide⟩ hY F
    (fun w H a ns hl _ hS => ⟨rfl, H, [.scr ns], fun _ => False, ⟨Sub.refl H, fun _ _ e => (by cases e), fun _ n => absurd rfl n⟩, .cons (.scr hS) .nil, fun _ _ _ _ _ _ he => he.elim, by
      show (m_law (.scr ns)).Len _ _
      rw [law_true ns hl]
      intro v F2 H2 _ _ r
      cases r
      rfl⟩) fun _ _ _ _ _ z => z
end UW
open PySem PySem.W PyProof.Rows in
set_option maxRecDepth 100000 in
set_option maxHeartbeats 0 in
theorem PySem.Challenge.cw_tiedrings_k00_first_open_holds : PySem.Challenge.rw_tiedrings_k00_first_open.Holds := by
  w_on; o_law; k_head; (case hw => w_witness2)
  k_fill
  refine UW.walk (l := PySem.Challenge.rw_tiedrings_k00_first_open) rfl rfl (fun w h Y => PySem.W.kIn_of Y) ?F
  case F =>
    intro w mg fa h KX G hmg
    refine' UW.all_mk KX G hmg ?n_abs ?n_bool ?n_int ?n_isinstance ?n_len ?n_list ?n_range ?n_sorted ?n_tuple ?c_HOME ?c_MOST ?am_law_draw ?lm_law_draw ?km_law_draw ?pm_law_draw ?am_law_size ?lm_law_size ?km_law_size ?pm_law_size ?am_law_left ?lm_law_left ?km_law_left ?pm_law_left ?am_law_card ?lm_law_card ?km_law_card ?pm_law_card ?am_law_cards ?lm_law_cards ?km_law_cards ?pm_law_cards ?am_law_bent ?lm_law_bent ?km_law_bent ?pm_law_bent ?am_law_book ?lm_law_book ?km_law_book ?pm_law_book ?am_law_sorted ?lm_law_sorted ?km_law_sorted ?pm_law_sorted ?am_law_top_at ?lm_law_top_at ?km_law_top_at ?pm_law_top_at ?am_law_circle ?lm_law_circle ?km_law_circle ?pm_law_circle ?am_law_gate ?lm_law_gate ?km_law_gate ?pm_law_gate ?am_law_nest ?lm_law_nest ?km_law_nest ?pm_law_nest ?am_law_some_book ?lm_law_some_book ?km_law_some_book ?pm_law_some_book ?am_law_start ?lm_law_start ?km_law_start ?pm_law_start ?am_law_order ?lm_law_order ?km_law_order ?pm_law_order ?am_law_set ?lm_law_set ?km_law_set ?pm_law_set ?am_law_open_entries ?lm_law_open_entries ?km_law_open_entries ?pm_law_open_entries ?am_is_card ?lm_is_card ?km_is_card ?pm_is_card ?am_check_book ?lm_check_book ?km_check_book ?pm_check_book ?am_check_places ?lm_check_places ?km_check_places ?pm_check_places ?am_first_outside ?lm_first_outside ?km_first_outside ?pm_first_outside ?am_first_open ?lm_first_open ?km_first_open ?pm_first_open ?am_law_whole ?lm_law_whole ?km_law_whole ?pm_law_whole ?am_law_same_row ?lm_law_same_row ?km_law_same_row ?pm_law_same_row ?am_law_same_book ?lm_law_same_book ?km_law_same_book ?pm_law_same_book ?am_law_shuts_along ?lm_law_shuts_along ?km_law_shuts_along ?pm_law_shuts_along ?am_law_ahead ?lm_law_ahead ?km_law_ahead ?pm_law_ahead ?am_places_ahead ?lm_places_ahead ?km_places_ahead ?pm_places_ahead ?am_law_tells_ahead ?lm_law_tells_ahead ?km_law_tells_ahead ?pm_law_tells_ahead ?am_law ?lm_law ?km_law ?pm_law
    (case n_abs => k_is)
    (case n_bool => k_is)
    (case n_int => k_is)
    (case n_isinstance => k_is)
    (case n_len => k_is)
    (case n_list => k_is)
    (case n_range => k_is)
    (case n_sorted => k_is)
    (case n_tuple => k_is)
    (case c_HOME => k_is)
    (case c_MOST => k_is)
    (case am_law_draw => k_is)
    (case lm_law_draw => k_is)
    (case km_law_draw => k_is)
    (case pm_law_draw => k_is)
    (case am_law_size => k_is)
    (case lm_law_size => k_is)
    (case km_law_size => k_is)
    (case pm_law_size => k_is)
    (case am_law_left => k_is)
    (case lm_law_left => k_is)
    (case km_law_left => k_is)
    (case pm_law_left => k_is)
    (case am_law_card => k_is)
    (case lm_law_card => k_is)
    (case km_law_card => k_is)
    (case pm_law_card => k_is)
    (case am_law_cards => k_is)
    (case lm_law_cards => k_is)
    (case km_law_cards => k_is)
    (case pm_law_cards => k_is)
    (case am_law_bent => k_is)
    (case lm_law_bent => k_is)
    (case km_law_bent => k_is)
    (case pm_law_bent => k_is)
    (case am_law_book => k_is)
    (case lm_law_book => k_is)
    (case km_law_book => k_is)
    (case pm_law_book => k_is)
    (case am_law_sorted => k_is)
    (case lm_law_sorted => k_is)
    (case km_law_sorted => k_is)
    (case pm_law_sorted => k_is)
    (case am_law_top_at => k_is)
    (case lm_law_top_at => k_is)
    (case km_law_top_at => k_is)
    (case pm_law_top_at => k_is)
    (case am_law_circle => k_is)
    (case lm_law_circle => k_is)
    (case km_law_circle => k_is)
    (case pm_law_circle => k_is)
    (case am_law_gate => k_is)
    (case lm_law_gate => k_is)
    (case km_law_gate => k_is)
    (case pm_law_gate => k_is)
    (case am_law_nest => k_is)
    (case lm_law_nest => k_is)
    (case km_law_nest => k_is)
    (case pm_law_nest => k_is)
    (case am_law_some_book => k_is)
    (case lm_law_some_book => k_is)
    (case km_law_some_book => k_is)
    (case pm_law_some_book => k_is)
    (case am_law_start => k_is)
    (case lm_law_start => k_is)
    (case km_law_start => k_is)
    (case pm_law_start => k_is)
    (case am_law_order => k_is)
    (case lm_law_order => k_is)
    (case km_law_order => k_is)
    (case pm_law_order => k_is)
    (case am_law_set => k_is)
    (case lm_law_set => k_is)
    (case km_law_set => k_is)
    (case pm_law_set => k_is)
    (case am_law_open_entries => k_is)
    (case lm_law_open_entries => k_is)
    (case km_law_open_entries => k_is)
    (case pm_law_open_entries => k_is)
    (case am_is_card => k_is)
    (case lm_is_card => k_is)
    (case km_is_card => k_is)
    (case pm_is_card => k_is)
    (case am_check_book => k_is)
    (case lm_check_book => k_is)
    (case km_check_book => k_is)
    (case pm_check_book => k_is)
    (case am_check_places => k_is)
    (case lm_check_places => k_is)
    (case km_check_places => k_is)
    (case pm_check_places => k_is)
    (case am_first_outside => k_is)
    (case lm_first_outside => k_is)
    (case km_first_outside => k_is)
    (case pm_first_outside => k_is)
    (case am_first_open => k_is)
    (case lm_first_open => k_is)
    (case km_first_open => k_is)
    (case pm_first_open => k_is)
    (case am_law_whole => k_is)
    (case lm_law_whole => k_is)
    (case km_law_whole => k_is)
    (case pm_law_whole => k_is)
    (case am_law_same_row => k_is)
    (case lm_law_same_row => k_is)
    (case km_law_same_row => k_is)
    (case pm_law_same_row => k_is)
    (case am_law_same_book => k_is)
    (case lm_law_same_book => k_is)
    (case km_law_same_book => k_is)
    (case pm_law_same_book => k_is)
    (case am_law_shuts_along => k_is)
    (case lm_law_shuts_along => k_is)
    (case km_law_shuts_along => k_is)
    (case pm_law_shuts_along => k_is)
    (case am_law_ahead => k_is)
    (case lm_law_ahead => k_is)
    (case km_law_ahead => k_is)
    (case pm_law_ahead => k_is)
    (case am_places_ahead => k_is)
    (case lm_places_ahead => k_is)
    (case km_places_ahead => k_is)
    (case pm_places_ahead => k_is)
    (case am_law_tells_ahead => k_is)
    (case lm_law_tells_ahead => k_is)
    (case km_law_tells_ahead => k_is)
    (case pm_law_tells_ahead => k_is)
    (case am_law => k_is)
    (case lm_law => k_is)
    (case km_law => k_is)
    (case pm_law => k_is)

